import PyProof.Rows.All
import Wide.All
import OpenK.AllK
import Wide.FinOn
import HandS.ForMost
import HandS.ForExc
import HandS.TupAny
import HandS.TupLe
import HandS.TupMul
import HandS.IsInst
import HandS.Deep
import HandS.Wide
import HandS.Defaults
import HandS.Flow
import HandS.Style
import HandS.Zip
import HandS.Conv
import HandS.Walk
import HandS.Codes
import HandS.EndTab
import HandS.HeadWalk
import HandS.Lambda
import KE.KExcSuper
import KE.KExcMake
import HandS.SetFor
import HandS.Strs
import HandS.HeadHook4
import HandS.Head0
import HandS.Head1
import HandS.Head2
import HandS.HeadEnd
import PySem.Challenge.RW_stackfirm_k28_whole_beams_that_bend
set_option Elab.async false
set_option linter.all false
set_option maxRecDepth 100000
set_option maxHeartbeats 1000000
/-! F1: values as plain data; the heap hidden. A state is a list of slots: data, or a list that the def itself owns. -/
namespace Fz
open PySem PySem.Spec L2
abbrev D := PyData
/-- what may be raised: the class's name, its text -/
abbrev EX := Str → Str → Prop
def exF : EX := fun _ _ => False
inductive Slot where
  | emp
  | dat (d : D)
  | own (ds : List D)
  | bor (ds : List D)
abbrev Env := List Slot
/-- the heap at a def's entry: what is frozen, all, what may be changed though it stood there, what is not to be frozen -/
structure Gd where
  F0 : Hp
  H0 : Hp
  B : Addr → Prop
  N : Addr → Prop
  P : Addr
  T : List (Addr × Str)
abbrev OffT (g : Gd) (a : Addr) : Prop := ∀ q, (a, q) ∉ g.T

mutual
/-- the value v is the data d in the heap H; lists stand there -/
inductive Dt (K : PySem.W.Frag) (H : Hp) : V → PyData → Prop
  | non : Dt K H .non .none
  | bl (b : Bool) : Dt K H (.bl b) (.bool b)
  | int (i : Int) : Dt K H (.int i) (.int i)
  | str (x : Str) : Dt K H (.str x) (.str x)
  | lst {a : Addr} {xs : List V} {ds : List PyData} : SqL K H a xs → DtAll K H xs ds → Dt K H (.ref a) (.list ds)
  | tup {a : Addr} {xs : List V} {ds : List PyData} : SqT K H a xs → DtAll K H xs ds → Dt K H (.ref a) (.tuple ds)
inductive DtAll (K : PySem.W.Frag) (H : Hp) : List V → List PyData → Prop
  | nil : DtAll K H [] []
  | cons {v : V} {vs : List V} {d : PyData} {ds : List PyData} : Dt K H v d → DtAll K H vs ds → DtAll K H (v :: vs) (d :: ds)
end
mutual
theorem dt_dp {K : PySem.W.Frag} {H : Hp} : ∀ (d : D) (v : V), Dt K H v d → Dp K H v d
  | .none, _, h => by cases h; exact .non
  | .bool _, _, h => by cases h; exact .bl _
  | .int _, _, h => by cases h; exact .int _
  | .str _, _, h => by cases h; exact .str _
  | .list ds, _, h => by
    cases h with
    | lst hs ha => exact .lst hs (dts_dps ds _ ha)
  | .tuple ds, _, h => by
    cases h with
    | tup hs ha => exact .tup hs (dts_dps ds _ ha)
  | .dict _, _, h => by cases h
theorem dts_dps {K : PySem.W.Frag} {H : Hp} : ∀ (ds : List D) (vs : List V), DtAll K H vs ds → DpAll K H vs ds
  | [], _, h => by cases h; exact .nil
  | d :: ds, _, h => by
    cases h with
    | cons h1 h2 => exact .cons (dt_dp d _ h1) (dts_dps ds _ h2)
end
theorem rd_mono {H H' : Hp} {a : Addr} {u : HO} (e : Same H H') (h : Rd H a u) : Rd H' a u := h.elim (fun q => .inl (e _ _ q)) fun ⟨o, q⟩ => .inr ⟨o, e _ _ q⟩
theorem sqL_mono {K : PySem.W.Frag} {H H' : Hp} {a : Addr} {xs : List V} (e : Same H H') (h : SqL K H a xs) : SqL K H' a xs := h.elim (fun q => .inl (rd_mono e q)) .inr
theorem sqT_mono {K : PySem.W.Frag} {H H' : Hp} {a : Addr} {xs : List V} (e : Same H H') (h : SqT K H a xs) : SqT K H' a xs := by
  rcases h with (h | ⟨o, h⟩) | h
  · exact .inl (.inl (e _ _ h))
  · exact .inl (.inr ⟨o, e _ _ h⟩)
  · exact .inr h
mutual
theorem dp_mono {K : PySem.W.Frag} {H H' : Hp} (e : Same H H') : ∀ (d : D) (v : V), Dt K H v d → Dt K H' v d
  | .none, _, h => by cases h; exact .non
  | .bool _, _, h => by cases h; exact .bl _
  | .int _, _, h => by cases h; exact .int _
  | .str _, _, h => by cases h; exact .str _
  | .list ds, _, h => by
    cases h with
    | lst hs ha => exact .lst (sqL_mono e hs) (dpa_mono e ds _ ha)
  | .tuple ds, _, h => by
    cases h with
    | tup hs ha => exact .tup (sqT_mono e hs) (dpa_mono e ds _ ha)
  | .dict _, _, h => by cases h
theorem dpa_mono {K : PySem.W.Frag} {H H' : Hp} (e : Same H H') : ∀ (ds : List D) (vs : List V), DtAll K H vs ds → DtAll K H' vs ds
  | [], _, h => by cases h; exact .nil
  | d :: ds, _, h => by
    cases h with
    | cons h1 h2 => exact .cons (dp_mono e d _ h1) (dpa_mono e ds _ h2)
end
theorem dpa_len {K : PySem.W.Frag} {H : Hp} : ∀ {ds : List D} {vs : List V}, DtAll K H vs ds → vs.length = ds.length
  | [], _, h => by cases h; rfl
  | d :: ds, _, h => by
    cases h with
    | cons h1 h2 => rw [List.length_cons, List.length_cons, dpa_len h2]
theorem dpa_get {K : PySem.W.Frag} {H : Hp} : ∀ {ds : List D} {vs : List V} {i : Nat} {d : D}, DtAll K H vs ds → ds[i]? = some d → ∃ v, vs[i]? = some v ∧ Dt K H v d
  | [], _, i, d, h, e => by simp at e
  | x :: ds, _, 0, d, h, e => by
    cases h with
    | cons h1 h2 =>
      have e' : x = d := Option.some.inj e
      subst e'
      exact ⟨_, rfl, h1⟩
  | x :: ds, _, i + 1, d, h, e => by
    cases h with
    | cons h1 h2 =>
      obtain ⟨v, a, b⟩ := dpa_get (i := i) (d := d) h2 (by simpa using e)
      exact ⟨v, by simpa using a, b⟩
theorem dpa_getV {K : PySem.W.Frag} {H : Hp} {ds : List D} {vs : List V} {i : Nat} {v : V} (h : DtAll K H vs ds) (e : vs[i]? = some v) : ∃ d, ds[i]? = some d ∧ Dt K H v d := by
  have l := dpa_len h
  have hi : i < ds.length := by
    rw [← l]
    exact (List.getElem?_eq_some_iff.mp e).1
  obtain ⟨v', e', p⟩ := dpa_get (i := i) (d := ds[i]) h (List.getElem?_eq_getElem hi)
  rw [e] at e'
  cases e'
  exact ⟨_, List.getElem?_eq_getElem hi, p⟩
theorem dpa_app {K : PySem.W.Frag} {H : Hp} : ∀ {ds es : List D} {vs ws : List V}, DtAll K H vs ds → DtAll K H ws es → DtAll K H (vs ++ ws) (ds ++ es)
  | [], _, _, _, h, g => by cases h; exact g
  | d :: ds, _, _, _, h, g => by
    cases h with
    | cons h1 h2 => exact .cons h1 (dpa_app h2 g)
theorem dpa_one {K : PySem.W.Frag} {H : Hp} {v : V} {d : D} (h : Dt K H v d) : DtAll K H [v] [d] := .cons h .nil
theorem dpa_of {K : PySem.W.Frag} {H : Hp} : ∀ {ds : List D} {vs : List V}, vs.length = ds.length → (∀ (i : Nat) (v : V) (d : D), vs[i]? = some v → ds[i]? = some d → Dt K H v d) → DtAll K H vs ds
  | [], [], _, _ => .nil
  | [], _ :: _, h, _ => by simp at h
  | _ :: _, [], h, _ => by simp at h
  | d :: ds, v :: vs, h, f => .cons (f 0 v d rfl rfl) (dpa_of (by simpa using h) fun i v' d' a b => f (i + 1) v' d' (by simpa using a) (by simpa using b))
theorem dpa_set {K : PySem.W.Frag} {H : Hp} {v : V} {d : D} (h : Dt K H v d) : ∀ {ds : List D} {vs : List V} (i : Nat), DtAll K H vs ds → DtAll K H (vs.set i v) (ds.set i d)
  | [], _, _, g => by cases g; exact .nil
  | _ :: _, _, 0, g => by
    cases g with
    | cons _ h2 => exact .cons h h2
  | _ :: _, _, i + 1, g => by
    cases g with
    | cons h1 h2 => exact .cons h1 (dpa_set h i h2)
theorem dpa_take {K : PySem.W.Frag} {H : Hp} : ∀ {ds : List D} {vs : List V} (n : Nat), DtAll K H vs ds → DtAll K H (vs.take n) (ds.take n)
  | _, _, 0, _ => by rw [List.take_zero, List.take_zero]; exact .nil
  | [], _, _ + 1, g => by cases g; exact .nil
  | _ :: _, _, n + 1, g => by
    cases g with
    | cons h1 h2 => exact .cons h1 (dpa_take n h2)
theorem dpa_drop {K : PySem.W.Frag} {H : Hp} : ∀ {ds : List D} {vs : List V} (n : Nat), DtAll K H vs ds → DtAll K H (vs.drop n) (ds.drop n)
  | _, _, 0, g => g
  | [], _, _ + 1, g => by cases g; exact .nil
  | _ :: _, _, n + 1, g => by
    cases g with
    | cons h1 h2 => exact dpa_drop n h2

theorem pd_len {α β : Type} {F : α → β → Prop} : ∀ {l : List α} {m : List β}, Paired F l m → l.length = m.length
  | _, _, .nil => rfl
  | _, _, .cons _ t => congrArg (· + 1) (pd_len t)
theorem pd_get {α β : Type} {F : α → β → Prop} : ∀ {l : List α} {m : List β} {i : Nat} {b : β}, Paired F l m → m[i]? = some b → ∃ a, l[i]? = some a ∧ F a b
  | _, _, _, _, .nil, e => by simp at e
  | _, _, 0, _, .cons r _, e => by
    have e' := Option.some.inj e
    subst e'
    exact ⟨_, rfl, r⟩
  | _, _, i + 1, b, .cons _ t, e => by
    obtain ⟨a, h1, h2⟩ := pd_get (i := i) (b := b) t (by simpa using e)
    exact ⟨a, by simpa using h1, h2⟩
theorem pd_set {α β : Type} {F : α → β → Prop} {a : α} {b : β} (r : F a b) : ∀ {l : List α} {m : List β} (i : Nat), Paired F l m → Paired F (l.set i a) (m.set i b)
  | _, _, _, .nil => .nil
  | _, _, 0, .cons _ t => .cons r t
  | _, _, i + 1, .cons q t => .cons q (pd_set r i t)
theorem pd_imp {α β : Type} {F G : α → β → Prop} (f : ∀ a b, F a b → G a b) : ∀ {l : List α} {m : List β}, Paired F l m → Paired G l m
  | _, _, .nil => .nil
  | _, _, .cons r t => .cons (f _ _ r) (pd_imp f t)
/-- .. told of the places -/
theorem pd_impI {α β : Type} {F G : α → β → Prop} : ∀ {l : List α} {m : List β}, Paired F l m → (∀ (i : Nat) a b, l[i]? = some a → m[i]? = some b → F a b → G a b) → Paired G l m
  | _, _, .nil, _ => .nil
  | _, _, .cons r t, f => .cons (f 0 _ _ rfl rfl r) (pd_impI t fun i a b x y => f (i + 1) a b (by simpa using x) (by simpa using y))

def SlOk (K : PySem.W.Frag) (g : Gd) (F H : Hp) : Option V → Slot → Prop
  | _, .emp => True
  | v, .dat d => ∃ x, v = some x ∧ Dt K F x d
  | v, .own ds => ∃ a, v = some (V.ref a) ∧ (g.H0 a = none ∨ g.B a) ∧ ¬ g.N a ∧ F a = none ∧ ∃ xs, H a = some (.lst xs) ∧ DtAll K F xs ds
  | v, .bor ds => ∃ a, v = some (V.ref a) ∧ (a = g.P ∧ (g.H0 a = none ∨ g.B a)) ∧ F a = none ∧ ∃ xs, H a = some (.lst xs) ∧ DtAll K F xs ds
def Own (s : Slot) : Prop := match s with
  | .own _ => True
  | .bor _ => True
  | _ => False
structure Ok (K : PySem.W.Frag) (g : Gd) (F H : Hp) (σ : L2.St) (ρ : Env) : Prop where
  f0 : Same g.F0 F
  fh : Same F H
  keep : ∀ a o, ¬ g.B a → OffT g a → g.H0 a = some o → H a = some o
  nf : ∀ a, g.N a → F a = none ∧ ∃ o, H a = some o
  bor : ∀ a, g.B a → ∃ xs, H a = some (.lst xs)
  sl : Paired (SlOk K g F H) σ ρ
  dis : ∀ (i j : Nat) (s u : Slot) (a : Addr), i ≠ j → ρ[i]? = some s → ρ[j]? = some u → Own s → Own u → σ[i]? = some (some (V.ref a)) → σ[j]? = some (some (V.ref a)) → False
  ft : ∀ a ps, F a = some (.tbl ps) → g.F0 a = some (.tbl ps)
  tb : LamX.Tabs g.T H

theorem same_free {H H' : Hp} (e : Same H H') {a : Addr} (h : H' a = none) : H a = none := by
  cases q : H a with
  | none => rfl
  | some o => rw [e a o q] at h; cases h
theorem same_lay {H : Hp} {p : Addr} {o : HO} (h : H p = none) : Same H (upd H p o) := fun b u e => by
  rw [upd_ne (ne_of_none e h)]
  exact e
theorem same_lay2 {F H : Hp} {p : Addr} {o : HO} (e : Same F H) (h : F p = none) : Same F (upd H p o) := fun b u q => by
  rw [upd_ne (ne_of_none q h)]
  exact e b u q
theorem same_both {F H : Hp} {p : Addr} {o : HO} (e : Same F H) : Same (upd F p o) (upd H p o) := fun b u q => by
  by_cases hb : b = p
  · subst hb
    rw [upd_same] at q ⊢
    exact q
  · rw [upd_ne hb] at q ⊢
    exact e b u q

/-- what a call (or any step) leaves: more is frozen, more stands -/
structure Gr (F H F' H' : Hp) : Prop where
  ff : Same F F'
  fh : Same F' H'
  hh : Same H H'
  nf : ∀ a o, F a = none → H a = some o → F' a = none
  ft : ∀ a ps, F' a = some (.tbl ps) → F a = some (.tbl ps)
theorem Gr.refl {F H : Hp} (e : Same F H) : Gr F H F H := ⟨Same.refl _, e, Same.refl _, fun _ _ h _ => h, fun _ _ h => h⟩
theorem Gr.trans {F H F1 H1 F2 H2 : Hp} (a : Gr F H F1 H1) (b : Gr F1 H1 F2 H2) : Gr F H F2 H2 :=
  ⟨a.ff.trans b.ff, b.fh, a.hh.trans b.hh, fun x o h1 h2 => b.nf x o (a.nf x o h1 h2) (a.hh x o h2), fun x ps h => a.ft x ps (b.ft x ps h)⟩
section
variable {K : PySem.W.Frag} {g : Gd} {F H F' H' : Hp} {σ : L2.St} {ρ : Env}
theorem SlOk.grow {v : Option V} {s : Slot} (h : SlOk K g F H v s) (r : Gr F H F' H') : SlOk K g F' H' v s := by
  cases s with
  | emp => exact trivial
  | dat d =>
    obtain ⟨x, e, q⟩ := h
    exact ⟨x, e, dp_mono r.ff d x q⟩
  | own ds =>
    obtain ⟨a, e, h1, h2, h3, xs, h4, h5⟩ := h
    exact ⟨a, e, h1, h2, r.nf a _ h3 h4, xs, r.hh a _ h4, dpa_mono r.ff ds xs h5⟩
  | bor ds =>
    obtain ⟨a, e, h1, h3, xs, h4, h5⟩ := h
    exact ⟨a, e, h1, r.nf a _ h3 h4, xs, r.hh a _ h4, dpa_mono r.ff ds xs h5⟩
theorem Ok.grow (k : Ok K g F H σ ρ) (r : Gr F H F' H') : Ok K g F' H' σ ρ where
  f0 := k.f0.trans r.ff
  fh := r.fh
  keep := fun a o h1 ht h2 => r.hh a o (k.keep a o h1 ht h2)
  ft := fun a ps h => k.ft a ps (r.ft a ps h)
  tb := k.tb.ext r.hh
  nf := fun a h1 => by
    obtain ⟨h2, o, h3⟩ := k.nf a h1
    exact ⟨r.nf a o h2 h3, o, r.hh a o h3⟩
  bor := fun a h => by
    obtain ⟨xs, h2⟩ := k.bor a h
    exact ⟨xs, r.hh a _ h2⟩
  sl := pd_imp (fun _ _ h => h.grow r) k.sl
  dis := k.dis
theorem Gr.lay {p : Addr} {o : HO} (e : Same F H) (h : H p = none) : Gr F H F (upd H p o) := ⟨Same.refl _, same_lay2 e (same_free e h), same_lay h, fun _ _ q _ => q, fun _ _ q => q⟩
theorem no_tbl {F : Hp} {p a : Addr} {o : HO} {ps : Array Value} (ho : ∀ ps, o ≠ .tbl ps) (q : upd F p o a = some (.tbl ps)) : F a = some (.tbl ps) := by
  by_cases h : a = p
  · subst h
    rw [upd_same] at q
    exact absurd (Option.some.inj q) (ho ps)
  · rw [upd_ne h] at q
    exact q
theorem Gr.frz {p : Addr} {o : HO} (e : Same F H) (h : H p = none) (ho : ∀ ps, o ≠ .tbl ps := by intro _ z; cases z) : Gr F H (upd F p o) (upd H p o) :=
  ⟨same_lay (same_free e h), same_both e, same_lay h, fun a u q r => by rw [upd_ne (ne_of_none r h)]; exact q, fun a ps q => no_tbl ho q⟩
/-- a new thing's address is nobody's -/
structure Nob (g : Gd) (σ : L2.St) (ρ : Env) (F : Hp) (p : Addr) : Prop where
  nn : ¬ g.N p
  nf : F p = none
  no : ∀ (i : Nat) (s : Slot), ρ[i]? = some s → Own s → σ[i]? ≠ some (some (V.ref p))
structure New (g : Gd) (σ : L2.St) (ρ : Env) (F : Hp) (p : Addr) : Prop extends Nob g σ ρ F p where
  h0 : g.H0 p = none
theorem Ok.new (k : Ok K g F H σ ρ) {p : Addr} (h : H p = none) : New g σ ρ F p where
  h0 := by
    cases q : g.H0 p with
    | none => rfl
    | some o =>
      by_cases b : g.B p
      · obtain ⟨xs, e⟩ := k.bor p b
        rw [h] at e; cases e
      · rw [k.keep p o b (fun t ht => by
          obtain ⟨ps, e, _⟩ := k.tb _ ht
          rw [h] at e; cases e) q] at h
        cases h
  nn := fun b => by
    obtain ⟨_, o, e⟩ := k.nf p b
    rw [h] at e; cases e
  nf := same_free k.fh h
  no := fun i s e o q => by
    obtain ⟨a, e1, e2⟩ := pd_get k.sl e
    rw [q] at e1
    have e1 := Option.some.inj e1
    subst e1
    cases s with
    | emp => exact o
    | dat d => exact o
    | own ds =>
      obtain ⟨a, ea, _, _, _, xs, h4, _⟩ := e2
      cases ea
      rw [h] at h4; cases h4
    | bor ds =>
      obtain ⟨a, ea, _, _, xs, h4, _⟩ := e2
      cases ea
      rw [h] at h4; cases h4
/-- a new list is frozen -/
theorem Ok.freeze (k : Ok K g F H σ ρ) {p : Addr} {xs : List V} (n : Nob g σ ρ F p) (e : H p = some (.lst xs)) : Ok K g (upd F p (.lst xs)) H σ ρ ∧ Same F (upd F p (.lst xs)) := by
  have s1 : Same F (upd F p (.lst xs)) := same_lay n.nf
  refine ⟨⟨k.f0.trans s1, fun b u q => ?_, k.keep, fun a h1 => ?_, k.bor, ?_, k.dis, fun a ps q => k.ft a ps (no_tbl (by intro _ z; cases z) q), k.tb⟩, s1⟩
  · by_cases hb : b = p
    · subst hb
      rw [upd_same] at q; rw [← q]; exact e
    · rw [upd_ne hb] at q
      exact k.fh b u q
  · have ne : a ≠ p := fun z => n.nn (by rw [← z]; exact h1)
    rw [upd_ne ne]
    exact k.nf a h1
  · refine pd_impI k.sl fun i v s e1 e2 h => ?_
    cases s with
    | emp => exact trivial
    | dat d =>
      obtain ⟨x, ex, q⟩ := h
      exact ⟨x, ex, dp_mono s1 d x q⟩
    | own ds =>
      obtain ⟨a, ea, h1, h2, h3, ys, h4, h5⟩ := h
      have ne : a ≠ p := fun z => n.no i _ e2 trivial (by rw [e1, ea, z])
      exact ⟨a, ea, h1, h2, by rw [upd_ne ne]; exact h3, ys, h4, dpa_mono s1 ds ys h5⟩
    | bor ds =>
      obtain ⟨a, ea, h1, h3, ys, h4, h5⟩ := h
      have ne : a ≠ p := fun z => n.no i _ e2 trivial (by rw [e1, ea, z])
      exact ⟨a, ea, h1, by rw [upd_ne ne]; exact h3, ys, h4, dpa_mono s1 ds ys h5⟩
/-- a slot is set to data -/
theorem Ok.setD (k : Ok K g F H σ ρ) (i : Nat) {v : V} {d : D} (q : Dt K F v d) : Ok K g F H (σ.set i (some v)) (ρ.set i (.dat d)) := by
  refine ⟨k.f0, k.fh, k.keep, k.nf, k.bor, pd_set ⟨v, rfl, q⟩ i k.sl, fun a b s u x hab e1 e2 o1 o2 p1 p2 => ?_, k.ft, k.tb⟩
  by_cases ha : i = a
  · subst ha
    rw [List.getElem?_set] at e1
    simp only [if_pos] at e1
    split at e1
    · cases e1; exact o1
    · cases e1
  · by_cases hb : i = b
    · subst hb
      rw [List.getElem?_set] at e2
      simp only [if_pos] at e2
      split at e2
      · cases e2; exact o2
      · cases e2
    · rw [List.getElem?_set_ne ha] at e1 p1
      rw [List.getElem?_set_ne hb] at e2 p2
      exact k.dis a b s u x hab e1 e2 o1 o2 p1 p2
/-- .. is forgotten -/
theorem Ok.setE (k : Ok K g F H σ ρ) (i : Nat) (v : Option V) : Ok K g F H (σ.set i v) (ρ.set i .emp) := by
  refine ⟨k.f0, k.fh, k.keep, k.nf, k.bor, pd_set trivial i k.sl, fun a b s u x hab e1 e2 o1 o2 p1 p2 => ?_, k.ft, k.tb⟩
  by_cases ha : i = a
  · subst ha
    rw [List.getElem?_set] at e1
    simp only [if_pos] at e1
    split at e1
    · cases e1; exact o1
    · cases e1
  · by_cases hb : i = b
    · subst hb
      rw [List.getElem?_set] at e2
      simp only [if_pos] at e2
      split at e2
      · cases e2; exact o2
      · cases e2
    · rw [List.getElem?_set_ne ha] at e1 p1
      rw [List.getElem?_set_ne hb] at e2 p2
      exact k.dis a b s u x hab e1 e2 o1 o2 p1 p2
/-- a new list becomes a slot's own -/
theorem Ok.setO (k : Ok K g F H σ ρ) (i : Nat) {p : Addr} {xs : List V} {ds : List D} (n : New g σ ρ F p) (e : H p = some (.lst xs)) (q : DtAll K F xs ds) : Ok K g F H (σ.set i (some (.ref p))) (ρ.set i (.own ds)) := by
  refine ⟨k.f0, k.fh, k.keep, k.nf, k.bor, pd_set ⟨p, rfl, .inl n.h0, n.nn, n.nf, xs, e, q⟩ i k.sl, fun a b s u x hab e1 e2 o1 o2 p1 p2 => ?_, k.ft, k.tb⟩
  by_cases ha : i = a
  · subst ha
    have hb : i ≠ b := hab
    rw [List.getElem?_set_ne hb] at e2 p2
    rw [List.getElem?_set] at p1
    simp only [if_pos] at p1
    split at p1
    · cases p1
      exact n.no b u e2 o2 p2
    · cases p1
  · by_cases hb : i = b
    · subst hb
      rw [List.getElem?_set_ne ha] at e1 p1
      rw [List.getElem?_set] at p2
      simp only [if_pos] at p2
      split at p2
      · cases p2
        exact n.no a s e1 o1 p1
      · cases p2
    · rw [List.getElem?_set_ne ha] at e1 p1
      rw [List.getElem?_set_ne hb] at e2 p2
      exact k.dis a b s u x hab e1 e2 o1 o2 p1 p2
theorem set_get {α : Type} {l : List α} {i : Nat} {x : α} (h : l[i]? = some x) : l.set i x = l := by
  apply List.ext_getElem?
  intro j
  by_cases e : i = j
  · subst e
    rw [List.getElem?_set_self (List.getElem?_eq_some_iff.mp h).1, h]
  · rw [List.getElem?_set_ne e]
@[simp] def reown : Slot → List D → Slot
  | .own _, ds => .own ds
  | .bor _, ds => .bor ds
  | s, _ => s
/-- the list at a slot -/
@[simp] def lstAt (ρ : Env) (i : Nat) : Option (List D) := match ρ[i]? with
  | some (.own ds) => some ds
  | some (.bor ds) => some ds
  | _ => none
@[simp] def setAt (ρ : Env) (i : Nat) (ds : List D) : Env := match ρ[i]? with
  | some s => ρ.set i (reown s ds)
  | none => ρ
theorem Ok.lstAt (k : Ok K g F H σ ρ) {i : Nat} {ds : List D} (h : lstAt ρ i = some ds) : ∃ a xs, σ[i]? = some (some (V.ref a)) ∧ F a = none ∧ H a = some (.lst xs) ∧ DtAll K F xs ds ∧ (g.H0 a = none ∨ g.B a) := by
  unfold Fz.lstAt at h
  cases e : ρ[i]? with
  | none => rw [e] at h; cases h
  | some s =>
    rw [e] at h
    obtain ⟨v, ev, q⟩ := pd_get k.sl e
    cases s with
    | emp => cases h
    | dat d => cases h
    | own es =>
      cases h
      obtain ⟨a, ea, h1, h2, h3, xs, h4, h5⟩ := q
      exact ⟨a, xs, by rw [ev, ea], h3, h4, h5, h1⟩
    | bor es =>
      cases h
      obtain ⟨a, ea, h1, h3, xs, h4, h5⟩ := q
      exact ⟨a, xs, by rw [ev, ea], h3, h4, h5, h1.2⟩
theorem tabs_upd {T : List (Addr × Str)} {a : Addr} {o : HO} (t : LamX.Tabs T H) (h : ∃ xs, H a = some (.lst xs)) : LamX.Tabs T (upd H a o) := fun p hp => by
  obtain ⟨xs, h⟩ := h
  obtain ⟨ps, e1, e2, e3⟩ := t p hp
  refine ⟨ps, ?_, e2, fun pos cv hc => ?_⟩
  · rw [upd_ne (fun z => by rw [z, h] at e1; cases e1)]
    exact e1
  · obtain ⟨c, q1, q2⟩ := e3 pos cv hc
    exact ⟨c, q1, by rw [upd_ne (fun z => by rw [z, h] at q2; cases q2)]; exact q2⟩
theorem Ok.off (k : Ok K g F H σ ρ) {a : Addr} {xs : List V} (h : H a = some (.lst xs)) : OffT g a := fun q hq => by
  obtain ⟨ps, e, _⟩ := k.tb _ hq
  rw [h] at e; cases e
/-- the slot's list is changed where it stands -/
theorem Ok.mut (k : Ok K g F H σ ρ) {i : Nat} {ds es : List D} {a : Addr} {ys : List V} (h : Fz.lstAt ρ i = some ds) (ha : σ[i]? = some (some (V.ref a))) (q : DtAll K F ys es) :
    Ok K g F (upd H a (.lst ys)) σ (setAt ρ i es) := by
  unfold Fz.lstAt at h
  cases e : ρ[i]? with
  | none => rw [e] at h; cases h
  | some s =>
    rw [e] at h
    have hs : Own s := by
      cases s with
      | emp => cases h
      | dat d => cases h
      | own es => exact trivial
      | bor es => exact trivial
    obtain ⟨v, ev, sq⟩ := pd_get k.sl e
    rw [ha] at ev
    have ev := Option.some.inj ev
    subst ev
    have hF : F a = none ∧ (g.H0 a = none ∨ g.B a) := by
      cases s with
      | emp => cases h
      | dat d => cases h
      | own es =>
        obtain ⟨b, eb, h1, h2, h3, _⟩ := sq
        cases eb
        exact ⟨h3, h1⟩
      | bor es =>
        obtain ⟨b, eb, h1, h3, _⟩ := sq
        cases eb
        exact ⟨h3, h1.2⟩
    have es' : setAt ρ i es = ρ.set i (reown s es) := by
      unfold setAt
      rw [e]
    rw [es']
    have hi : i < ρ.length := (List.getElem?_eq_some_iff.mp e).1
    have hHa : ∃ xs, H a = some (.lst xs) := by
      cases s with
      | emp => cases h
      | dat d => cases h
      | own es =>
        obtain ⟨b, eb, _, _, _, xs, h4, _⟩ := sq
        cases eb
        exact ⟨xs, h4⟩
      | bor es =>
        obtain ⟨b, eb, _, _, xs, h4, _⟩ := sq
        cases eb
        exact ⟨xs, h4⟩
    refine ⟨k.f0, same_lay2 k.fh hF.1, fun b o h1 ht h2 => ?_, fun b hb => ?_, fun b hb => ?_, ?_, fun m j s1 u x hab e1 e2 o1 o2 p1 p2 => ?_, k.ft, tabs_upd k.tb hHa⟩
    · rw [upd_ne (fun z => ?_)]
      · exact k.keep b o h1 ht h2
      · subst z
        rcases hF.2 with z | z
        · rw [z] at h2; cases h2
        · exact h1 z
    · obtain ⟨h1, o, h2⟩ := k.nf b hb
      by_cases z : b = a
      · subst z
        exact ⟨h1, _, upd_same⟩
      · exact ⟨h1, o, by rw [upd_ne z]; exact h2⟩
    · obtain ⟨xs, h2⟩ := k.bor b hb
      by_cases z : b = a
      · subst z
        exact ⟨ys, upd_same⟩
      · exact ⟨xs, by rw [upd_ne z]; exact h2⟩
    · have base : Paired (fun v s => SlOk K g F H v s) σ ρ := k.sl
      have e0 : σ = σ.set i (some (.ref a)) := (set_get ha).symm
      rw [e0]
      have all : ∀ (n : Nat) (v : Option V) (u : Slot), (σ.set i (some (.ref a)))[n]? = some v → (ρ.set i (reown s es))[n]? = some u → SlOk K g F (upd H a (.lst ys)) v u := by
        intro n v u e1 e2
        by_cases hn : i = n
        · subst hn
          rw [List.getElem?_set_self (by rw [pd_len k.sl]; exact hi)] at e1
          rw [List.getElem?_set_self hi] at e2
          cases e1
          cases e2
          cases s with
          | emp => exact trivial
          | dat d => cases h
          | own es0 =>
            obtain ⟨b, eb, h1, h2, h3, _⟩ := sq
            cases eb
            exact ⟨_, rfl, h1, h2, h3, ys, upd_same, q⟩
          | bor es0 =>
            obtain ⟨b, eb, h1, h3, _⟩ := sq
            cases eb
            exact ⟨_, rfl, h1, h3, ys, upd_same, q⟩
        · rw [List.getElem?_set_ne hn] at e1 e2
          obtain ⟨v', ev', sq'⟩ := pd_get k.sl e2
          rw [e1] at ev'
          have ev' := Option.some.inj ev'
          subst ev'
          cases u with
          | emp => exact trivial
          | dat d => exact sq'
          | own es0 =>
            obtain ⟨b, eb, h1, h2, h3, xs, h4, h5⟩ := sq'
            have ne : b ≠ a := fun z => k.dis i n s _ a hn e e2 hs trivial ha (by rw [e1, eb, z])
            exact ⟨b, eb, h1, h2, h3, xs, by rw [upd_ne ne]; exact h4, h5⟩
          | bor es0 =>
            obtain ⟨b, eb, h1, h3, xs, h4, h5⟩ := sq'
            have ne : b ≠ a := fun z => k.dis i n s _ a hn e e2 hs trivial ha (by rw [e1, eb, z])
            exact ⟨b, eb, h1, h3, xs, by rw [upd_ne ne]; exact h4, h5⟩
      exact pd_impI (pd_set (F := fun _ _ => True) trivial i (pd_imp (fun _ _ _ => trivial) k.sl)) fun n v u e1 e2 _ => all n v u e1 e2
    · by_cases hm : i = m
      · subst hm
        rw [List.getElem?_set_ne hab] at e2
        exact k.dis i j s u x hab e e2 hs o2 p1 p2
      · rw [List.getElem?_set_ne hm] at e1
        by_cases hj : i = j
        · subst hj
          exact k.dis m i s1 s x hab e1 e o1 hs p1 p2
        · rw [List.getElem?_set_ne hj] at e2
          exact k.dis m j s1 u x hab e1 e2 o1 o2 p1 p2
/-! ### a turn of a comprehension: the list that grows is nobody's -/
def owned (σ : L2.St) (ρ : Env) (a : Addr) : Prop := ∃ (i : Nat) (s : Slot), ρ[i]? = some s ∧ Own s ∧ σ[i]? = some (some (V.ref a))
def gTurn (g : Gd) (F H : Hp) (σ : L2.St) (ρ : Env) (p : Addr) : Gd := ⟨F, H, owned σ ρ, fun a => g.N a ∨ a = p, g.P, g.T⟩
theorem Ok.ownB (k : Ok K g F H σ ρ) {a : Addr} (o : owned σ ρ a) : (g.H0 a = none ∨ g.B a) ∧ F a = none ∧ ∃ xs, H a = some (.lst xs) := by
  obtain ⟨i, s, e, os, ev⟩ := o
  obtain ⟨v, ev', q⟩ := pd_get k.sl e
  rw [ev] at ev'
  have ev' := Option.some.inj ev'
  subst ev'
  cases s with
  | emp => exact os.elim
  | dat d => exact os.elim
  | own ds =>
    obtain ⟨b, eb, h1, h2, h3, xs, h4, _⟩ := q
    cases eb
    exact ⟨h1, h3, xs, h4⟩
  | bor ds =>
    obtain ⟨b, eb, h1, h3, xs, h4, _⟩ := q
    cases eb
    exact ⟨h1.2, h3, xs, h4⟩
theorem Ok.turn (k : Ok K g F H σ ρ) {p : Addr} {o : HO} (hF : F p = none) (hH : H p = some o) (no : ¬ owned σ ρ p) : Ok K (gTurn g F H σ ρ p) F H σ ρ where
  f0 := Same.refl _
  fh := k.fh
  keep := fun _ _ _ _ h => h
  ft := fun _ _ h => h
  tb := k.tb
  nf := fun a h => by
    rcases h with h | h
    · exact k.nf a h
    · subst h; exact ⟨hF, o, hH⟩
  bor := fun a h => (k.ownB h).2.2
  sl := pd_impI k.sl fun i v s e1 e2 h => by
    cases s with
    | emp => exact trivial
    | dat d => exact h
    | own ds =>
      obtain ⟨a, ea, h1, h2, h3, xs, h4, h5⟩ := h
      have ow : owned σ ρ a := ⟨i, _, e2, trivial, by rw [e1, ea]⟩
      refine ⟨a, ea, .inr ow, fun z => ?_, h3, xs, h4, h5⟩
      rcases z with z | z
      · exact h2 z
      · exact no (by rw [← z]; exact ow)
    | bor ds =>
      obtain ⟨a, ea, h1, h3, xs, h4, h5⟩ := h
      exact ⟨a, ea, ⟨h1.1, .inr ⟨i, _, e2, trivial, by rw [e1, ea]⟩⟩, h3, xs, h4, h5⟩
  dis := k.dis
theorem Ok.back {F' H' : Hp} {σ' : L2.St} {ρ' : Env} {p : Addr} (k : Ok K g F H σ ρ) (k' : Ok K (gTurn g F H σ ρ p) F' H' σ' ρ') (no : ¬ owned σ ρ p) : Ok K g F' H' σ' ρ' ∧ (∀ xs, H p = some (.lst xs) → H' p = some (.lst xs)) ∧ F' p = none := by
  have kp : ∀ a o, H a = some o → ¬ owned σ ρ a → OffT g a → H' a = some o := fun a o h1 h2 ht => k'.keep a o h2 ht h1
  have own : ∀ a, ((gTurn g F H σ ρ p).H0 a = none ∨ (gTurn g F H σ ρ p).B a) → (g.H0 a = none ∨ g.B a) := fun a h => by
    rcases h with h | h
    · cases e : g.H0 a with
      | none => exact .inl rfl
      | some o =>
        by_cases b : g.B a
        · exact .inr b
        · have z : H a = none := h
          rw [k.keep a o b (fun t ht => by
            obtain ⟨ps, e', _⟩ := k.tb _ ht
            rw [z] at e'; cases e') e] at z
          cases z
    · exact (k.ownB h).1
  refine ⟨⟨k.f0.trans k'.f0, k'.fh, fun a o h1 ht h2 => kp a o (k.keep a o h1 ht h2) (fun z => ?_) ht, fun a h => k'.nf a (.inl h), fun a h => ?_, pd_imp (fun v s h => ?_) k'.sl, k'.dis, fun a ps h => k.ft a ps (k'.ft a ps h), k'.tb⟩, fun xs h => kp p _ h no (k.off h), (k'.nf p (.inr rfl)).1⟩
  · rcases (k.ownB z).1 with q | q
    · rw [q] at h2; cases h2
    · exact h1 q
  · by_cases z : owned σ ρ a
    · exact k'.bor a z
    · obtain ⟨xs, e⟩ := k.bor a h
      exact ⟨xs, kp a _ e z (k.off e)⟩
  · cases s with
    | emp => exact trivial
    | dat d => exact h
    | own ds =>
      obtain ⟨a, ea, h1, h2, h3, r⟩ := h
      exact ⟨a, ea, own a h1, fun z => h2 (.inl z), h3, r⟩
    | bor ds =>
      obtain ⟨a, ea, h1, h3, r⟩ := h
      exact ⟨a, ea, ⟨h1.1, own a h1.2⟩, h3, r⟩
/-- a thing that nobody owns is laid or changed -/
theorem Ok.lay (k : Ok K g F H σ ρ) {p : Addr} {ys : List V} (hF : F p = none) (h0 : g.H0 p = none) (no : ¬ owned σ ρ p) (hl : ∃ xs, H p = some (.lst xs)) : Ok K g F (upd H p (.lst ys)) σ ρ where
  f0 := k.f0
  fh := same_lay2 k.fh hF
  keep := fun a o h1 ht h2 => by
    rw [upd_ne (fun z => by rw [z, h0] at h2; cases h2)]
    exact k.keep a o h1 ht h2
  ft := k.ft
  tb := tabs_upd k.tb hl
  nf := fun a h => by
    obtain ⟨h1, o, h2⟩ := k.nf a h
    by_cases z : a = p
    · subst z; exact ⟨h1, _, upd_same⟩
    · exact ⟨h1, o, by rw [upd_ne z]; exact h2⟩
  bor := fun a h => by
    obtain ⟨xs, h2⟩ := k.bor a h
    by_cases z : a = p
    · subst z; exact ⟨_, upd_same⟩
    · exact ⟨xs, by rw [upd_ne z]; exact h2⟩
  sl := pd_impI k.sl fun i v s e1 e2 h => by
    cases s with
    | emp => exact trivial
    | dat d => exact h
    | own ds =>
      obtain ⟨a, ea, h1, h2, h3, xs, h4, h5⟩ := h
      have ne : a ≠ p := fun z => no ⟨i, _, e2, trivial, by rw [e1, ea, z]⟩
      exact ⟨a, ea, h1, h2, h3, xs, by rw [upd_ne ne]; exact h4, h5⟩
    | bor ds =>
      obtain ⟨a, ea, h1, h3, xs, h4, h5⟩ := h
      have ne : a ≠ p := fun z => no ⟨i, _, e2, trivial, by rw [e1, ea, z]⟩
      exact ⟨a, ea, h1, h3, xs, by rw [upd_ne ne]; exact h4, h5⟩
  dis := k.dis
end
end Fz

set_option maxRecDepth 100000
set_option maxHeartbeats 1000000
/-! F2: readings over plain data; the rules for expressions. -/
namespace Fz
open PySem PySem.Spec L2
abbrev WE := EX → Env → (D → Env → Prop) → Prop
abbrev WT := EX → Env → (Bool → Env → Prop) → Prop
abbrev WL := EX → Env → (List D → Env → Prop) → Prop
abbrev WG := D → Env → (Env → Prop) → Prop
structure WEnds where
  nx : Env → Prop
  rt : D → Env → Prop
  bk : Env → Prop := fun _ => False
  ct : Env → Prop := fun _ => False
  rn : List D → Env → Prop := fun _ _ => False
abbrev WS := EX → WEnds → Env → Prop

/-- a value that is looked at once: data, or a list that a slot owns -/
def Pk (K : PySem.W.Frag) (F H : Hp) (v : V) (d : D) : Prop := Dt K F v d ∨ ∃ a xs ds, v = .ref a ∧ d = .list ds ∧ H a = some (.lst xs) ∧ DtAll K F xs ds
def kE (K : PySem.W.Frag) (g : Gd) (x : EX) (w : WE) : TE := fun σ H Q => ∃ (F : Hp) (ρ : Env) (P : D → Env → Prop), Ok K g F H σ ρ ∧ w x ρ P ∧
  ∀ v F2 H2 d ρ2, Ok K g F2 H2 σ ρ2 → Same F F2 → Dt K F2 v d → P d ρ2 → Q v H2
def kP (K : PySem.W.Frag) (g : Gd) (x : EX) (w : WE) : TE := fun σ H Q => ∃ (F : Hp) (ρ : Env) (P : D → Env → Prop), Ok K g F H σ ρ ∧ w x ρ P ∧
  ∀ v F2 H2 d ρ2, Ok K g F2 H2 σ ρ2 → Same F F2 → Pk K F2 H2 v d → P d ρ2 → Q v H2
def kN (K : PySem.W.Frag) (g : Gd) (x : EX) (w : WL) : TE := fun σ H Q => ∃ (F : Hp) (ρ : Env) (P : List D → Env → Prop), Ok K g F H σ ρ ∧ w x ρ P ∧
  ∀ p xs F2 H2 ds ρ2, Ok K g F2 H2 σ ρ2 → Same F F2 → New g σ ρ2 F2 p → H2 p = some (.lst xs) → DtAll K F2 xs ds → P ds ρ2 → Q (.ref p) H2
def kT (K : PySem.W.Frag) (g : Gd) (x : EX) (w : WT) : TT := fun σ H Q => ∃ (F : Hp) (ρ : Env) (P : Bool → Env → Prop), Ok K g F H σ ρ ∧ w x ρ P ∧
  ∀ b F2 H2 ρ2, Ok K g F2 H2 σ ρ2 → Same F F2 → P b ρ2 → Q b H2
def kA (K : PySem.W.Frag) (g : Gd) (x : EX) (w : WL) : TA := fun σ H Q => ∃ (F : Hp) (ρ : Env) (P : List D → Env → Prop), Ok K g F H σ ρ ∧ w x ρ P ∧
  ∀ vs F2 H2 ds ρ2, Ok K g F2 H2 σ ρ2 → Same F F2 → DtAll K F2 vs ds → P ds ρ2 → Q vs H2
def kG (K : PySem.W.Frag) (g : Gd) (w : WG) : TG := fun v σ H Q => ∃ (F : Hp) (ρ : Env) (d : D) (P : Env → Prop), Ok K g F H σ ρ ∧ Dt K F v d ∧ w d ρ P ∧
  ∀ σ2 F2 H2 ρ2, Ok K g F2 H2 σ2 ρ2 → Same F F2 → P ρ2 → Q σ2 H2
structure EndOk (K : PySem.W.Frag) (g : Gd) (F : Hp) (E : WEnds) (De : Ends) : Prop where
  nx : ∀ F2 H2 σ2 ρ2, Ok K g F2 H2 σ2 ρ2 → Same F F2 → E.nx ρ2 → De.nx σ2 H2
  rt : ∀ v F2 H2 σ2 d ρ2, Ok K g F2 H2 σ2 ρ2 → Same F F2 → Dt K F2 v d → E.rt d ρ2 → De.rt v H2
  bk : ∀ F2 H2 σ2 ρ2, Ok K g F2 H2 σ2 ρ2 → Same F F2 → E.bk ρ2 → De.bk σ2 H2
  ct : ∀ F2 H2 σ2 ρ2, Ok K g F2 H2 σ2 ρ2 → Same F F2 → E.ct ρ2 → De.ct σ2 H2
  rn : ∀ p xs F2 H2 σ2 ds ρ2, Ok K g F2 H2 σ2 ρ2 → Same F F2 → New g σ2 ρ2 F2 p → H2 p = some (.lst xs) → DtAll K F2 xs ds → E.rn ds ρ2 → De.rt (.ref p) H2
def kS (K : PySem.W.Frag) (g : Gd) (x : EX) (w : WS) : TS := fun De σ H => ∃ (F : Hp) (ρ : Env) (E : WEnds), Ok K g F H σ ρ ∧ w x E ρ ∧ EndOk K g F E De
theorem EndOk.mono {K : PySem.W.Frag} {g : Gd} {F F' : Hp} {E : WEnds} {De : Ends} (e : EndOk K g F E De) (s : Same F F') : EndOk K g F' E De :=
  ⟨fun F2 H2 σ2 ρ2 k s2 h => e.nx F2 H2 σ2 ρ2 k (s.trans s2) h, fun v F2 H2 σ2 d ρ2 k s2 p h => e.rt v F2 H2 σ2 d ρ2 k (s.trans s2) p h, fun F2 H2 σ2 ρ2 k s2 h => e.bk F2 H2 σ2 ρ2 k (s.trans s2) h, fun F2 H2 σ2 ρ2 k s2 h => e.ct F2 H2 σ2 ρ2 k (s.trans s2) h,
    fun p xs F2 H2 σ2 ds ρ2 k s2 n hp hx h => e.rn p xs F2 H2 σ2 ds ρ2 k (s.trans s2) n hp hx h⟩

/-! ### other readings -/
section
variable {X : Cx}
theorem pe_imp {e : Expr} {t t' : TE} (h : PE X e t) (f : ∀ σ H Q, t' σ H Q → t σ H Q) : PE X e t' := ⟨fun pins s σ H Q I q => h.run pins s σ H Q I (f σ H Q q)⟩
theorem pt_imp {e : Expr} {t t' : TT} (h : PT X e t) (f : ∀ σ H Q, t' σ H Q → t σ H Q) : PT X e t' := ⟨fun pins s σ H Q I q => h.run pins s σ H Q I (f σ H Q q)⟩
theorem pw_imp {e : Expr} {t t' : TT} (h : PW X e t) (f : ∀ σ H Q, t' σ H Q → t σ H Q) : PW X e t' := ⟨fun wh pins s σ H Q I q => h.run wh pins s σ H Q I (f σ H Q q)⟩
theorem pa_imp {es : List Expr} {t t' : TA} (h : PA X es t) (f : ∀ σ H Q, t' σ H Q → t σ H Q) : PA X es t' := ⟨fun pos pins s σ H Q I q => h.run pos pins s σ H Q I (f σ H Q q)⟩
theorem pk_imp {es : List Keyword} {t t' : TA} (h : PK X es t) (f : ∀ σ H Q, t' σ H Q → t σ H Q) : PK X es t' := ⟨fun pos pins s σ H Q I q => h.run pos pins s σ H Q I (f σ H Q q)⟩
theorem ps_imp {st : Stmt} {t t' : TS} (h : PS X st t) (f : ∀ De σ H, t' De σ H → t De σ H) : PS X st t' := ⟨fun pins s σ H De I q => h.run pins s σ H De I (f De σ H q)⟩
theorem pss_imp {st : List Stmt} {t t' : TS} (h : PSs X st t) (f : ∀ De σ H, t' De σ H → t De σ H) : PSs X st t' := ⟨fun pins s σ H De I q => h.run pins s σ H De I (f De σ H q)⟩
theorem pg_imp {e : Expr} {t t' : TG} (h : PG X e t) (f : ∀ v σ H Q, t' v σ H Q → t v σ H Q) : PG X e t' := ⟨fun pins s σ H v u Q I r q => h.run pins s σ H v u Q I r (f v σ H Q q)⟩
theorem pi_imp {tg e : Expr} {t t' : TI} (h : PI X tg e t) (f : ∀ σ H R, t' σ H R → t σ H R) : PI X tg e t' := ⟨fun pins s σ H R I q => h.run pins s σ H R I (f σ H R q)⟩
end
theorem opr_imp {X : Cx} {f : Value → Value → Sem Value} {r r' : R2} (h : OpR X f r) (i : ∀ x y H Q, r' x y H Q → r x y H Q) : OpR X f r' := fun pins s σ H x y v u Q I rx ry q => h pins s σ H x y v u Q I rx ry (i _ _ _ _ q)
theorem callr_imp {X : Cx} {f : Value} {r r' : List V → Hp → VK → Prop} (h : CallR X f r) (i : ∀ xs H Q, r' xs H Q → r xs H Q) : CallR X f r' := fun pins s σ H xs us Q I rx q => h pins s σ H xs us Q I rx (i _ _ _ q)

/-! ### names, constants -/
@[simp] def wVar (i : Nat) : WE := fun _ ρ P => match ρ[i]? with
  | some (.dat d) => P d ρ
  | some (.own ds) => P (.list ds) (ρ.set i (.dat (.list ds)))
  | _ => False
@[simp] def wPeek (i : Nat) : WE := fun _ ρ P => match lstAt ρ i with
  | some ds => P (.list ds) ρ
  | none => False
@[simp] def wC (d : D) : WE := fun _ ρ P => P d ρ
section
variable {X : Cx} {g : Gd} {x : EX}
theorem slot_at {K : PySem.W.Frag} {F H : Hp} {σ : L2.St} {ρ : Env} (k : Ok K g F H σ ρ) {i : Nat} {s : Slot} (e : ρ[i]? = some s) : ∃ v, σ[i]? = some v ∧ SlOk K g F H v s := pd_get k.sl e
theorem ok_thaw {K : PySem.W.Frag} {F H : Hp} {σ : L2.St} {ρ : Env} {i : Nat} {ds : List D} (k : Ok K g F H σ ρ) (e : ρ[i]? = some (.own ds)) :
    ∃ a F', σ[i]? = some (some (.ref a)) ∧ Ok K g F' H σ (ρ.set i (.dat (.list ds))) ∧ Same F F' ∧ Dt K F' (.ref a) (.list ds) := by
  obtain ⟨v, ev, a, ea, h1, h2, h3, xs, h4, h5⟩ := slot_at k e
  subst ea
  have k0 : Ok K g F H σ (ρ.set i .emp) := by
    have q := k.setE i (some (V.ref a))
    rwa [set_get ev] at q
  have n : Nob g σ (ρ.set i .emp) F a := ⟨h2, h3, fun j s es os z => by
    by_cases hj : i = j
    · subst hj
      rw [List.getElem?_set] at es
      simp only [if_pos] at es
      split at es
      · cases es; exact os
      · cases es
    · rw [List.getElem?_set_ne hj] at es
      exact k.dis i j _ s a hj e es trivial os ev z⟩
  obtain ⟨k1, s1⟩ := k0.freeze n h4
  have q : Dt K (upd F a (.lst xs)) (.ref a) (.list ds) := .lst (.inl (.inl upd_same)) (dpa_mono s1 ds xs h5)
  have k2 := k1.setD i q
  rw [set_get ev, List.set_set] at k2
  exact ⟨a, _, ev, k2, s1, q⟩
theorem he_var (i : Nat) {y : Str} {pos : Pos} (hN : X.N[i]? = some y := by rfl) (hv : Vis X.env.scope y := by first | exact Or.inl rfl | exact Or.inr (Or.inl rfl) | exact Or.inr (Or.inr rfl)) (hd : (y == ("__debug__" : Str)) = false := by decide)
    (hcd : (y == ("__classdict__" : Str)) = false := by decide) : PE X (.Name y pos) (kE X.K g x (wVar i)) := by
  refine pe_imp (pe_var hN hv hd hcd) fun σ H Q h => ?_
  obtain ⟨F, ρ, P, k, h, q⟩ := h
  unfold wVar at h
  cases e : ρ[i]? with
  | none => rw [e] at h; exact h.elim
  | some s =>
    rw [e] at h
    cases s with
    | emp => exact h.elim
    | bor ds => exact h.elim
    | dat d =>
      obtain ⟨v, ev, u, eu, p⟩ := slot_at k e
      exact ⟨u, by rw [ev, eu], q u F H d ρ k (Same.refl _) p h⟩
    | own ds =>
      obtain ⟨a, F', ev, k2, s2, p⟩ := ok_thaw k e
      exact ⟨_, ev, q _ F' H _ _ k2 s2 p h⟩
theorem he_peek (i : Nat) {y : Str} {pos : Pos} (hN : X.N[i]? = some y := by rfl) (hv : Vis X.env.scope y := by first | exact Or.inl rfl | exact Or.inr (Or.inl rfl) | exact Or.inr (Or.inr rfl)) (hd : (y == ("__debug__" : Str)) = false := by decide)
    (hcd : (y == ("__classdict__" : Str)) = false := by decide) : PE X (.Name y pos) (kP X.K g x (wPeek i)) := by
  refine pe_imp (pe_var hN hv hd hcd) fun σ H Q h => ?_
  obtain ⟨F, ρ, P, k, h, q⟩ := h
  unfold wPeek at h
  cases e : lstAt ρ i with
  | none => rw [e] at h; exact h.elim
  | some ds =>
    rw [e] at h
    obtain ⟨a, xs, ev, hF, hH, hd, _⟩ := k.lstAt e
    exact ⟨_, ev, q _ F H _ ρ k (Same.refl _) (.inr ⟨a, xs, ds, rfl, rfl, hH, hd⟩) h⟩
theorem he_pk {e : Expr} {w : WE} (h : PE X e (kE X.K g x w)) : PE X e (kP X.K g x w) := pe_imp h fun σ H Q ⟨F, ρ, P, k, h, q⟩ => ⟨F, ρ, P, k, h, fun v F2 H2 d ρ2 k2 s2 p hp => q v F2 H2 d ρ2 k2 s2 (.inl p) hp⟩
theorem ke_c {v : V} {d : D} (hd : ∀ F, Dt X.K F v d) {e : Expr} (h : PE X e (tC v)) : PE X e (kE X.K g x (wC d)) := pe_imp h fun σ H Q ⟨F, ρ, P, k, h, q⟩ => q v F H d ρ k (Same.refl _) (hd F) h
theorem he_int {i : Int} {j : Nat} {pos : Pos} : PE X (.Constant (.int i) j pos) (kE X.K g x (wC (.int i))) := ke_c (fun _ => .int i) pe_int
theorem he_bl {b : Bool} {j : Nat} {pos : Pos} : PE X (.Constant (.bool b) j pos) (kE X.K g x (wC (.bool b))) := ke_c (fun _ => .bl b) pe_bl
theorem he_non {j : Nat} {pos : Pos} : PE X (.Constant .none j pos) (kE X.K g x (wC .none)) := ke_c (fun _ => .non) pe_non
theorem he_str {y : Str} {j : Nat} {pos : Pos} : PE X (.Constant (.str y) j pos) (kE X.K g x (wC (.str y))) := ke_c (fun _ => .str y) pe_str
theorem he_glo {y : Str} {i : Int} {t : Tok} {pos : Pos} (hg : Gl X y) (hm : X.mg y = some (.int i t)) (hd : (y == ("__debug__" : Str)) = false := by decide) : PE X (.Name y pos) (kE X.K g x (wC (.int i))) :=
  ke_c (fun _ => .int i) (pe_glob (v := .int i) hg hm ⟨t, rfl⟩ hd)
end

/-! ### two-place operations -/
/-- a rule on values does what the data says -/
def OpD (K : PySem.W.Frag) (r : R2) (o : D → D → (D → Prop) → Prop) : Prop :=
  ∀ (F H : Hp) (x y : V) (dx dy : D) (P : D → Prop) (Q : VK), Same F H → Dt K F x dx → Dt K F y dy → o dx dy P → (∀ v F2 H2 d, Gr F H F2 H2 → Dt K F2 v d → P d → Q v H2) → r x y H Q
/-- .. gives a new list -/
def OpN (K : PySem.W.Frag) (r : R2) (o : D → D → (List D → Prop) → Prop) : Prop :=
  ∀ (F H : Hp) (x y : V) (dx dy : D) (P : List D → Prop) (Q : VK), Same F H → Pk K F H x dx → Pk K F H y dy → o dx dy P → (∀ p xs ds, H p = none → DtAll K F xs ds → P ds → Q (.ref p) (upd H p (.lst xs))) → r x y H Q
/-- a comparison -/
def CmD (K : PySem.W.Frag) (r : R2) (o : D → D → (Bool → Prop) → Prop) : Prop :=
  ∀ (H : Hp) (x y : V) (dx dy : D) (P : Bool → Prop) (Q : VK), Dt K H x dx → Dt K H y dy → o dx dy P → (∀ b, P b → Q (.bl b) H) → r x y H Q
@[simp] def wOp (o : D → D → (D → Prop) → Prop) (wa wb : WE) : WE := fun x ρ P => wa x ρ fun a ρ1 => wb x ρ1 fun b ρ2 => o a b fun d => P d ρ2
@[simp] def wOpN (o : D → D → (List D → Prop) → Prop) (wa wb : WE) : WL := fun x ρ P => wa x ρ fun a ρ1 => wb x ρ1 fun b ρ2 => o a b fun d => P d ρ2
@[simp] def wCmT (o : D → D → (Bool → Prop) → Prop) (wa wb : WE) : WT := fun x ρ P => wa x ρ fun a ρ1 => wb x ρ1 fun b ρ2 => o a b fun c => P c ρ2
@[simp] def wBl (w : WT) : WE := fun x ρ P => w x ρ fun b ρ1 => P (.bool b) ρ1
theorem Pk.now {K : PySem.W.Frag} {F H : Hp} {v : V} {d : D} (p : Pk K F H v d) (s : Same F H) : Dt K H v d := by
  rcases p with p | ⟨a, xs, ds, rfl, rfl, h, q⟩
  · exact dp_mono s d v p
  · exact .lst (.inl (.inl h)) (dpa_mono s ds xs q)
section
variable {X : Cx} {g : Gd} {x : EX} {a b c : Expr} {wa wb wc : WE} {pos : Pos}
theorem ke_op {r : R2} {o : D → D → (D → Prop) → Prop} (hd : OpD X.K r o) {e : Expr} (h : PE X e (tOp r (kE X.K g x wa) (kE X.K g x wb))) : PE X e (kE X.K g x (wOp o wa wb)) :=
  pe_imp h fun σ H Q ⟨F, ρ, P, k, h, q⟩ => ⟨F, ρ, _, k, h, fun v F2 H2 d ρ2 k2 s2 p2 h2 => ⟨F2, ρ2, _, k2, h2, fun v' F3 H3 d' ρ3 k3 s3 p3 h3 =>
    hd F3 H3 v v' d d' _ Q k3.fh (dp_mono s3 d v p2) p3 h3 fun u F4 H4 e gr p h => q u F4 H4 e ρ3 (k3.grow gr) ((s2.trans s3).trans gr.ff) p h⟩⟩
theorem he_op {op : Operator} {r : R2} {o : D → D → (D → Prop) → Prop} (hr : OpR X (binaryOp op) r) (hd : OpD X.K r o) (ha : PE X a (kE X.K g x wa)) (hb : PE X b (kE X.K g x wb)) : PE X (.BinOp a op b pos) (kE X.K g x (wOp o wa wb)) :=
  ke_op hd (pe_op hr ha hb)
/-- a new list out of two things; the first data, the second may be looked at -/
theorem hn_op {op : Operator} {r : R2} {o : D → D → (List D → Prop) → Prop} (hr : OpR X (binaryOp op) r) (hd : OpN X.K r o) (ha : PE X a (kE X.K g x wa)) (hb : PE X b (kP X.K g x wb)) : PE X (.BinOp a op b pos) (kN X.K g x (wOpN o wa wb)) :=
  pe_imp (pe_op hr ha hb) fun σ H Q ⟨F, ρ, P, k, h, q⟩ => ⟨F, ρ, _, k, h, fun v F2 H2 d ρ2 k2 s2 p2 h2 => ⟨F2, ρ2, _, k2, h2, fun v' F3 H3 d' ρ3 k3 s3 p3 h3 =>
    hd F3 H3 v v' d d' _ Q k3.fh (.inl (dp_mono s3 d v p2)) p3 h3 fun p xs ds hp hx h => q p xs F3 _ ds ρ3 (k3.grow (.lay k3.fh hp)) (s2.trans s3) (k3.new hp) upd_same hx h⟩⟩
theorem kt_cmp {r : R2} {o : D → D → (Bool → Prop) → Prop} (hd : CmD X.K r o) {e : Expr} (h : PT X e (tTest (tOp r (kE X.K g x wa) (kP X.K g x wb)))) : PT X e (kT X.K g x (wCmT o wa wb)) :=
  pt_imp h fun σ H Q ⟨F, ρ, P, k, h, q⟩ => ⟨F, ρ, _, k, h, fun v F2 H2 d ρ2 k2 s2 p2 h2 => ⟨F2, ρ2, _, k2, h2, fun v' F3 H3 d' ρ3 k3 s3 p3 h3 =>
    hd H3 v v' d d' _ _ (dp_mono (s3.trans k3.fh) d v p2) (p3.now k3.fh) h3 fun b h => ⟨b, rfl, q b F3 H3 ρ3 k3 (s2.trans s3) h⟩⟩⟩
theorem ke_cmp {r : R2} {o : D → D → (Bool → Prop) → Prop} (hd : CmD X.K r o) {e : Expr} (h : PE X e (tOp r (kE X.K g x wa) (kP X.K g x wb))) : PE X e (kE X.K g x (wBl (wCmT o wa wb))) :=
  pe_imp h fun σ H Q ⟨F, ρ, P, k, h, q⟩ => ⟨F, ρ, _, k, h, fun v F2 H2 d ρ2 k2 s2 p2 h2 => ⟨F2, ρ2, _, k2, h2, fun v' F3 H3 d' ρ3 k3 s3 p3 h3 =>
    hd H3 v v' d d' _ _ (dp_mono (s3.trans k3.fh) d v p2) (p3.now k3.fh) h3 fun b h => q _ F3 H3 _ ρ3 k3 (s2.trans s3) (.bl b) h⟩⟩
theorem ht_cmp {op : CmpOp} {r : R2} {o : D → D → (Bool → Prop) → Prop} (hr : OpR X (compareOp op) r) (hd : CmD X.K r o) (ha : PE X a (kE X.K g x wa)) (hb : PE X b (kP X.K g x wb)) (hm : behindInMarks op b = false) : PT X (.Compare a [op] [b] pos) (kT X.K g x (wCmT o wa wb)) :=
  kt_cmp hd (pt_cmpR hr ha hb hm)
theorem he_cmp {op : CmpOp} {r : R2} {o : D → D → (Bool → Prop) → Prop} (hr : OpR X (compareOp op) r) (hd : CmD X.K r o) (ha : PE X a (kE X.K g x wa)) (hb : PE X b (kP X.K g x wb)) (hm : behindInMarks op b = false) : PE X (.Compare a [op] [b] pos) (kE X.K g x (wBl (wCmT o wa wb))) :=
  ke_cmp hd (pe_cmpR hr ha hb hm)
/-- a < b < c -/
@[simp] def wChT (o o' : D → D → (Bool → Prop) → Prop) (wa wb wc : WE) : WT := fun x ρ P => wa x ρ fun a ρ1 => wb x ρ1 fun b ρ2 => o a b fun k => if k = true then wc x ρ2 fun c ρ3 => o' b c fun k' => P k' ρ3 else P false ρ2
theorem k_chain {r r' : R2} {o o' : D → D → (Bool → Prop) → Prop} (hd : CmD X.K r o) (hd' : CmD X.K r' o') {σ : L2.St} {H : Hp} {P : Bool → Env → Prop} {Q : VK} {F : Hp} {ρ : Env} (k : Ok X.K g F H σ ρ) (h : wChT o o' wa wb wc x ρ P)
    (q : ∀ b F2 H2 ρ2, Ok X.K g F2 H2 σ ρ2 → Same F F2 → P b ρ2 → Q (.bl b) H2) : tChain r r' (kE X.K g x wa) (kE X.K g x wb) (kE X.K g x wc) σ H Q :=
  ⟨F, ρ, _, k, h, fun v F2 H2 d ρ2 k2 s2 p2 h2 => ⟨F2, ρ2, _, k2, h2, fun v' F3 H3 d' ρ3 k3 s3 p3 h3 =>
    hd H3 v v' d d' _ _ (dp_mono (s3.trans k3.fh) d v p2) (dp_mono k3.fh d' v' p3) h3 fun b h => ⟨b, rfl, by
      cases b with
      | false =>
        rw [if_neg Bool.false_ne_true] at h ⊢
        exact q false F3 H3 ρ3 k3 (s2.trans s3) h
      | true =>
        rw [if_pos rfl] at h ⊢
        exact ⟨F3, ρ3, _, k3, h, fun v'' F4 H4 d'' ρ4 k4 s4 p4 h4 => hd' H4 v' v'' d' d'' _ _ (dp_mono (s4.trans k4.fh) d' v' p3) (dp_mono k4.fh d'' v'' p4) h4 fun b' h' => q b' F4 H4 ρ4 k4 ((s2.trans s3).trans s4) h'⟩⟩⟩⟩
theorem ht_chain {op op' : CmpOp} {r r' : R2} {o o' : D → D → (Bool → Prop) → Prop} (hr : OpR X (compareOp op) r) (hd : CmD X.K r o) (hr' : OpR X (compareOp op') r') (hd' : CmD X.K r' o') (ha : PE X a (kE X.K g x wa)) (hb : PE X b (kE X.K g x wb)) (hc : PE X c (kE X.K g x wc))
    (hm : lastMarks [op, op'] [b, c] = false := by with_unfolding_all rfl) : PT X (.Compare a [op, op'] [b, c] pos) (kT X.K g x (wChT o o' wa wb wc)) :=
  pt_imp (pt_chain hr hr' ha hb hc hm) fun σ H Q ⟨F, ρ, P, k, h, q⟩ => k_chain hd hd' k h fun b F2 H2 ρ2 k2 s2 h2 => ⟨b, rfl, q b F2 H2 ρ2 k2 s2 h2⟩
theorem he_chain {op op' : CmpOp} {r r' : R2} {o o' : D → D → (Bool → Prop) → Prop} (hr : OpR X (compareOp op) r) (hd : CmD X.K r o) (hr' : OpR X (compareOp op') r') (hd' : CmD X.K r' o') (ha : PE X a (kE X.K g x wa)) (hb : PE X b (kE X.K g x wb)) (hc : PE X c (kE X.K g x wc))
    (hm : lastMarks [op, op'] [b, c] = false := by with_unfolding_all rfl) : PE X (.Compare a [op, op'] [b, c] pos) (kE X.K g x (wBl (wChT o o' wa wb wc))) :=
  pe_imp (pe_chain hr hr' ha hb hc hm) fun σ H Q ⟨F, ρ, P, k, h, q⟩ => k_chain hd hd' k h fun b F2 H2 ρ2 k2 s2 h2 => q _ F2 H2 _ ρ2 k2 s2 (.bl b) h2

/-! ### tests -/
/-- truth of data -/
@[simp] def truD (d : D) (P : Bool → Prop) : Prop := match d with
  | .none => P false
  | .bool b => P b
  | .int i => P (i != 0)
  | .list ds => P (!ds.isEmpty)
  | .tuple ds => P (!ds.isEmpty)
  | _ => False
theorem tru_of {K : PySem.W.Frag} {H : Hp} {v : V} {d : D} (p : Dt K H v d) {P : Bool → Prop} (h : truD d P) : ∃ k, TruV K v H k ∧ P k := by
  cases p with
  | non => exact ⟨false, rfl, h⟩
  | bl b => exact ⟨b, rfl, h⟩
  | int i => exact ⟨_, rfl, h⟩
  | str y => exact h.elim
  | @lst a xs ds hs ha =>
    refine ⟨!xs.isEmpty, .inl ⟨xs, hs, rfl⟩, ?_⟩
    have e := dpa_len ha
    have e2 : xs.isEmpty = ds.isEmpty := by
      cases xs <;> cases ds <;> simp_all
    rw [e2]
    exact h
  | @tup a xs ds hs ha =>
    refine ⟨!xs.isEmpty, .inr (.inl ⟨xs, hs, rfl⟩), ?_⟩
    have e := dpa_len ha
    have e2 : xs.isEmpty = ds.isEmpty := by
      cases xs <;> cases ds <;> simp_all
    rw [e2]
    exact h
@[simp] def wTru (w : WE) : WT := fun x ρ P => w x ρ fun d ρ1 => truD d fun b => P b ρ1
theorem ht_tru (ha : PE X a (kP X.K g x wa)) (he : ∀ whole, isTrue a X.env whole = (do let v ← whole; standAt a.pos; holding [v] (truthy v)) := by intro _; rfl) : PT X a (kT X.K g x (wTru wa)) :=
  pt_imp (pt_truth ha he) fun σ H Q ⟨F, ρ, P, k, h, q⟩ => ⟨F, ρ, _, k, h, fun v F2 H2 d ρ2 k2 s2 p2 h2 => by
    obtain ⟨b, e, hb⟩ := tru_of (p2.now k2.fh) h2
    exact ⟨b, e, q b F2 H2 ρ2 k2 s2 hb⟩⟩
@[simp] def wAndT (wa wb : WT) : WT := fun x ρ P => wa x ρ fun b ρ1 => if b = true then wb x ρ1 P else P false ρ1
@[simp] def wOrT (wa wb : WT) : WT := fun x ρ P => wa x ρ fun b ρ1 => if b = true then P true ρ1 else wb x ρ1 P
@[simp] def wNotT (wa : WT) : WT := fun x ρ P => wa x ρ fun b ρ1 => P (!b) ρ1
variable {ta tb : WT} {rest : List Expr}
theorem hw_and (ha : PT X a (kT X.K g x ta)) (hb : PW X (.BoolOp .And (b :: rest) pos) (kT X.K g x tb)) : PW X (.BoolOp .And (a :: b :: rest) pos) (kT X.K g x (wAndT ta tb)) :=
  pw_imp (pw_and ha hb) fun σ H Q ⟨F, ρ, P, k, h, q⟩ => ⟨F, ρ, _, k, h, fun c F2 H2 ρ2 k2 s2 h2 => by
    cases c with
    | true =>
      rw [if_pos rfl] at h2 ⊢
      exact ⟨F2, ρ2, P, k2, h2, fun b F3 H3 ρ3 k3 s3 h3 => q b F3 H3 ρ3 k3 (s2.trans s3) h3⟩
    | false =>
      rw [if_neg Bool.false_ne_true] at h2 ⊢
      exact q false F2 H2 ρ2 k2 s2 h2⟩
theorem hw_or (ha : PT X a (kT X.K g x ta)) (hb : PW X (.BoolOp .Or (b :: rest) pos) (kT X.K g x tb)) : PW X (.BoolOp .Or (a :: b :: rest) pos) (kT X.K g x (wOrT ta tb)) :=
  pw_imp (pw_or ha hb) fun σ H Q ⟨F, ρ, P, k, h, q⟩ => ⟨F, ρ, _, k, h, fun c F2 H2 ρ2 k2 s2 h2 => by
    cases c with
    | true =>
      rw [if_pos rfl] at h2 ⊢
      exact q true F2 H2 ρ2 k2 s2 h2
    | false =>
      rw [if_neg Bool.false_ne_true] at h2 ⊢
      exact ⟨F2, ρ2, P, k2, h2, fun b F3 H3 ρ3 k3 s3 h3 => q b F3 H3 ρ3 k3 (s2.trans s3) h3⟩⟩
theorem ht_not (ha : PT X a (kT X.K g x ta)) : PT X (.UnaryOp .Not a pos) (kT X.K g x (wNotT ta)) :=
  pt_imp (pt_not ha) fun σ H Q ⟨F, ρ, P, k, h, q⟩ => ⟨F, ρ, _, k, h, fun c F2 H2 ρ2 k2 s2 h2 => q _ F2 H2 ρ2 k2 s2 h2⟩
/-- and, or, not as values: the answer is the last that was asked, by truth -/
@[simp] def wAndV (wa wb : WE) : WE := fun x ρ P => wa x ρ fun d ρ1 => truD d fun b => if b = true then wb x ρ1 P else P d ρ1
@[simp] def wOrV (wa wb : WE) : WE := fun x ρ P => wa x ρ fun d ρ1 => truD d fun b => if b = true then P d ρ1 else wb x ρ1 P
@[simp] def wNotV (wa : WE) : WE := fun x ρ P => wa x ρ fun d ρ1 => truD d fun b => P (.bool (!b)) ρ1
theorem he_and (ha : PE X a (kE X.K g x wa)) (hb : PE X (.BoolOp .And (b :: rest) pos) (kE X.K g x wb)) : PE X (.BoolOp .And (a :: b :: rest) pos) (kE X.K g x (wAndV wa wb)) :=
  pe_imp (pe_andT ha hb) fun σ H Q ⟨F, ρ, P, k, h, q⟩ => ⟨F, ρ, _, k, h, fun v F2 H2 d ρ2 k2 s2 p2 h2 => by
    obtain ⟨b, e, hb⟩ := tru_of (dp_mono k2.fh d v p2) h2
    refine ⟨b, e, ?_⟩
    cases b with
    | true =>
      rw [if_pos rfl] at hb ⊢
      exact ⟨F2, ρ2, P, k2, hb, fun v F3 H3 d ρ3 k3 s3 p3 h3 => q v F3 H3 d ρ3 k3 (s2.trans s3) p3 h3⟩
    | false =>
      rw [if_neg Bool.false_ne_true] at hb ⊢
      exact q v F2 H2 d ρ2 k2 s2 p2 hb⟩
theorem he_or (ha : PE X a (kE X.K g x wa)) (hb : PE X (.BoolOp .Or (b :: rest) pos) (kE X.K g x wb)) : PE X (.BoolOp .Or (a :: b :: rest) pos) (kE X.K g x (wOrV wa wb)) :=
  pe_imp (pe_orT ha hb) fun σ H Q ⟨F, ρ, P, k, h, q⟩ => ⟨F, ρ, _, k, h, fun v F2 H2 d ρ2 k2 s2 p2 h2 => by
    obtain ⟨b, e, hb⟩ := tru_of (dp_mono k2.fh d v p2) h2
    refine ⟨b, e, ?_⟩
    cases b with
    | true =>
      rw [if_pos rfl] at hb ⊢
      exact q v F2 H2 d ρ2 k2 s2 p2 hb
    | false =>
      rw [if_neg Bool.false_ne_true] at hb ⊢
      exact ⟨F2, ρ2, P, k2, hb, fun v F3 H3 d ρ3 k3 s3 p3 h3 => q v F3 H3 d ρ3 k3 (s2.trans s3) p3 h3⟩⟩
theorem he_not (ha : PE X a (kP X.K g x wa)) : PE X (.UnaryOp .Not a pos) (kE X.K g x (wNotV wa)) :=
  pe_imp (pe_notT ha) fun σ H Q ⟨F, ρ, P, k, h, q⟩ => ⟨F, ρ, _, k, h, fun v F2 H2 d ρ2 k2 s2 p2 h2 => by
    obtain ⟨b, e, hb⟩ := tru_of (p2.now k2.fh) h2
    exact ⟨b, e, q _ F2 H2 _ ρ2 k2 s2 (.bl _) hb⟩⟩
@[simp] def wIfE (t : WT) (wa wb : WE) : WE := fun x ρ P => t x ρ fun b ρ1 => if b = true then wa x ρ1 P else wb x ρ1 P
theorem he_if (hc : PT X c (kT X.K g x ta)) (ha : PE X a (kE X.K g x wa)) (hb : PE X b (kE X.K g x wb)) : PE X (.IfExp c a b pos) (kE X.K g x (wIfE ta wa wb)) :=
  pe_imp (pe_ifExp hc ha hb) fun σ H Q ⟨F, ρ, P, k, h, q⟩ => ⟨F, ρ, _, k, h, fun c F2 H2 ρ2 k2 s2 h2 => by
    cases c with
    | true =>
      rw [if_pos rfl] at h2 ⊢
      exact ⟨F2, ρ2, P, k2, h2, fun v F3 H3 d ρ3 k3 s3 p3 h3 => q v F3 H3 d ρ3 k3 (s2.trans s3) p3 h3⟩
    | false =>
      rw [if_neg Bool.false_ne_true] at h2 ⊢
      exact ⟨F2, ρ2, P, k2, h2, fun v F3 H3 d ρ3 k3 s3 p3 h3 => q v F3 H3 d ρ3 k3 (s2.trans s3) p3 h3⟩⟩
end

/-! ### argument lists, tuples, new lists -/
@[simp] def wNil : WL := fun _ ρ P => P [] ρ
@[simp] def wCons (w : WE) (ws : WL) : WL := fun x ρ P => w x ρ fun d ρ1 => ws x ρ1 fun ds ρ2 => P (d :: ds) ρ2
@[simp] def wTup (ws : WL) : WE := fun x ρ P => ws x ρ fun ds ρ1 => ds.length ≤ 100000 ∧ P (.tuple ds) ρ1
@[simp] def wLst (ws : WL) : WL := fun x ρ P => ws x ρ fun ds ρ1 => ds.length ≤ 100000 ∧ P ds ρ1
@[simp] def wFrz (ws : WL) : WE := fun x ρ P => ws x ρ fun ds ρ1 => P (.list ds) ρ1
theorem line_of {n : Nat} (h : n ≤ 100000) : n ≤ sizeLine := Nat.le_trans h (by decide)
section
variable {X : Cx} {g : Gd} {x : EX} {e : Expr} {es : List Expr} {w : WE} {ws : WL} {pos : Pos}
theorem ha_nil : PA X [] (kA X.K g x wNil) := pa_imp pa_nil fun σ H Q ⟨F, ρ, P, k, h, q⟩ => q [] F H [] ρ k (Same.refl _) .nil h
theorem ha_cons (he : PE X e (kE X.K g x w)) (hr : PA X es (kA X.K g x ws)) (hs : starEach (e :: es) X.env = (false, eval e X.env) :: starEach es X.env := by rfl) : PA X (e :: es) (kA X.K g x (wCons w ws)) :=
  pa_imp (pa_cons he hr hs) fun σ H Q ⟨F, ρ, P, k, h, q⟩ => ⟨F, ρ, _, k, h, fun v F2 H2 d ρ2 k2 s2 p2 h2 => ⟨F2, ρ2, _, k2, h2, fun vs F3 H3 ds ρ3 k3 s3 p3 h3 => q _ F3 H3 _ ρ3 k3 (s2.trans s3) (.cons (dp_mono s3 d v p2) p3) h3⟩⟩
theorem he_tup {j : Nat} (h : PA X es (kA X.K g x ws)) : PE X (.Tuple es j pos) (kE X.K g x (wTup ws)) :=
  pe_imp (pe_tup h) fun σ H Q ⟨F, ρ, P, k, h, q⟩ => ⟨F, ρ, _, k, h, fun vs F2 H2 ds ρ2 k2 s2 p2 h2 => ⟨by rw [dpa_len p2]; exact line_of h2.1, fun p hp =>
    q _ _ _ _ ρ2 (k2.grow (.frz k2.fh hp)) (s2.trans (same_lay (same_free k2.fh hp))) (.tup (.inl (.inl upd_same)) (dpa_mono (same_lay (same_free k2.fh hp)) ds vs p2)) h2.2⟩⟩
theorem hn_lst (h : PA X es (kA X.K g x ws)) : PE X (.List es pos) (kN X.K g x (wLst ws)) :=
  pe_imp (pe_lst h) fun σ H Q ⟨F, ρ, P, k, h, q⟩ => ⟨F, ρ, _, k, h, fun vs F2 H2 ds ρ2 k2 s2 p2 h2 => ⟨by rw [dpa_len p2]; exact line_of h2.1, fun p hp =>
    q p vs F2 _ ds ρ2 (k2.grow (.lay k2.fh hp)) s2 (k2.new hp) upd_same p2 h2.2⟩⟩
/-- a new list that stays as it is -/
theorem he_frz (h : PE X e (kN X.K g x ws)) : PE X e (kE X.K g x (wFrz ws)) :=
  pe_imp h fun σ H Q ⟨F, ρ, P, k, h, q⟩ => ⟨F, ρ, _, k, h, fun p xs F2 H2 ds ρ2 k2 s2 n e p2 h2 => by
    obtain ⟨k3, s3⟩ := k2.freeze n.toNob e
    exact q _ _ H2 _ ρ2 k3 (s2.trans s3) (.lst (.inl (.inl upd_same)) (dpa_mono s3 ds xs p2)) h2⟩
end
end Fz

set_option maxRecDepth 100000
set_option maxHeartbeats 1000000
/-! F3: what the operators and built-in functions do with plain data. -/
namespace Fz
open PySem PySem.Spec L2
/-- a number that is not too great to be multiplied -/
def Sz (i : Int) : Prop := i.natAbs < 2 ^ 400000
theorem Sz.log {i j : Int} (a : Sz i) (b : Sz j) : CMulW i j := wide_mul a b (by decide) (by decide) (by decide)
def intsOf : List D → Option (List Int)
  | [] => some []
  | .int i :: r => (intsOf r).map (i :: ·)
  | _ => none
def boolsOf : List D → Option (List Bool)
  | [] => some []
  | .bool i :: r => (boolsOf r).map (i :: ·)
  | _ => none
theorem intsOf_map (ns : List Int) : intsOf (ns.map PyData.int) = some ns := by
  induction ns with
  | nil => rfl
  | cons n r ih =>
    show (intsOf (r.map PyData.int)).map (n :: ·) = _
    rw [ih]
    rfl
theorem intsOf_inv : ∀ {ds : List D} {ns : List Int}, intsOf ds = some ns → ds = ns.map PyData.int
  | [], ns, h => by cases h; rfl
  | d :: r, ns, h => by
    cases d with
    | int i =>
      have h' : (intsOf r).map (i :: ·) = some ns := h
      cases e : intsOf r with
      | none => rw [e] at h'; cases h'
      | some ms =>
        rw [e] at h'
        cases h'
        rw [intsOf_inv e]
        rfl
    | _ => cases h
theorem boolsOf_map (ns : List Bool) : boolsOf (ns.map PyData.bool) = some ns := by
  induction ns with
  | nil => rfl
  | cons n r ih =>
    show (boolsOf (r.map PyData.bool)).map (n :: ·) = _
    rw [ih]
    rfl
theorem dts_ints {K : PySem.W.Frag} {H : Hp} : ∀ {ds : List D} {xs : List V} {ns : List Int}, DtAll K H xs ds → intsOf ds = some ns → xs = ns.map V.int
  | [], _, ns, h, e => by cases h; cases e; rfl
  | d :: r, _, ns, h, e => by
    cases h with
    | cons h1 h2 =>
      cases d with
      | int i =>
        have e' : (intsOf r).map (i :: ·) = some ns := e
        cases q : intsOf r with
        | none => rw [q] at e'; cases e'
        | some ms =>
          rw [q] at e'
          cases e'
          cases h1
          rw [dts_ints h2 q]
          rfl
      | _ => cases e
theorem dts_bools {K : PySem.W.Frag} {H : Hp} : ∀ {ds : List D} {xs : List V} {ns : List Bool}, DtAll K H xs ds → boolsOf ds = some ns → xs = ns.map V.bl
  | [], _, ns, h, e => by cases h; cases e; rfl
  | d :: r, _, ns, h, e => by
    cases h with
    | cons h1 h2 =>
      cases d with
      | bool i =>
        have e' : (boolsOf r).map (i :: ·) = some ns := e
        cases q : boolsOf r with
        | none => rw [q] at e'; cases e'
        | some ms =>
          rw [q] at e'
          cases e'
          cases h1
          rw [dts_bools h2 q]
          rfl
      | _ => cases e

/-! ### + - * // % ** -/
@[simp] def oAdd (a b : D) (P : D → Prop) : Prop := match a, b with
  | .int i, .int j => P (.int (i + j))
  | .tuple xs, .tuple ys => xs.length + ys.length ≤ 100000 ∧ P (.tuple (xs ++ ys))
  | .str s, .str t => s.length + t.length ≤ 100000 ∧ P (.str (s ++ t))
  | _, _ => False
@[simp] def oSub (a b : D) (P : D → Prop) : Prop := match a, b with
  | .int i, .int j => P (.int (i - j))
  | _, _ => False
@[simp] def oMul (a b : D) (P : D → Prop) : Prop := match a, b with
  | .int i, .int j => (Sz i ∧ Sz j) ∧ P (.int (i * j))
  | .tuple xs, .int k => (xs ≠ [] ∧ 2 ≤ k ∧ k ≤ 1000 ∧ xs.length ≤ 1000) ∧ P (.tuple (List.replicate k.toNat xs).flatten)
  | _, _ => False
@[simp] def oDiv (a b : D) (P : D → Prop) : Prop := match a, b with
  | .int i, .int j => (0 < j ∧ j.natAbs < 2 ^ 8999) ∧ P (.int (i / j))
  | _, _ => False
@[simp] def oMod (a b : D) (P : D → Prop) : Prop := match a, b with
  | .int i, .int j => 0 < j ∧ P (.int (i % j))
  | _, _ => False
@[simp] def oPow (a b : D) (P : D → Prop) : Prop := match a, b with
  | .int i, .int j => (0 ≤ j ∧ j ≤ 1000000 ∧ i.natAbs < 2 ^ 64) ∧ P (.int (i ^ j.toNat))
  | _, _ => False
theorem dtI {K : PySem.W.Frag} {H : Hp} {v : V} {i : Int} (h : Dt K H v (.int i)) : v = .int i := by cases h; rfl
section
variable {X : Cx}
abbrev rAddA (K : PySem.W.Frag) : R2 := fun x y H Q => rI0 (fun i j => .int (i + j)) x y H Q ∨ (rCatA K x y H Q ∨ ∃ i j, x = .str i ∧ y = .str j ∧ i.length + j.length ≤ sizeLine ∧ Q (.str (i ++ j)) H)
theorem opr_add : OpR X (binaryOp .Add) (rAddA X.K) := op_add.or (op_catA.or op_add_str)
theorem opd_add {K : PySem.W.Frag} : OpD K (rAddA K) oAdd := by
  intro F H x y dx dy P Q fh px py h q
  cases px with
  | int i =>
    cases py with
    | int j => exact .inl ⟨i, j, rfl, rfl, q _ F H _ (.refl fh) (.int _) h⟩
    | _ => exact h.elim
  | str i =>
    cases py with
    | str j => exact .inr (.inr ⟨i, j, rfl, rfl, line_of h.1, q _ F H _ (.refl fh) (.str _) h.2⟩)
    | _ => exact h.elim
  | @tup a xs ds hs ha =>
    cases py with
    | @tup b ys es hs' ha' =>
      have s1 := sqT_mono fh hs
      have s2 := sqT_mono fh hs'
      have l1 := dpa_len ha
      have l2 := dpa_len ha'
      refine .inr (.inl ⟨a, b, xs, ys, rfl, rfl, s1, s2, by rw [l1, l2]; exact line_of h.1, fun e => ?_, fun _ e => ?_, fun _ _ p hp => ?_⟩)
      · subst e
        have ed : ds = [] := List.eq_nil_of_length_eq_zero (by rw [← l1]; rfl)
        subst ed
        exact q _ F H _ (.refl fh) (.tup hs' ha') h.2
      · subst e
        have ed : es = [] := List.eq_nil_of_length_eq_zero (by rw [← l2]; rfl)
        subst ed
        have h2 := h.2
        rw [List.append_nil] at h2
        exact q _ F H _ (.refl fh) (.tup hs ha) h2
      · have gr : Gr F H _ _ := .frz (o := .tup (xs ++ ys)) fh hp
        exact q _ _ _ _ gr (.tup (.inl (.inl upd_same)) (dpa_app (dpa_mono gr.ff _ _ ha) (dpa_mono gr.ff _ _ ha'))) h.2
    | _ => exact h.elim
  | _ => exact h.elim
theorem opd_sub {K : PySem.W.Frag} : OpD K (rI0 fun i j => .int (i - j)) oSub := by
  intro F H x y dx dy P Q fh px py h q
  cases px with
  | int i =>
    cases py with
    | int j => exact ⟨i, j, rfl, rfl, q _ F H _ (.refl fh) (.int _) h⟩
    | _ => exact h.elim
  | _ => exact h.elim
abbrev rMulA (K : PySem.W.Frag) : R2 := fun x y H Q => rI CMulW (fun i j => .int (i * j)) x y H Q ∨ rRepT K x y H Q
theorem opr_mul : OpR X (binaryOp .Mult) (rMulA X.K) := op_mulW.or op_repT
theorem dpa_rep {K : PySem.W.Frag} {H : Hp} {ds : List D} {vs : List V} (h : DtAll K H vs ds) : ∀ n : Nat, DtAll K H (List.replicate n vs).flatten (List.replicate n ds).flatten
  | 0 => .nil
  | n + 1 => by
    rw [List.replicate_succ, List.replicate_succ, List.flatten_cons, List.flatten_cons]
    exact dpa_app h (dpa_rep h n)
theorem opd_mul {K : PySem.W.Frag} : OpD K (rMulA K) oMul := by
  intro F H x y dx dy P Q fh px py h q
  cases px with
  | int i =>
    cases py with
    | int j => exact .inl ⟨i, j, rfl, rfl, h.1.1.log h.1.2, q _ F H _ (.refl fh) (.int _) h.2⟩
    | _ => exact h.elim
  | @tup a xs ds hs ha =>
    cases py with
    | int k =>
      obtain ⟨⟨h1, h2, h3, h4⟩, h5⟩ := h
      have l1 := dpa_len ha
      refine .inr ⟨a, k, xs, rfl, rfl, sqT_mono fh hs, fun e => h1 (List.eq_nil_of_length_eq_zero (by rw [← l1, e]; rfl)), h2, h3, by rw [l1]; exact h4, fun p hp => ?_⟩
      have gr : Gr F H _ _ := .frz (o := .tup (List.replicate k.toNat xs).flatten) fh hp
      exact q _ _ _ _ gr (.tup (.inl (.inl upd_same)) (dpa_rep (dpa_mono gr.ff _ _ ha) _)) h5
    | _ => exact h.elim
  | _ => exact h.elim
theorem opd_div {K : PySem.W.Frag} : OpD K (rI CDivW fun i j => .int (i / j)) oDiv := by
  intro F H x y dx dy P Q fh px py h q
  cases px with
  | int i =>
    cases py with
    | int j => exact ⟨i, j, rfl, rfl, wide_div h.1.1 h.1.2 (by decide) (by decide), q _ F H _ (.refl fh) (.int _) h.2⟩
    | _ => exact h.elim
  | _ => exact h.elim
theorem opd_mod {K : PySem.W.Frag} : OpD K (rI (fun _ j => 0 < j) fun i j => .int (i % j)) oMod := by
  intro F H x y dx dy P Q fh px py h q
  cases px with
  | int i =>
    cases py with
    | int j => exact ⟨i, j, rfl, rfl, h.1, q _ F H _ (.refl fh) (.int _) h.2⟩
    | _ => exact h.elim
  | _ => exact h.elim
theorem opd_pow {K : PySem.W.Frag} : OpD K (rI CPow fun i j => .int (i ^ j.toNat)) oPow := by
  intro F H x y dx dy P Q fh px py h q
  cases px with
  | int i =>
    cases py with
    | int j => exact ⟨i, j, rfl, rfl, h.1, q _ F H _ (.refl fh) (.int _) h.2⟩
    | _ => exact h.elim
  | _ => exact h.elim

/-! ### comparisons -/
@[simp] def oLt (a b : D) (P : Bool → Prop) : Prop := match a, b with
  | .int i, .int j => P (decide (i < j))
  | _, _ => False
@[simp] def oGt (a b : D) (P : Bool → Prop) : Prop := match a, b with
  | .int i, .int j => P (decide (j < i))
  | _, _ => False
@[simp] def oGe (a b : D) (P : Bool → Prop) : Prop := match a, b with
  | .int i, .int j => P (decide (j ≤ i))
  | _, _ => False
@[simp] def oLe (a b : D) (P : Bool → Prop) : Prop := match a, b with
  | .int i, .int j => P (decide (i ≤ j))
  | .tuple xs, .tuple ys => match intsOf xs, intsOf ys with
    | some ns, some ms => P (lexLeI ns ms)
    | _, _ => False
  | _, _ => False
@[simp] def oEq (a b : D) (P : Bool → Prop) : Prop := match a, b with
  | .int i, .int j => P (decide (i = j))
  | a, b => (SeqAt.shaped a = true ∧ SeqAt.shaped b = true) ∧ P (PyData.eqv a b)
@[simp] def oNe (a b : D) (P : Bool → Prop) : Prop := oEq a b fun c => P (!c)
@[simp] def isNon : D → Bool
  | .none => true
  | _ => false
@[simp] def oIs (a b : D) (P : Bool → Prop) : Prop := match a, b with
  | a, .none => P (isNon a)
  | .bool i, .bool j => P (decide (i = j))
  | _, _ => False
@[simp] def oNis (a b : D) (P : Bool → Prop) : Prop := oIs a b fun c => P (!c)
@[simp] def oIn (a b : D) (P : Bool → Prop) : Prop := match a, b with
  | a, .list ds => (SeqAt.shaped a = true ∧ SeqAt.shaped (.list ds) = true) ∧ P (ds.any fun z => PyData.eqv z a)
  | .int i, .tuple ds => match intsOf ds with
    | some ns => P (decide (i ∈ ns))
    | none => False
  | _, _ => False
@[simp] def oNin (a b : D) (P : Bool → Prop) : Prop := oIn a b fun c => P (!c)
theorem cmd_lt {K : PySem.W.Frag} : CmD K (rI0 fun i j => .bl (decide (i < j))) oLt := by
  intro H x y dx dy P Q px py h q
  cases px with
  | int i =>
    cases py with
    | int j => exact ⟨i, j, rfl, rfl, q _ h⟩
    | _ => exact h.elim
  | _ => exact h.elim
theorem cmd_gt {K : PySem.W.Frag} : CmD K (rI0 fun i j => .bl (decide (j < i))) oGt := by
  intro H x y dx dy P Q px py h q
  cases px with
  | int i =>
    cases py with
    | int j => exact ⟨i, j, rfl, rfl, q _ h⟩
    | _ => exact h.elim
  | _ => exact h.elim
theorem cmd_ge {K : PySem.W.Frag} : CmD K (rI0 fun i j => .bl (decide (j ≤ i))) oGe := by
  intro H x y dx dy P Q px py h q
  cases px with
  | int i =>
    cases py with
    | int j => exact ⟨i, j, rfl, rfl, q _ h⟩
    | _ => exact h.elim
  | _ => exact h.elim
theorem lexAt_shift (e r : Nat → Bool) (z : Bool) : ∀ (k i : Nat), Ob.lexAt e r z (i + 1) k = Ob.lexAt (fun j => e (j + 1)) (fun j => r (j + 1)) z i k
  | 0, _ => rfl
  | k + 1, i => by
    rw [Ob.lexAt_succ, Ob.lexAt_succ, lexAt_shift e r z k (i + 1)]
theorem lexAt_le : ∀ ns ms : List Int, Ob.lexAt (fun j => decide (ns.getD j 0 = ms.getD j 0)) (fun j => decide (ns.getD j 0 ≤ ms.getD j 0)) (decide (ns.length ≤ ms.length)) 0 (min ns.length ms.length) = lexLeI ns ms
  | [], ms => by
    rw [show min ([] : List Int).length ms.length = 0 from by simp, Ob.lexAt_zero]
    simp [lexLeI]
  | n :: r, [] => by
    rw [show min (n :: r).length ([] : List Int).length = 0 from by simp, Ob.lexAt_zero]
    simp [lexLeI]
  | n :: r, m :: u => by
    rw [show min (n :: r).length (m :: u).length = min r.length u.length + 1 from by simp only [List.length_cons]; omega, Ob.lexAt_succ, lexAt_shift]
    have ih := lexAt_le r u
    simp only [List.getD_cons_succ, List.getD_cons_zero, List.length_cons, Nat.add_le_add_iff_right, lexLeI, decide_eq_true_eq] at ih ⊢
    rw [ih]
abbrev rLeA (K : PySem.W.Frag) : R2 := fun x y H Q => rI0 (fun i j => .bl (decide (i ≤ j))) x y H Q ∨ rLeT K x y H Q
theorem cmd_le {K : PySem.W.Frag} : CmD K (rLeA K) oLe := by
  intro H x y dx dy P Q px py h q
  cases px with
  | int i =>
    cases py with
    | int j => exact .inl ⟨i, j, rfl, rfl, q _ h⟩
    | _ => exact h.elim
  | @tup a xs ds hs ha =>
    cases py with
    | @tup b ys es hs' ha' =>
      unfold oLe at h
      cases e1 : intsOf ds with
      | none => simp only [e1] at h
      | some ns =>
        cases e2 : intsOf es with
        | none => simp only [e1, e2] at h
        | some ms =>
          simp only [e1, e2] at h
          have x1 := dts_ints ha e1
          have x2 := dts_ints ha' e2
          subst x1 x2
          exact .inr ⟨a, b, ns, ms, rfl, rfl, hs, hs', by rw [lexAt_le]; exact q _ h⟩
    | _ => exact h.elim
  | _ => exact h.elim
abbrev rEqA (K : PySem.W.Frag) : R2 := fun x y H Q => rEq x y H Q ∨ rEqD K x y H Q
abbrev rNeA (K : PySem.W.Frag) : R2 := fun x y H Q => rNe x y H Q ∨ rNeD K x y H Q
theorem decV {i j : Int} : decide (V.int i = V.int j) = decide (i = j) := by
  by_cases e : i = j
  · rw [decide_eq_true e, decide_eq_true (congrArg V.int e)]
  · rw [decide_eq_false e, decide_eq_false fun z => e (V.int.inj z)]
theorem oEq_gen {a b : D} {P : Bool → Prop} (h : oEq a b P) : (∃ i j, a = .int i ∧ b = .int j ∧ P (decide (i = j))) ∨ ((SeqAt.shaped a = true ∧ SeqAt.shaped b = true) ∧ P (PyData.eqv a b)) := by
  cases a with
  | int i =>
    cases b with
    | int j => exact .inl ⟨i, j, rfl, rfl, h⟩
    | _ => exact .inr h
  | _ => cases b <;> exact .inr h
theorem cmd_eq {K : PySem.W.Frag} : CmD K (rEqA K) oEq := by
  intro H x y dx dy P Q px py h q
  rcases oEq_gen h with ⟨i, j, rfl, rfl, h⟩ | h
  · cases px
    cases py
    exact .inl ⟨rfl, by rw [decV]; exact q _ h⟩
  · exact .inr ⟨dx, dy, dt_dp _ _ px, dt_dp _ _ py, h.1.1, h.1.2, q _ h.2⟩
theorem cmd_ne {K : PySem.W.Frag} : CmD K (rNeA K) oNe := by
  intro H x y dx dy P Q px py h q
  rcases oEq_gen h with ⟨i, j, rfl, rfl, h⟩ | h
  · cases px
    cases py
    exact .inl ⟨rfl, by rw [decV]; exact q _ h⟩
  · exact .inr ⟨dx, dy, dt_dp _ _ px, dt_dp _ _ py, h.1.1, h.1.2, q _ h.2⟩
abbrev rIsA : R2 := fun x y H Q => (y = .non ∧ Q (.bl (decide (x = .non))) H) ∨ ∃ a b, x = .bl a ∧ y = .bl b ∧ Q (.bl (decide (a = b))) H
abbrev rNisA : R2 := fun x y H Q => (y = .non ∧ Q (.bl (!decide (x = .non))) H) ∨ ∃ a b, x = .bl a ∧ y = .bl b ∧ Q (.bl (!decide (a = b))) H
theorem dt_non {K : PySem.W.Frag} {H : Hp} {v : V} {d : D} (h : Dt K H v d) : decide (v = .non) = isNon d := by
  cases h <;> rfl
theorem cmd_is {K : PySem.W.Frag} : CmD K rIsA oIs := by
  intro H x y dx dy P Q px py h q
  cases py with
  | non =>
    refine .inl ⟨rfl, ?_⟩
    rw [dt_non px]
    refine q _ ?_
    cases dx <;> exact h
  | bl j =>
    cases px with
    | bl i => exact .inr ⟨i, j, rfl, rfl, q _ h⟩
    | _ => exact h.elim
  | _ => cases px <;> exact h.elim
theorem cmd_nis {K : PySem.W.Frag} : CmD K rNisA oNis := by
  intro H x y dx dy P Q px py h q
  cases py with
  | non =>
    refine .inl ⟨rfl, ?_⟩
    rw [dt_non px]
    refine q _ ?_
    cases dx <;> exact h
  | bl j =>
    cases px with
    | bl i => exact .inr ⟨i, j, rfl, rfl, q _ h⟩
    | _ => exact h.elim
  | _ => cases px <;> exact h.elim
theorem inV_ints (i : Int) (ns : List Int) : inV (.int i) (ns.map V.int) = decide (i ∈ ns) := by
  unfold inV
  induction ns with
  | nil => rfl
  | cons n r ih =>
    rw [List.map_cons, List.any_cons, ih]
    have e : eqV (.int n) (.int i) = decide (i = n) := by
      have h : eqV (.int n) (.int i) = (n == i) := rfl
      rw [h]
      by_cases z : i = n
      · subst z; simp
      · rw [decide_eq_false z]; simp; exact fun q => z q.symm
    rw [e]
    by_cases z : i = n
    · simp [z]
    · simp [z]
theorem flat_ints (ns : List Int) : (ns.map V.int).all flatV = true := by
  rw [List.all_eq_true]
  intro v hv
  obtain ⟨n, _, rfl⟩ := List.mem_map.mp hv
  rfl
abbrev rInA (K : PySem.W.Frag) : R2 := fun x y H Q => rInD K x y H Q ∨ rIn K false x y H Q
abbrev rNinA (K : PySem.W.Frag) : R2 := fun x y H Q => rNotInD K x y H Q ∨ rIn K true x y H Q
theorem cmd_in {K : PySem.W.Frag} : CmD K (rInA K) oIn := by
  intro H x y dx dy P Q px py h q
  cases py with
  | @lst b ys es hs' ha' =>
    have h' : (SeqAt.shaped dx = true ∧ SeqAt.shaped (.list es) = true) ∧ P (es.any fun z => PyData.eqv z dx) := by cases dx <;> exact h
    exact .inl ⟨dx, es, dt_dp _ _ px, dt_dp _ _ (.lst hs' ha'), h'.1.1, h'.1.2, q _ h'.2⟩
  | @tup b ys es hs' ha' =>
    cases px with
    | int i =>
      unfold oIn at h
      cases e : intsOf es with
      | none => simp only [e] at h
      | some ns =>
        simp only [e] at h
        have x1 := dts_ints ha' e
        subst x1
        refine .inr ⟨b, _, rfl, .inr hs', rfl, flat_ints ns, ?_⟩
        show Q (.bl (inV (.int i) (ns.map V.int))) H
        rw [inV_ints]
        exact q _ h
    | _ => exact h.elim
  | _ => cases px <;> exact h.elim
theorem cmd_nin {K : PySem.W.Frag} : CmD K (rNinA K) oNin := by
  intro H x y dx dy P Q px py h q
  cases py with
  | @lst b ys es hs' ha' =>
    have h' : (SeqAt.shaped dx = true ∧ SeqAt.shaped (.list es) = true) ∧ P (!es.any fun z => PyData.eqv z dx) := by cases dx <;> exact h
    exact .inl ⟨dx, es, dt_dp _ _ px, dt_dp _ _ (.lst hs' ha'), h'.1.1, h'.1.2, q _ h'.2⟩
  | @tup b ys es hs' ha' =>
    cases px with
    | int i =>
      unfold oNin oIn at h
      cases e : intsOf es with
      | none => simp only [e] at h
      | some ns =>
        simp only [e] at h
        have x1 := dts_ints ha' e
        subst x1
        refine .inr ⟨b, _, rfl, .inr hs', rfl, flat_ints ns, ?_⟩
        show Q (.bl (!inV (.int i) (ns.map V.int))) H
        rw [inV_ints]
        exact q _ h
    | _ => exact h.elim
  | _ => cases px <;> exact h.elim
end

/-! ### the rules, by the operator -/
section
variable {X : Cx} {g : Gd} {x : EX} {a b c : Expr} {wa wb wc : WE} {pos : Pos} {k : Nat}
theorem he_add (ha : PE X a (kE X.K g x wa)) (hb : PE X b (kE X.K g x wb)) : PE X (.BinOp a .Add b pos) (kE X.K g x (wOp oAdd wa wb)) := he_op opr_add opd_add ha hb
theorem he_sub (ha : PE X a (kE X.K g x wa)) (hb : PE X b (kE X.K g x wb)) : PE X (.BinOp a .Sub b pos) (kE X.K g x (wOp oSub wa wb)) := he_op op_sub opd_sub ha hb
theorem he_mul (ha : PE X a (kE X.K g x wa)) (hb : PE X b (kE X.K g x wb)) : PE X (.BinOp a .Mult b pos) (kE X.K g x (wOp oMul wa wb)) := he_op opr_mul opd_mul ha hb
theorem he_div (ha : PE X a (kE X.K g x wa)) (hb : PE X b (kE X.K g x wb)) : PE X (.BinOp a .FloorDiv b pos) (kE X.K g x (wOp oDiv wa wb)) := he_op op_fdivW opd_div ha hb
theorem he_mod (ha : PE X a (kE X.K g x wa)) (hb : PE X b (kE X.K g x wb)) : PE X (.BinOp a .Mod b pos) (kE X.K g x (wOp oMod wa wb)) := he_op op_mod opd_mod ha hb
theorem he_pow (ha : PE X a (kE X.K g x wa)) (hb : PE X b (kE X.K g x wb)) : PE X (.BinOp a .Pow b pos) (kE X.K g x (wOp oPow wa wb)) := he_op op_pow opd_pow ha hb
/-- -a -/
@[simp] def oNeg (a : D) (P : D → Prop) : Prop := match a with
  | .int i => P (.int (-i))
  | _ => False
@[simp] def wUn (o : D → (D → Prop) → Prop) (w : WE) : WE := fun x ρ P => w x ρ fun d ρ1 => o d fun e => P e ρ1
theorem he_neg (ha : PE X a (kE X.K g x wa)) : PE X (.UnaryOp .USub a pos) (kE X.K g x (wUn oNeg wa)) :=
  pe_imp (pe_un un_neg ha) fun σ H Q ⟨F, ρ, P, k, h, q⟩ => ⟨F, ρ, _, k, h, fun v F2 H2 d ρ2 k2 s2 p2 h2 => by
    cases p2 with
    | int i => exact ⟨i, rfl, q _ F2 H2 _ ρ2 k2 s2 (.int _) h2⟩
    | _ => exact h2.elim⟩
/-- comparisons: as a test (ht), as a value (he) -/
theorem ht_lt (ha : PE X a (kE X.K g x wa)) (hb : PE X b (kP X.K g x wb)) : PT X (.Compare a [.Lt] [b] pos) (kT X.K g x (wCmT oLt wa wb)) := ht_cmp op_lt cmd_lt ha hb (nomark _)
theorem ht_gt (ha : PE X a (kE X.K g x wa)) (hb : PE X b (kP X.K g x wb)) : PT X (.Compare a [.Gt] [b] pos) (kT X.K g x (wCmT oGt wa wb)) := ht_cmp op_gt cmd_gt ha hb (nomark _)
theorem ht_ge (ha : PE X a (kE X.K g x wa)) (hb : PE X b (kP X.K g x wb)) : PT X (.Compare a [.GtE] [b] pos) (kT X.K g x (wCmT oGe wa wb)) := ht_cmp op_ge cmd_ge ha hb (nomark _)
theorem ht_le (hr : Room k X.A) (ha : PE X a (kE X.K g x wa)) (hb : PE X b (kP X.K g x wb)) : PT X (.Compare a [.LtE] [b] pos) (kT X.K g x (wCmT oLe wa wb)) := ht_cmp (op_le.or (op_leT hr.units0)) cmd_le ha hb (nomark _)
theorem ht_eq (hr : Room k X.A) (ha : PE X a (kE X.K g x wa)) (hb : PE X b (kP X.K g x wb)) : PT X (.Compare a [.Eq] [b] pos) (kT X.K g x (wCmT oEq wa wb)) := ht_cmp (op_eq.or (op_eqD hr.units)) cmd_eq ha hb (nomark _)
theorem ht_ne (hr : Room k X.A) (ha : PE X a (kE X.K g x wa)) (hb : PE X b (kP X.K g x wb)) : PT X (.Compare a [.NotEq] [b] pos) (kT X.K g x (wCmT oNe wa wb)) := ht_cmp (op_ne.or (op_neD hr.units)) cmd_ne ha hb (nomark _)
theorem ht_is (ha : PE X a (kE X.K g x wa)) (hb : PE X b (kP X.K g x wb)) : PT X (.Compare a [.Is] [b] pos) (kT X.K g x (wCmT oIs wa wb)) := ht_cmp (op_isN.or op_is_bl) cmd_is ha hb (nomark _)
theorem ht_nis (ha : PE X a (kE X.K g x wa)) (hb : PE X b (kP X.K g x wb)) : PT X (.Compare a [.IsNot] [b] pos) (kT X.K g x (wCmT oNis wa wb)) := ht_cmp (op_notN.or op_isnot_bl) cmd_nis ha hb (nomark _)
theorem ht_in (hr : Room k X.A) (ha : PE X a (kE X.K g x wa)) (hb : PE X b (kP X.K g x wb)) (hm : behindInMarks .In b = false := by rfl) : PT X (.Compare a [.In] [b] pos) (kT X.K g x (wCmT oIn wa wb)) := ht_cmp ((op_inD (by have := hr.un; omega)).or op_in_seq) cmd_in ha hb hm
theorem ht_nin (hr : Room k X.A) (ha : PE X a (kE X.K g x wa)) (hb : PE X b (kP X.K g x wb)) (hm : behindInMarks .NotIn b = false := by rfl) : PT X (.Compare a [.NotIn] [b] pos) (kT X.K g x (wCmT oNin wa wb)) := ht_cmp ((op_notInD (by have := hr.un; omega)).or op_notIn_seq) cmd_nin ha hb hm
theorem he_lt (ha : PE X a (kE X.K g x wa)) (hb : PE X b (kP X.K g x wb)) : PE X (.Compare a [.Lt] [b] pos) (kE X.K g x (wBl (wCmT oLt wa wb))) := he_cmp op_lt cmd_lt ha hb (nomark _)
theorem he_gt (ha : PE X a (kE X.K g x wa)) (hb : PE X b (kP X.K g x wb)) : PE X (.Compare a [.Gt] [b] pos) (kE X.K g x (wBl (wCmT oGt wa wb))) := he_cmp op_gt cmd_gt ha hb (nomark _)
theorem he_ge (ha : PE X a (kE X.K g x wa)) (hb : PE X b (kP X.K g x wb)) : PE X (.Compare a [.GtE] [b] pos) (kE X.K g x (wBl (wCmT oGe wa wb))) := he_cmp op_ge cmd_ge ha hb (nomark _)
theorem he_le (hr : Room k X.A) (ha : PE X a (kE X.K g x wa)) (hb : PE X b (kP X.K g x wb)) : PE X (.Compare a [.LtE] [b] pos) (kE X.K g x (wBl (wCmT oLe wa wb))) := he_cmp (op_le.or (op_leT hr.units0)) cmd_le ha hb (nomark _)
theorem he_eq (hr : Room k X.A) (ha : PE X a (kE X.K g x wa)) (hb : PE X b (kP X.K g x wb)) : PE X (.Compare a [.Eq] [b] pos) (kE X.K g x (wBl (wCmT oEq wa wb))) := he_cmp (op_eq.or (op_eqD hr.units)) cmd_eq ha hb (nomark _)
theorem he_ne (hr : Room k X.A) (ha : PE X a (kE X.K g x wa)) (hb : PE X b (kP X.K g x wb)) : PE X (.Compare a [.NotEq] [b] pos) (kE X.K g x (wBl (wCmT oNe wa wb))) := he_cmp (op_ne.or (op_neD hr.units)) cmd_ne ha hb (nomark _)
theorem he_is (ha : PE X a (kE X.K g x wa)) (hb : PE X b (kP X.K g x wb)) : PE X (.Compare a [.Is] [b] pos) (kE X.K g x (wBl (wCmT oIs wa wb))) := he_cmp (op_isN.or op_is_bl) cmd_is ha hb (nomark _)
theorem he_nis (ha : PE X a (kE X.K g x wa)) (hb : PE X b (kP X.K g x wb)) : PE X (.Compare a [.IsNot] [b] pos) (kE X.K g x (wBl (wCmT oNis wa wb))) := he_cmp (op_notN.or op_isnot_bl) cmd_nis ha hb (nomark _)
theorem he_in (hr : Room k X.A) (ha : PE X a (kE X.K g x wa)) (hb : PE X b (kP X.K g x wb)) (hm : behindInMarks .In b = false := by rfl) : PE X (.Compare a [.In] [b] pos) (kE X.K g x (wBl (wCmT oIn wa wb))) := he_cmp ((op_inD (by have := hr.un; omega)).or op_in_seq) cmd_in ha hb hm
theorem he_nin (hr : Room k X.A) (ha : PE X a (kE X.K g x wa)) (hb : PE X b (kP X.K g x wb)) (hm : behindInMarks .NotIn b = false := by rfl) : PE X (.Compare a [.NotIn] [b] pos) (kE X.K g x (wBl (wCmT oNin wa wb))) := he_cmp ((op_notInD (by have := hr.un; omega)).or op_notIn_seq) cmd_nin ha hb hm
/-- a <= b < c and its like, the two rules named -/
theorem he_leLt (hr : Room k X.A) (ha : PE X a (kE X.K g x wa)) (hb : PE X b (kE X.K g x wb)) (hc : PE X c (kE X.K g x wc)) (hm : lastMarks [.LtE, .Lt] [b, c] = false := by with_unfolding_all rfl) : PE X (.Compare a [.LtE, .Lt] [b, c] pos) (kE X.K g x (wBl (wChT oLe oLt wa wb wc))) := he_chain (op_le.or (op_leT hr.units0)) cmd_le op_lt cmd_lt ha hb hc hm
theorem he_leLe (hr : Room k X.A) (ha : PE X a (kE X.K g x wa)) (hb : PE X b (kE X.K g x wb)) (hc : PE X c (kE X.K g x wc)) (hm : lastMarks [.LtE, .LtE] [b, c] = false := by with_unfolding_all rfl) : PE X (.Compare a [.LtE, .LtE] [b, c] pos) (kE X.K g x (wBl (wChT oLe oLe wa wb wc))) := he_chain (op_le.or (op_leT hr.units0)) cmd_le (op_le.or (op_leT hr.units0)) cmd_le ha hb hc hm
theorem ht_leLt (hr : Room k X.A) (ha : PE X a (kE X.K g x wa)) (hb : PE X b (kE X.K g x wb)) (hc : PE X c (kE X.K g x wc)) (hm : lastMarks [.LtE, .Lt] [b, c] = false := by with_unfolding_all rfl) : PT X (.Compare a [.LtE, .Lt] [b, c] pos) (kT X.K g x (wChT oLe oLt wa wb wc)) := ht_chain (op_le.or (op_leT hr.units0)) cmd_le op_lt cmd_lt ha hb hc hm
theorem ht_leLe (hr : Room k X.A) (ha : PE X a (kE X.K g x wa)) (hb : PE X b (kE X.K g x wb)) (hc : PE X c (kE X.K g x wc)) (hm : lastMarks [.LtE, .LtE] [b, c] = false := by with_unfolding_all rfl) : PT X (.Compare a [.LtE, .LtE] [b, c] pos) (kT X.K g x (wChT oLe oLe wa wb wc)) := ht_chain (op_le.or (op_leT hr.units0)) cmd_le (op_le.or (op_leT hr.units0)) cmd_le ha hb hc hm
end
end Fz

set_option maxRecDepth 100000
set_option maxHeartbeats 1000000
/-! F4: places, slices, built-in functions. -/
namespace Fz
open PySem PySem.Spec L2
theorem ixN_lt {n : Nat} {i : Int} {j : Nat} (h : ixN n i = some j) : j < n := (ixN_seq h).2.1
theorem atI_dts {K : PySem.W.Frag} {H : Hp} {ds : List D} {xs : List V} {i : Int} {d : D} (h : DtAll K H xs ds) (e : atI ds i = some d) : ∃ v, atI xs i = some v ∧ Dt K H v d := by
  unfold atI at e ⊢
  rw [dpa_len h]
  cases q : ixN ds.length i with
  | none => rw [q] at e; cases e
  | some j =>
    rw [q] at e
    obtain ⟨v, ev, p⟩ := dpa_get (i := j) (d := d) h e
    exact ⟨v, ev, p⟩
@[simp] def oIx (a b : D) (P : D → Prop) : Prop := match a, b with
  | .tuple ds, .int i => match atI ds i with
    | some d => P d
    | none => False
  | .list ds, .int i => match atI ds i with
    | some d => P d
    | none => False
  | _, _ => False
theorem opd_ix {K : PySem.W.Frag} : OpD K (rIx K) oIx := by
  intro F H x y dx dy P Q fh px py h q
  cases px with
  | @tup a xs ds hs ha =>
    cases py with
    | int i =>
      unfold oIx at h
      cases e : atI ds i with
      | none => simp only [e] at h
      | some d =>
        simp only [e] at h
        obtain ⟨v, ev, p⟩ := atI_dts ha e
        exact .inr (.inl ⟨a, xs, i, v, rfl, rfl, sqT_mono fh hs, ev, q v F H d (.refl fh) p h⟩)
    | _ => exact h.elim
  | @lst a xs ds hs ha =>
    cases py with
    | int i =>
      unfold oIx at h
      cases e : atI ds i with
      | none => simp only [e] at h
      | some d =>
        simp only [e] at h
        obtain ⟨v, ev, p⟩ := atI_dts ha e
        exact .inl ⟨a, xs, i, v, rfl, rfl, (sqL_mono fh hs), ev, q v F H d (.refl fh) p h⟩
    | _ => exact h.elim
  | _ => exact h.elim
section
variable {X : Cx} {g : Gd} {x : EX} {a b c : Expr} {wa wb wc : WE} {pos : Pos} {k : Nat}
theorem he_ix (ha : PE X a (kE X.K g x wa)) (hb : PE X b (kE X.K g x wb)) (hs : PlainIx b := by exact fun _ _ => rfl) : PE X (.Subscript a b pos) (kE X.K g x (wOp oIx wa wb)) := ke_op opd_ix (pe_ix ix_seq ha hb hs)
/-- a slot's own list at a place -/
@[simp] def wIxO (i : Nat) (w : WE) : WE := fun x ρ P => (lstAt ρ i).isSome = true ∧ w x ρ fun d ρ1 => match lstAt ρ1 i with
  | some ds => oIx (.list ds) d fun e => P e ρ1
  | none => False
theorem he_ixO (i : Nat) {y : Str} {p : Pos} (hb : PE X b (kE X.K g x wb)) (hN : X.N[i]? = some y := by rfl) (hv : Vis X.env.scope y := by first | exact Or.inl rfl | exact Or.inr (Or.inl rfl) | exact Or.inr (Or.inr rfl)) (hd : (y == ("__debug__" : Str)) = false := by decide)
    (hcd : (y == ("__classdict__" : Str)) = false := by decide) (hs : PlainIx b := by exact fun _ _ => rfl) : PE X (.Subscript (.Name y p) b pos) (kE X.K g x (wIxO i wb)) :=
  pe_imp (pe_ix ix_seq (pe_var hN hv hd hcd) hb hs) fun σ H Q ⟨F, ρ, P, k, h, q⟩ => by
    obtain ⟨h0, h⟩ := h
    obtain ⟨ds0, e0⟩ := Option.isSome_iff_exists.mp h0
    obtain ⟨a, _, ea, _⟩ := k.lstAt e0
    refine ⟨_, ea, F, ρ, _, k, h, fun v F2 H2 d ρ2 k2 s2 p2 h2 => ?_⟩
    cases e : lstAt ρ2 i with
    | none => simp only [e] at h2
    | some ds =>
      simp only [e] at h2
      obtain ⟨a', xs, ev, hF, hH, hd2, _⟩ := k2.lstAt e
      rw [ea] at ev
      cases ev
      cases p2 with
      | int j =>
        unfold oIx at h2
        cases e2 : atI ds j with
        | none => simp only [e2] at h2
        | some d =>
          simp only [e2] at h2
          obtain ⟨u, eu, p⟩ := atI_dts hd2 e2
          exact .inl ⟨a, xs, j, u, rfl, rfl, .inl (.inl hH), eu, q u F2 H2 d ρ2 k2 s2 p h2⟩
      | _ => exact h2.elim
end

/-! ### slices -/
def cutD (ds : List D) (lo hi : Option Int) : List D := (ds.drop (HT.sIx ds.length 0 lo)).take (HT.sIx ds.length ds.length hi - HT.sIx ds.length 0 lo)
theorem dpa_cut {K : PySem.W.Frag} {H : Hp} {ds : List D} {xs : List V} (h : DtAll K H xs ds) (lo hi : Option Int) : DtAll K H (cutV xs lo hi) (cutD ds lo hi) := by
  unfold cutV cutD
  rw [dpa_len h]
  exact dpa_take _ (dpa_drop _ h)
/-- an end of a slice -/
abbrev WO := EX → Env → (Option Int → Env → Prop) → Prop
def kO (K : PySem.W.Frag) (g : Gd) (x : EX) (w : WO) : TO := fun σ H Q => ∃ (F : Hp) (ρ : Env) (P : Option Int → Env → Prop), Ok K g F H σ ρ ∧ w x ρ P ∧
  ∀ o F2 H2 ρ2, Ok K g F2 H2 σ ρ2 → Same F F2 → P o ρ2 → Q o H2
@[simp] def wNo : WO := fun _ ρ P => P none ρ
@[simp] def wEnd (w : WE) : WO := fun x ρ P => w x ρ fun d ρ1 => match d with
  | .int i => P (some i) ρ1
  | _ => False
section
variable {X : Cx} {g : Gd} {x : EX} {a b c : Expr} {wa wb wc : WE} {pos p2 : Pos} {k : Nat} {lo hi : Option Expr} {wl wh : WO}
theorem po_imp {e : Option Expr} {t t' : TO} (h : PO X e t) (f : ∀ σ H Q, t' σ H Q → t σ H Q) : PO X e t' := ⟨fun pins s σ H Q I q => h.run pins s σ H Q I (f σ H Q q)⟩
theorem ho_none : PO X none (kO X.K g x wNo) := po_imp po_none fun σ H Q ⟨F, ρ, P, k, h, q⟩ => q none F H ρ k (Same.refl _) h
theorem ho_some (h : PE X a (kE X.K g x wa)) : PO X (some a) (kO X.K g x (wEnd wa)) := po_imp (po_some h) fun σ H Q ⟨F, ρ, P, k, h, q⟩ => ⟨F, ρ, _, k, h, fun v F2 H2 d ρ2 k2 s2 p2 h2 => by
  cases p2 with
  | int i => exact ⟨i, rfl, q _ F2 H2 ρ2 k2 s2 h2⟩
  | _ => exact h2.elim⟩
/-- t[lo:hi] of a tuple -/
@[simp] def wSlT (w : WE) (wl wh : WO) : WE := fun x ρ P => w x ρ fun d ρ1 => match d with
  | .tuple ds => wl x ρ1 fun l ρ2 => wh x ρ2 fun u ρ3 => P (.tuple (cutD ds l u)) ρ3
  | _ => False
/-- xs[lo:hi] of a list: a new one -/
@[simp] def wSlL (w : WE) (wl wh : WO) : WL := fun x ρ P => w x ρ fun d ρ1 => match d with
  | .list ds => wl x ρ1 fun l ρ2 => wh x ρ2 fun u ρ3 => P (cutD ds l u) ρ3
  | _ => False
theorem take_all_cut {K : PySem.W.Frag} {H : Hp} {ds : List D} {xs : List V} (h : DtAll K H xs ds) {lo hi : Option Int} (e : HT.sIx xs.length 0 lo = 0 ∧ HT.sIx xs.length xs.length hi = xs.length) : cutD ds lo hi = ds := by
  unfold cutD
  rw [dpa_len h] at e
  rw [e.1, e.2, List.drop_zero, Nat.sub_zero, List.take_length]
theorem he_slT (ha : PE X a (kE X.K g x wa)) (hl : PO X lo (kO X.K g x wl)) (hh : PO X hi (kO X.K g x wh)) : PE X (.Subscript a (.Slice lo hi none p2) pos) (kE X.K g x (wSlT wa wl wh)) :=
  pe_imp (pe_slice sl_tupA ha hl hh) fun σ H Q ⟨F, ρ, P, k, h, q⟩ => ⟨F, ρ, _, k, h, fun v F2 H2 d ρ2 k2 s2 p2 h2 => by
    cases p2 with
    | @tup a xs ds hs ha =>
      refine ⟨F2, ρ2, _, k2, h2, fun l F3 H3 ρ3 k3 s3 h3 => ⟨F3, ρ3, _, k3, h3, fun u F4 H4 ρ4 k4 s4 h4 => ?_⟩⟩
      have s34 := s3.trans s4
      have ht := sqT_mono (s34.trans k4.fh) hs
      refine ⟨a, xs, rfl, ht, fun e => ?_, fun _ p hp => ?_⟩
      · rw [take_all_cut ha e] at h4
        exact q _ F4 H4 _ ρ4 k4 (s2.trans s34) (.tup (sqT_mono s34 hs) (dpa_mono s34 _ _ ha)) h4
      · have gr : Gr F4 H4 _ _ := .frz (o := .tup (cutV xs l u)) k4.fh hp
        exact q _ _ _ _ ρ4 (k4.grow gr) ((s2.trans s34).trans gr.ff) (.tup (.inl (.inl upd_same)) (dpa_cut (dpa_mono (s34.trans gr.ff) _ _ ha) l u)) h4
    | _ => exact h2.elim⟩
theorem hn_slL (ha : PE X a (kE X.K g x wa)) (hl : PO X lo (kO X.K g x wl)) (hh : PO X hi (kO X.K g x wh)) : PE X (.Subscript a (.Slice lo hi none p2) pos) (kN X.K g x (wSlL wa wl wh)) :=
  pe_imp (pe_slice sl_list ha hl hh) fun σ H Q ⟨F, ρ, P, k, h, q⟩ => ⟨F, ρ, _, k, h, fun v F2 H2 d ρ2 k2 s2 p2 h2 => by
    cases p2 with
    | @lst a xs ds hs ha =>
      refine ⟨F2, ρ2, _, k2, h2, fun l F3 H3 ρ3 k3 s3 h3 => ⟨F3, ρ3, _, k3, h3, fun u F4 H4 ρ4 k4 s4 h4 => ?_⟩⟩
      have s34 := s3.trans s4
      exact ⟨a, xs, rfl, (sqL_mono (s34.trans k4.fh) hs), fun p hp => q p _ F4 _ _ ρ4 (k4.grow (.lay k4.fh hp)) (s2.trans s34) (k4.new hp) upd_same (dpa_cut (dpa_mono s34 _ _ ha) l u) h4⟩
    | _ => exact h2.elim⟩
/-- xs[::-1] -/
@[simp] def wRev (w : WE) : WL := fun x ρ P => w x ρ fun d ρ1 => match d with
  | .list ds => P ds.reverse ρ1
  | _ => False
theorem dpa_rev {K : PySem.W.Frag} {H : Hp} : ∀ {ds : List D} {xs : List V}, DtAll K H xs ds → DtAll K H xs.reverse ds.reverse
  | [], _, h => by cases h; exact .nil
  | d :: ds, _, h => by
    cases h with
    | cons h1 h2 =>
      rw [List.reverse_cons, List.reverse_cons]
      exact dpa_app (dpa_rev h2) (dpa_one h1)
theorem hn_rev {k : Nat} {p1 p2 p3 : Pos} (ha : PE X a (kE X.K g x wa)) : PE X (.Subscript a (.Slice none none (some (.UnaryOp .USub (.Constant (.int 1) k p1) p2)) p3) pos) (kN X.K g x (wRev wa)) :=
  pe_imp (pe_revL ha) fun σ H Q ⟨F, ρ, P, k, h, q⟩ => ⟨F, ρ, _, k, h, fun v F2 H2 d ρ2 k2 s2 p2 h2 => by
    cases p2 with
    | @lst a xs ds hs ha =>
      exact ⟨a, xs, rfl, (sqL_mono k2.fh hs), fun p hp => q p _ F2 _ _ ρ2 (k2.grow (.lay k2.fh hp)) s2 (k2.new hp) upd_same (dpa_rev ha) h2⟩
    | _ => exact h2.elim⟩
end

/-! ### list + list, list * n -/
def rCatR (K : PySem.W.Frag) : R2 := fun x y H Q => ∃ l b xs zs, x = .ref l ∧ y = .ref b ∧ SqL K H l xs ∧ SqL K H b zs ∧ xs.length + zs.length ≤ sizeLine ∧ ∀ p, H p = none → Q (.ref p) (upd H p (.lst (xs ++ zs)))
theorem lst_at {X : Cx} {pins : List (Addr × Obj)} {σ : L2.St} {H : Hp} {s : Shared} {l : Addr} {xs : List V} (I : Inv X pins σ H s) (h : Rd H l (.lst xs)) :
    ∃ (its : List Value) (n : Nat), Vals xs its ∧ s.heap.get? l = some { cls := .type "list", data := .seq its.toArray n } := by
  obtain ⟨_, its, n, r, e⟩ := h.ok I.hok
  exact ⟨its, n, r, e⟩
theorem opr_cat {X : Cx} : OpR X (binaryOp .Add) (rCatR X.K) := by
  intro pins s σ H x y v u Q I rx ry h
  obtain ⟨l, b, xs, zs, rfl, rfl, hH, hB, hz, q⟩ := h
  cases rx
  cases ry
  obtain ⟨its, r, ⟨⟨c1, d1, a1, s1⟩, n, e, x1, x2, x3⟩, _⟩ := I.list hH
  obtain ⟨its2, r2, ⟨⟨c2, d2, a2, s2⟩, n2, e2, y1, y2, y3⟩, _⟩ := I.list hB
  simp only at x1 x2 x3 y1 y2 y3
  subst x1 x2 x3 y1 y2 y3
  have l1 := r.length
  have l2 := r2.length
  refine concat_meets ⟨_, e, rfl⟩ ⟨_, e2, rfl⟩ noFill_list_add seq_list_add PySem.F.slot_list_add PySem.F.entry_list_add (PySem.F.args_list_add_2 _ _) (PyProof.Rows.list_addW l b its.toArray its2.toArray n n2 none none s1 s2 (by simp only [List.size_toArray]; omega)) ⟨e, e2, ?_⟩
  rw [show its.toArray ++ its2.toArray = (its ++ its2).toArray from by simp]
  exact ⟨.ref _, _, I.lnew (t' := s.toks) (r.append r2) (by rw [List.length_append]; exact hz), rfl, q _ I.fresh⟩
@[simp] def oCat (a b : D) (P : List D → Prop) : Prop := match a, b with
  | .list xs, .list ys => xs.length + ys.length ≤ 100000 ∧ P (xs ++ ys)
  | _, _ => False
theorem Pk.lst {K : PySem.W.Frag} {F H : Hp} {v : V} {ds : List D} (p : Pk K F H v (.list ds)) (s : Same F H) : ∃ a xs, v = .ref a ∧ SqL K H a xs ∧ DtAll K F xs ds := by
  rcases p with p | ⟨a, xs, es, e1, e2, h, q⟩
  · cases p with
    | @lst a xs ds hs ha => exact ⟨a, xs, rfl, sqL_mono s hs, ha⟩
  · cases e2
    exact ⟨a, xs, e1, .inl (.inl h), q⟩
theorem opn_cat {K : PySem.W.Frag} : OpN K (rCatR K) oCat := by
  intro F H x y dx dy P Q fh px py h q
  cases dx with
  | list ds =>
    cases dy with
    | list es =>
      obtain ⟨a, xs, rfl, ra, ha⟩ := px.lst fh
      obtain ⟨b, ys, rfl, rb, hb⟩ := py.lst fh
      exact ⟨a, b, xs, ys, rfl, rfl, ra, rb, by rw [dpa_len ha, dpa_len hb]; exact line_of h.1, fun p hp => q p _ _ hp (dpa_app ha hb) h.2⟩
    | _ => exact h.elim
  | _ => exact h.elim
/-- list * n, the list tracked -/
@[simp] def oRep (a b : D) (P : List D → Prop) : Prop := match a, b with
  | .list xs, .int k => (0 ≤ k ∧ k ≤ 100000 ∧ xs.length * k.toNat ≤ 100000) ∧ P (List.replicate k.toNat xs).flatten
  | _, _ => False
section
variable {X : Cx} {g : Gd} {x : EX} {a b c : Expr} {wa wb wc : WE} {pos p2 : Pos} {k : Nat} {wx : WL}
theorem hn_cat (ha : PE X a (kE X.K g x wa)) (hb : PE X b (kP X.K g x wb)) : PE X (.BinOp a .Add b pos) (kN X.K g x (wOpN oCat wa wb)) := hn_op opr_cat opn_cat ha hb
/-- a slot's own list + a list -/
@[simp] def wCatO (i : Nat) (w : WE) : WL := fun x ρ P => (lstAt ρ i).isSome = true ∧ w x ρ fun d ρ1 => match lstAt ρ1 i with
  | some ds => oCat (.list ds) d fun e => P e ρ1
  | none => False
theorem hn_catO (i : Nat) {y : Str} {p : Pos} (hb : PE X b (kE X.K g x wb)) (hN : X.N[i]? = some y := by rfl) (hv : Vis X.env.scope y := by first | exact Or.inl rfl | exact Or.inr (Or.inl rfl) | exact Or.inr (Or.inr rfl)) (hd : (y == ("__debug__" : Str)) = false := by decide)
    (hcd : (y == ("__classdict__" : Str)) = false := by decide) : PE X (.BinOp (.Name y p) .Add b pos) (kN X.K g x (wCatO i wb)) :=
  pe_imp (pe_op opr_cat (pe_var hN hv hd hcd) hb) fun σ H Q ⟨F, ρ, P, k, h, q⟩ => by
    obtain ⟨h0, h⟩ := h
    obtain ⟨ds0, e0⟩ := Option.isSome_iff_exists.mp h0
    obtain ⟨a, _, ea, _⟩ := k.lstAt e0
    refine ⟨_, ea, F, ρ, _, k, h, fun v F2 H2 d ρ2 k2 s2 p2 h2 => ?_⟩
    cases e : lstAt ρ2 i with
    | none => simp only [e] at h2
    | some ds =>
      simp only [e] at h2
      obtain ⟨a', xs, ev, hF, hH, hd2, _⟩ := k2.lstAt e
      rw [ea] at ev
      cases ev
      cases p2 with
      | @lst b ys es hs ha =>
        exact ⟨a, b, xs, ys, rfl, rfl, .inl (.inl hH), sqL_mono k2.fh hs, by rw [dpa_len hd2, dpa_len ha]; exact line_of h2.1, fun p hp => q p _ F2 _ _ ρ2 (k2.grow (.lay k2.fh hp)) s2 (k2.new hp) upd_same (dpa_app hd2 ha) h2.2⟩
      | _ => exact h2.elim
@[simp] def wRep (w : WL) (wb : WE) : WL := fun x ρ P => w x ρ fun ds ρ1 => wb x ρ1 fun d ρ2 => oRep (.list ds) d fun e => P e ρ2
/-- [..] * n, the left side a new list -/
theorem hn_rep (ha : PE X a (kN X.K g x wx)) (hb : PE X b (kE X.K g x wb)) : PE X (.BinOp a .Mult b pos) (kN X.K g x (wRep wx wb)) :=
  pe_imp (pe_op op_rep ha hb) fun σ H Q ⟨F, ρ, P, k, h, q⟩ => ⟨F, ρ, _, k, h, fun p xs F2 H2 ds ρ2 k2 s2 n e p2 h2 => by
    obtain ⟨k3, s3⟩ := k2.freeze n.toNob e
    refine ⟨_, ρ2, _, k3, h2, fun v F3 H3 d ρ3 k4 s4 p4 h4 => ?_⟩
    cases p4 with
    | int j =>
      obtain ⟨⟨b0, b1, b2⟩, h4⟩ := h4
      have pd := dpa_mono (s3.trans s4) _ _ p2
      refine ⟨p, j, xs, rfl, rfl, k4.fh _ _ (s4 _ _ upd_same), by omega, by omega, by rw [dpa_len p2]; exact line_of b2, fun r hr => ?_⟩
      exact q r _ F3 _ _ ρ3 (k4.grow (.lay k4.fh hr)) (s2.trans (s3.trans s4)) (k4.new hr) upd_same (dpa_rep pd _) h4
    | _ => exact h4.elim⟩
end

/-! ### built-in functions of one thing -/
/-- a call's rule does what the data says -/
def BuP (K : PySem.W.Frag) (r : List V → Hp → VK → Prop) (o : D → (D → Prop) → Prop) : Prop :=
  ∀ (F H : Hp) (v : V) (d : D) (P : D → Prop) (Q : VK), Same F H → Pk K F H v d → o d P → (∀ u F2 H2 e, Gr F H F2 H2 → Dt K F2 u e → P e → Q u H2) → r [v] H Q
/-- .. a new list -/
def BuN (K : PySem.W.Frag) (r : List V → Hp → VK → Prop) (o : D → (List D → Prop) → Prop) : Prop :=
  ∀ (F H : Hp) (v : V) (d : D) (P : List D → Prop) (Q : VK), Same F H → Pk K F H v d → o d P → (∀ p xs ds, H p = none → DtAll K F xs ds → P ds → Q (.ref p) (upd H p (.lst xs))) → r [v] H Q
@[simp] def wFn (o : D → (D → Prop) → Prop) (w : WE) : WE := fun x ρ P => w x ρ fun d ρ1 => o d fun e => P e ρ1
@[simp] def wFnN (o : D → (List D → Prop) → Prop) (w : WE) : WL := fun x ρ P => w x ρ fun d ρ1 => o d fun e => P e ρ1
section
variable {X : Cx} {g : Gd} {x : EX} {a b c e : Expr} {wa wb wc w : WE} {pos p : Pos} {k : Nat} {r : List V → Hp → VK → Prop} {o : D → (D → Prop) → Prop} {oN : D → (List D → Prop) → Prop} {y : Str} {id T : String}
theorem ke_fn (hd : BuP X.K r o) {t : Expr} (h : PE X t (tCB r (tCons (kP X.K g x w) tNil))) : PE X t (kE X.K g x (wFn o w)) :=
  pe_imp h fun σ H Q ⟨F, ρ, P, k, h, q⟩ => ⟨F, ρ, _, k, h, fun v F2 H2 d ρ2 k2 s2 p2 h2 => hd F2 H2 v d _ Q k2.fh p2 h2 fun u F3 H3 e gr p3 h3 => q u F3 H3 e ρ2 (k2.grow gr) (s2.trans gr.ff) p3 h3⟩
theorem kn_fn (hd : BuN X.K r oN) {t : Expr} (h : PE X t (tCB r (tCons (kP X.K g x w) tNil))) : PE X t (kN X.K g x (wFnN oN w)) :=
  pe_imp h fun σ H Q ⟨F, ρ, P, k, h, q⟩ => ⟨F, ρ, _, k, h, fun v F2 H2 d ρ2 k2 s2 p2 h2 => hd F2 H2 v d _ Q k2.fh p2 h2 fun p xs ds hp pd h3 =>
    q p xs F2 _ ds ρ2 (k2.grow (.lay k2.fh hp)) s2 (k2.new hp) upd_same pd h3⟩
theorem he_fnB (hc : CallR X (.builtin id) r) (hd : BuP X.K r o) (hg : Gl X y) (hm : X.mg y = none) (hv : bootBuiltins y = some (.builtin id)) (ha : PE X e (kP X.K g x w)) (hn : y ≠ "__name__" := by decide) (hdb : (y == ("__debug__" : Str)) = false := by decide)
    (he : starEach (e :: []) X.env = (false, eval e X.env) :: starEach [] X.env := by rfl) (hpl : (backTo pos (starEach [] X.env)).any (·.1) = false := by rfl) : PE X (.Call (.Name y p) (e :: []) [] pos) (kE X.K g x (wFn o w)) :=
  ke_fn hd (pe_callB hc hg hm hv (pa_cons ha pa_nil he) hn hdb he hpl)
theorem he_fnT (hc : CallR X (.type T) r) (hd : BuP X.K r o) (hg : Gl X y) (hm : X.mg y = none) (hv : bootBuiltins y = some (.type T)) (ha : PE X e (kP X.K g x w)) (hn : y ≠ "__name__" := by decide) (hdb : (y == ("__debug__" : Str)) = false := by decide)
    (he : starEach (e :: []) X.env = (false, eval e X.env) :: starEach [] X.env := by rfl) (hpl : (backTo pos (starEach [] X.env)).any (·.1) = false := by rfl) : PE X (.Call (.Name y p) (e :: []) [] pos) (kE X.K g x (wFn o w)) :=
  ke_fn hd (pe_callTy hc hg hm hv (pa_cons ha pa_nil he) hn hdb he hpl)
theorem hn_fnB (hc : CallR X (.builtin id) r) (hd : BuN X.K r oN) (hg : Gl X y) (hm : X.mg y = none) (hv : bootBuiltins y = some (.builtin id)) (ha : PE X e (kP X.K g x w)) (hn : y ≠ "__name__" := by decide) (hdb : (y == ("__debug__" : Str)) = false := by decide)
    (he : starEach (e :: []) X.env = (false, eval e X.env) :: starEach [] X.env := by rfl) (hpl : (backTo pos (starEach [] X.env)).any (·.1) = false := by rfl) : PE X (.Call (.Name y p) (e :: []) [] pos) (kN X.K g x (wFnN oN w)) :=
  kn_fn hd (pe_callB hc hg hm hv (pa_cons ha pa_nil he) hn hdb he hpl)
theorem hn_fnT (hc : CallR X (.type T) r) (hd : BuN X.K r oN) (hg : Gl X y) (hm : X.mg y = none) (hv : bootBuiltins y = some (.type T)) (ha : PE X e (kP X.K g x w)) (hn : y ≠ "__name__" := by decide) (hdb : (y == ("__debug__" : Str)) = false := by decide)
    (he : starEach (e :: []) X.env = (false, eval e X.env) :: starEach [] X.env := by rfl) (hpl : (backTo pos (starEach [] X.env)).any (·.1) = false := by rfl) : PE X (.Call (.Name y p) (e :: []) [] pos) (kN X.K g x (wFnN oN w)) :=
  kn_fn hd (pe_callTy hc hg hm hv (pa_cons ha pa_nil he) hn hdb he hpl)
end
@[simp] def oLen (d : D) (P : D → Prop) : Prop := match d with
  | .list ds => P (.int ds.length)
  | .tuple ds => P (.int ds.length)
  | _ => False
@[simp] def oInt (d : D) (P : D → Prop) : Prop := match d with
  | .int i => P (.int i)
  | .bool b => P (.int (if b then 1 else 0))
  | _ => False
@[simp] def oAbs (d : D) (P : D → Prop) : Prop := match d with
  | .int i => P (.int (if i < 0 then -i else i))
  | _ => False
@[simp] def oSum (d : D) (P : D → Prop) : Prop := match d with
  | .list ds => match intsOf ds with
    | some ns => P (.int ns.sum)
    | none => False
  | _ => False
@[simp] def oAll (d : D) (P : D → Prop) : Prop := match d with
  | .list ds => match boolsOf ds with
    | some bs => P (.bool (bs.all id))
    | none => False
  | _ => False
@[simp] def oAny (d : D) (P : D → Prop) : Prop := match d with
  | .list ds => match boolsOf ds with
    | some bs => P (.bool (bs.any id))
    | none => False
  | _ => False
@[simp] def oMaxL (d : D) (P : D → Prop) : Prop := match d with
  | .list ds => match intsOf ds with
    | some ns => 0 < ns.length ∧ ∀ m, m ∈ ns → (∀ y, y ∈ ns → y ≤ m) → P (.int m)
    | none => False
  | _ => False
@[simp] def oMinL (d : D) (P : D → Prop) : Prop := match d with
  | .list ds => match intsOf ds with
    | some ns => 0 < ns.length ∧ ∀ m, m ∈ ns → (∀ y, y ∈ ns → m ≤ y) → P (.int m)
    | none => False
  | _ => False
@[simp] def oTupF (d : D) (P : D → Prop) : Prop := match d with
  | .list ds => P (.tuple ds)
  | .tuple ds => P (.tuple ds)
  | _ => False
@[simp] def oLstF (d : D) (P : List D → Prop) : Prop := match d with
  | .list ds => P ds
  | .tuple ds => P ds
  | _ => False
@[simp] def oSrtI (d : D) (P : List D → Prop) : Prop := match d with
  | .list ds => match intsOf ds with
    | some ns => ns.length < 64 ∧ ∀ ms : List Int, ms.Perm ns → ms.Pairwise (· ≤ ·) → P (ms.map .int)
    | none => False
  | _ => False
section
variable {K : PySem.W.Frag}
theorem Pk.int {F H : Hp} {v : V} {i : Int} (p : Pk K F H v (.int i)) : v = .int i := by
  rcases p with p | ⟨a, xs, ds, e1, e2, h, q⟩
  · cases p; rfl
  · cases e2
theorem Pk.bool {F H : Hp} {v : V} {i : Bool} (p : Pk K F H v (.bool i)) : v = .bl i := by
  rcases p with p | ⟨a, xs, ds, e1, e2, h, q⟩
  · cases p; rfl
  · cases e2
theorem Pk.tup {F H : Hp} {v : V} {ds : List D} (p : Pk K F H v (.tuple ds)) (s : Same F H) : ∃ a xs, v = .ref a ∧ SqT K H a xs ∧ SqT K F a xs ∧ DtAll K F xs ds := by
  rcases p with p | ⟨a, xs, es, e1, e2, h, q⟩
  · cases p with
    | @tup a xs ds hs ha => exact ⟨a, xs, rfl, sqT_mono s hs, hs, ha⟩
  · cases e2
theorem bu_len : BuP K (fun xs H Q => ∃ p ys, xs = [.ref p] ∧ (SqL K H p ys ∨ SqT K H p ys) ∧ Q (.int ys.length) H) oLen := by
  intro F H v d P Q fh pk h q
  cases d with
  | list ds =>
    obtain ⟨a, xs, rfl, r, p⟩ := pk.lst fh
    exact ⟨a, xs, rfl, .inl r, by rw [dpa_len p]; exact q _ F H _ (.refl fh) (.int _) h⟩
  | tuple ds =>
    obtain ⟨a, xs, rfl, r, _, p⟩ := pk.tup fh
    exact ⟨a, xs, rfl, .inr r, by rw [dpa_len p]; exact q _ F H _ (.refl fh) (.int _) h⟩
  | _ => exact h.elim
theorem bu_int : BuP K (fun xs H Q => (∃ i, xs = [.int i] ∧ Q (.int i) H) ∨ ∃ k, xs = [.bl k] ∧ Q (.int (if k then 1 else 0)) H) oInt := by
  intro F H v d P Q fh pk h q
  cases d with
  | int i => exact .inl ⟨i, by rw [pk.int], q _ F H _ (.refl fh) (.int _) h⟩
  | bool b => exact .inr ⟨b, by rw [pk.bool], q _ F H _ (.refl fh) (.int _) h⟩
  | _ => exact h.elim
theorem bu_abs : BuP K (fun xs H Q => ∃ i, xs = [.int i] ∧ Q (.int (if i < 0 then -i else i)) H) oAbs := by
  intro F H v d P Q fh pk h q
  cases d with
  | int i => exact ⟨i, by rw [pk.int], q _ F H _ (.refl fh) (.int _) h⟩
  | _ => exact h.elim
theorem bu_sum : BuP K (rSum K) oSum := by
  intro F H v d P Q fh pk h q
  cases d with
  | list ds =>
    unfold oSum at h
    cases e : intsOf ds with
    | none => simp only [e] at h
    | some ns =>
      simp only [e] at h
      obtain ⟨a, xs, rfl, r, p⟩ := pk.lst fh
      have ex := dts_ints p e
      subst ex
      exact ⟨a, ns, rfl, r, q _ F H _ (.refl fh) (.int _) h⟩
  | _ => exact h.elim
theorem bu_all : BuP K (rAll K) oAll := by
  intro F H v d P Q fh pk h q
  cases d with
  | list ds =>
    unfold oAll at h
    cases e : boolsOf ds with
    | none => simp only [e] at h
    | some ns =>
      simp only [e] at h
      obtain ⟨a, xs, rfl, r, p⟩ := pk.lst fh
      have ex := dts_bools p e
      subst ex
      exact ⟨a, ns, rfl, r, q _ F H _ (.refl fh) (.bl _) h⟩
  | _ => exact h.elim
theorem bu_any : BuP K (rAny K) oAny := by
  intro F H v d P Q fh pk h q
  cases d with
  | list ds =>
    unfold oAny at h
    cases e : boolsOf ds with
    | none => simp only [e] at h
    | some ns =>
      simp only [e] at h
      obtain ⟨a, xs, rfl, r, p⟩ := pk.lst fh
      have ex := dts_bools p e
      subst ex
      exact ⟨a, ns, rfl, r, q _ F H _ (.refl fh) (.bl _) h⟩
  | _ => exact h.elim
theorem bu_max : BuP K (rMax K) oMaxL := by
  intro F H v d P Q fh pk h q
  cases d with
  | list ds =>
    unfold oMaxL at h
    cases e : intsOf ds with
    | none => simp only [e] at h
    | some ns =>
      simp only [e] at h
      obtain ⟨a, xs, rfl, r, p⟩ := pk.lst fh
      have ex := dts_ints p e
      subst ex
      exact ⟨a, ns, rfl, r, h.1, fun m hm hy => q _ F H _ (.refl fh) (.int _) (h.2 m hm hy)⟩
  | _ => exact h.elim
theorem bu_min : BuP K (rMin K) oMinL := by
  intro F H v d P Q fh pk h q
  cases d with
  | list ds =>
    unfold oMinL at h
    cases e : intsOf ds with
    | none => simp only [e] at h
    | some ns =>
      simp only [e] at h
      obtain ⟨a, xs, rfl, r, p⟩ := pk.lst fh
      have ex := dts_ints p e
      subst ex
      exact ⟨a, ns, rfl, r, h.1, fun m hm hy => q _ F H _ (.refl fh) (.int _) (h.2 m hm hy)⟩
  | _ => exact h.elim
theorem bu_tup : BuP K (fun xs H Q => ∃ p ys, xs = [.ref p] ∧ ((SqL K H p ys ∧ ∀ l, H l = none → Q (.ref l) (upd H l (.tup ys))) ∨ (SqT K H p ys ∧ Q (.ref p) H))) oTupF := by
  intro F H v d P Q fh pk h q
  cases d with
  | list ds =>
    obtain ⟨a, xs, rfl, r, p⟩ := pk.lst fh
    refine ⟨a, xs, rfl, .inl ⟨r, fun l hl => ?_⟩⟩
    have gr : Gr F H _ _ := .frz (o := .tup xs) fh hl
    exact q _ _ _ _ gr (.tup (.inl (.inl upd_same)) (dpa_mono gr.ff _ _ p)) h
  | tuple ds =>
    obtain ⟨a, xs, rfl, r, rF, p⟩ := pk.tup fh
    exact ⟨a, xs, rfl, .inr ⟨r, q _ F H _ (.refl fh) (.tup rF p) h⟩⟩
  | _ => exact h.elim
theorem bu_lst : BuN K (fun xs H Q => ∃ p ys, xs = [.ref p] ∧ (SqL K H p ys ∨ SqT K H p ys) ∧ ∀ l, H l = none → Q (.ref l) (upd H l (.lst ys))) oLstF := by
  intro F H v d P Q fh pk h q
  cases d with
  | list ds =>
    obtain ⟨a, xs, rfl, r, p⟩ := pk.lst fh
    exact ⟨a, xs, rfl, .inl r, fun l hl => q l xs ds hl p h⟩
  | tuple ds =>
    obtain ⟨a, xs, rfl, r, _, p⟩ := pk.tup fh
    exact ⟨a, xs, rfl, .inr r, fun l hl => q l xs ds hl p h⟩
  | _ => exact h.elim
theorem dpa_ints {F : Hp} : ∀ ns : List Int, DtAll K F (ns.map V.int) (ns.map PyData.int)
  | [] => .nil
  | n :: r => .cons (.int n) (dpa_ints r)
theorem bu_srtI : BuN K (rSorted K) oSrtI := by
  intro F H v d P Q fh pk h q
  cases d with
  | list ds =>
    unfold oSrtI at h
    cases e : intsOf ds with
    | none => simp only [e] at h
    | some ns =>
      simp only [e] at h
      obtain ⟨a, xs, rfl, r, p⟩ := pk.lst fh
      have ex := dts_ints p e
      subst ex
      exact ⟨a, ns, rfl, r, h.1, fun ms p pm pw hp => q p _ _ hp (dpa_ints ms) (h.2 ms pm pw)⟩
  | _ => exact h.elim
end
end Fz

set_option maxRecDepth 100000
set_option maxHeartbeats 1000000
/-! F5: methods of a slot's own list, isinstance, built-ins of two things, calls of defs. -/
namespace Fz
open PySem PySem.Spec L2
/-- list.extend by a list -/
theorem ext_any (l : Addr) (xs : Array Value) (n : Nat) (b : Addr) (ys : Array Value) (k : Nat) (sl : Array (Option Value)) (h0 : ¬(!xs.isEmpty && Builtin.List.listTooLong (xs.size + ys.size)) = true) (h1 : xs.size ≤ sizeLine) (h2 : xs.size + ys.size ≤ sizeLine + 1) :
    Meets (Builtin.«list.extend» ⟨[.ref l, .ref b], []⟩) (fun _ R s => s.heap.get? l = some { cls := .type "list", dict := none, data := .seq xs n, slots := #[] } ∧ s.heap.get? b = some { cls := .type "list", dict := none, data := .seq ys k, slots := sl } ∧ R (.ok (.ret Value.none)) { s with heap := s.heap.update l (Obj.mapSeq fun x => x ++ ys), toks := s.toks }) :=
  .of_wp fun prog w A R s h => by
    obtain ⟨hp, g, d, tk, os⟩ := s
    obtain ⟨a1, a2, h⟩ := h
    have f1 := PySem.AutoSeq1.idx_int
    have f2 := PySem.AutoSeq1.sub_tuple_tuple
    have f3 := PySem.AutoSeq1.sub_list_list
    have f4 := PySem.AutoSeq1.sub_tuple_list
    have f5 := PySem.AutoSeq1.sub_list_tuple
    have hz' : (xs ++ ys).size ≤ sizeLine + 1 := by rw [Array.size_append]; exact h2
    wp_walk using (wpAny_updateSeq a1 rfl (hz := h1) (_hz' := hz')), wpAny_loadPart' a1, wpAny_loadPart' a2
    exact ⟨_, rfl, h⟩
def rExtR (K : PySem.W.Frag) : V → List V → Hp → VK → Prop := fun x vs H Q => ∃ l b xs zs, x = .ref l ∧ vs = [.ref b] ∧ H l = some (.lst xs) ∧ SqL K H b zs ∧ xs.length + zs.length ≤ sizeLine ∧ Q .non (upd H l (.lst (xs ++ zs)))
theorem mt_extR {X : Cx} : MtM X "list.extend" (rExtR X.K) := by
  intro pins s σ H x vs v us Q I rx rv h
  obtain ⟨l, b, xs, zs, rfl, rfl, hH, hB, hz, q⟩ := h
  cases rx
  obtain ⟨u, rfl, ru⟩ := rv.one
  cases ru
  obtain ⟨its, n, r, e⟩ := lst_at I (.inl hH)
  obtain ⟨its2, r2, ⟨⟨c2, d2, a2, s2⟩, n2, e2, y1, y2, y3⟩, _⟩ := I.list hB
  simp only at y1 y2 y3
  subst y1 y2 y3
  have l1 := r.length
  have l2 := r2.length
  have hsz : its.toArray.size + its2.toArray.size ≤ sizeLine := by simp only [List.size_toArray]; omega
  have f2 : ¬ (!its.toArray.isEmpty && Builtin.List.listTooLong (its.toArray.size + its2.toArray.size)) = true := by rw [notLongL hsz, Bool.and_false]; exact Bool.false_ne_true
  refine PySem.call_meets PySem.F.slot_list_extend ⟨_, e, rfl⟩ PySem.F.entry_list_extend (PySem.F.args_list_extend_2 _ _) (ext_any l its.toArray n b its2.toArray n2 s2 f2 (by omega) (by omega)) ⟨e, e2, ?_⟩
  exact ⟨.non, _, I.lset (its' := its ++ its2) hH e (by simp) (r.append r2) (by rw [List.length_append]; exact hz), rfl, q⟩

section
variable {X : Cx} {g : Gd} {x : EX} {a b c e : Expr} {wa wb wc w : WE} {wn : WL} {pos p apos cpos : Pos} {y : Str}
/-- what a method of a slot's own list does: the arguments come, the list is changed, a thing is handed back -/
@[simp] def wMt (i : Nat) (ws : WL) (o : List D → List D → (D → List D → Prop) → Prop) : WE := fun x ρ P => (lstAt ρ i).isSome = true ∧ ws x ρ fun vs ρ1 => match lstAt ρ1 i with
  | some ds => o ds vs fun d es => P d (setAt ρ1 i es)
  | none => False
def MtD (K : PySem.W.Frag) (r : V → List V → Hp → VK → Prop) (o : List D → List D → (D → List D → Prop) → Prop) : Prop :=
  ∀ (F H : Hp) (a : Addr) (xs vs : List V) (ds es : List D) (P : D → List D → Prop) (Q : VK), Same F H → H a = some (.lst xs) → DtAll K F xs ds → DtAll K F vs es → o ds es P →
    (∀ v d ys fs, Dt K F v d → DtAll K F ys fs → P d fs → Q v (upd H a (.lst ys))) → r (.ref a) vs H Q
theorem ke_mt {r : V → List V → Hp → VK → Prop} {o : List D → List D → (D → List D → Prop) → Prop} {ws : WL} {i : Nat} (hd : MtD X.K r o) {σ : L2.St} {H : Hp} {Q : VK} (hq : kE X.K g x (wMt i ws o) σ H Q) :
    ∃ v, σ[i]? = some (some v) ∧ tyV X.K "list" v H ∧ kA X.K g x ws σ H fun vs H2 => r v vs H2 Q := by
  obtain ⟨F, ρ, P, k, h, q⟩ := hq
  obtain ⟨h0, h⟩ := h
  obtain ⟨ds0, e0⟩ := Option.isSome_iff_exists.mp h0
  obtain ⟨a, xs0, ea, _, eH, _⟩ := k.lstAt e0
  refine ⟨_, ea, .inl ⟨rfl, xs0, .inl (.inl eH)⟩, F, ρ, _, k, h, fun vs F2 H2 es ρ2 k2 s2 p2 h2 => ?_⟩
  cases e : lstAt ρ2 i with
  | none => simp only [e] at h2
  | some ds =>
    simp only [e] at h2
    obtain ⟨a', xs, ev, hF, hH, hd2, _⟩ := k2.lstAt e
    rw [ea] at ev
    cases ev
    exact hd F2 H2 a xs vs ds es _ Q k2.fh hH hd2 p2 h2 fun v d ys fs pv pf hp => q v F2 _ d _ (k2.mut e ea pf) s2 pv hp
theorem he_mt {T : String} {id : String} {name : Str} {es : List Expr} {r : V → List V → Hp → VK → Prop} {o : List D → List D → (D → List D → Prop) → Prop} {ws : WL} (slot : PySem.Slot "list" name id) (hty : typeOf (.builtin id) = pure (.type "method_descriptor")) (hm : MtR X id r) (hd : MtD X.K r o) (i : Nat)
    (ha : PA X (e :: es) (kA X.K g x ws)) (hN : X.N[i]? = some y := by rfl) (hv : Vis X.env.scope y := by first | exact Or.inl rfl | exact Or.inr (Or.inl rfl) | exact Or.inr (Or.inr rfl)) (hdb : (y == ("__debug__" : Str)) = false := by decide)
    (hcd : (y == ("__classdict__" : Str)) = false := by decide) (hbase : attributeBase (.Name y p) name X.env (eval (.Name y p) X.env) = eval (.Name y p) X.env := by rfl)
    (hfew : ((backTo cpos (starEach (e :: es) X.env)).all (fun x => !x.1) && (backToKw cpos (keywordEach [] X.env)).all (fun x => x.1.isSome)
      && decide ((e :: es).length + ([] : List Keyword).length + (if ([] : List Keyword).isEmpty then 0 else 1) < 30)) = true := by rfl)
    (hline : (apos.endLine == cpos.line) = true := by rfl) (hs : starEach (e :: es) X.env = (false, eval e X.env) :: starEach es X.env := by rfl) (hplain : (backTo cpos (starEach es X.env)).any (·.1) = false := by rfl) :
    PE X (.Call (.Attribute (.Name y p) name apos) (e :: es) [] cpos) (kE X.K g x (wMt i ws o)) :=
  pe_imp (pe_bm PySem.F.plainAttrs_list slot hty hm (pe_var hN hv hdb hcd) ha hbase hfew hline hs hplain) fun σ H Q h => by
    obtain ⟨v, e1, e2, e3⟩ := ke_mt hd h
    exact ⟨v, e1, e2, e3⟩
theorem he_mt0 {id : String} {name : Str} {r : V → List V → Hp → VK → Prop} {o : List D → List D → (D → List D → Prop) → Prop} (slot : PySem.Slot "list" name id) (hty : typeOf (.builtin id) = pure (.type "method_descriptor")) (hm : MtR X id r) (hd : MtD X.K r o) (i : Nat)
    (hN : X.N[i]? = some y := by rfl) (hv : Vis X.env.scope y := by first | exact Or.inl rfl | exact Or.inr (Or.inl rfl) | exact Or.inr (Or.inr rfl)) (hdb : (y == ("__debug__" : Str)) = false := by decide)
    (hcd : (y == ("__classdict__" : Str)) = false := by decide) (hbase : attributeBase (.Name y p) name X.env (eval (.Name y p) X.env) = eval (.Name y p) X.env := by rfl)
    (hline : (apos.endLine == cpos.line) = true := by rfl) :
    PE X (.Call (.Attribute (.Name y p) name apos) [] [] cpos) (kE X.K g x (wMt i wNil o)) :=
  pe_imp (pe_bm0 PySem.F.plainAttrs_list slot hty hm (pe_var hN hv hdb hcd) hbase hline) fun σ H Q h => by
    obtain ⟨v, e1, e2, F, ρ, P, k, h1, h2⟩ := ke_mt hd h
    exact ⟨v, e1, e2, h2 [] F H [] ρ k (Same.refl _) .nil h1⟩
@[simp] def oApp (ds vs : List D) (P : D → List D → Prop) : Prop := match vs with
  | [d] => ds.length < 100000 ∧ P .none (ds ++ [d])
  | _ => False
@[simp] def oExt (ds vs : List D) (P : D → List D → Prop) : Prop := match vs with
  | [.list es] => ds.length + es.length ≤ 100000 ∧ P .none (ds ++ es)
  | _ => False
@[simp] def oPop (ds vs : List D) (P : D → List D → Prop) : Prop := match ds[ds.length - 1]? with
  | some d => P d ds.dropLast
  | none => False
@[simp] def oPopAt (ds vs : List D) (P : D → List D → Prop) : Prop := match vs with
  | [.int i] => (0 ≤ i ∧ i < 100000) ∧ match ds[i.toNat]? with
    | some d => P d (ds.eraseIdx i.toNat)
    | none => False
  | _ => False
theorem mtd_app {K : PySem.W.Frag} : MtD K rAppend oApp := by
  intro F H a xs vs ds es P Q fh hH hd he h q
  cases he with
  | nil => exact h.elim
  | @cons v vs d es h1 h2 =>
    cases h2 with
    | nil => exact ⟨a, xs, v, rfl, rfl, hH, by rw [dpa_len hd]; exact Nat.lt_of_lt_of_le h.1 (by decide), q _ _ _ _ .non (dpa_app hd (dpa_one h1)) h.2⟩
    | cons => exact h.elim
theorem mtd_ext {K : PySem.W.Frag} : MtD K (rExtR K) oExt := by
  intro F H a xs vs ds es P Q fh hH hd he h q
  cases he with
  | nil => exact h.elim
  | @cons v vs d es h1 h2 =>
    cases h2 with
    | nil =>
      cases h1 with
      | @lst b ys es hs ha => exact ⟨a, b, xs, ys, rfl, rfl, hH, sqL_mono fh hs, by rw [dpa_len hd, dpa_len ha]; exact line_of h.1, q _ _ _ _ .non (dpa_app hd ha) h.2⟩
      | _ => exact h.elim
    | cons => cases d <;> exact h.elim
theorem dpa_dropLast {K : PySem.W.Frag} {H : Hp} {ds : List D} {xs : List V} (h : DtAll K H xs ds) : DtAll K H xs.dropLast ds.dropLast := by
  rw [List.dropLast_eq_take, List.dropLast_eq_take, dpa_len h]
  exact dpa_take _ h
theorem mtd_pop {K : PySem.W.Frag} : MtD K rPop (fun ds vs P => vs = [] ∧ oPop ds vs P) := by
  intro F H a xs vs ds es P Q fh hH hd he h q
  obtain ⟨h0, h⟩ := h
  subst h0
  cases he
  unfold oPop at h
  cases e : ds[ds.length - 1]? with
  | none => simp only [e] at h
  | some d =>
    simp only [e] at h
    obtain ⟨v, ev, pv⟩ := dpa_get hd e
    exact ⟨a, xs, v, rfl, rfl, hH, by rw [dpa_len hd]; exact ev, q _ _ _ _ pv (dpa_dropLast hd) h⟩
theorem dpa_erase {K : PySem.W.Frag} {H : Hp} : ∀ {ds : List D} {xs : List V} (i : Nat), DtAll K H xs ds → DtAll K H (xs.eraseIdx i) (ds.eraseIdx i)
  | [], _, _, h => by cases h; exact .nil
  | _ :: _, _, 0, h => by
    cases h with
    | cons h1 h2 => exact h2
  | _ :: _, _, i + 1, h => by
    cases h with
    | cons h1 h2 => exact .cons h1 (dpa_erase i h2)
theorem mtd_popAt {K : PySem.W.Frag} : MtD K rPopAt oPopAt := by
  intro F H a xs vs ds es P Q fh hH hd he h q
  cases he with
  | nil => exact h.elim
  | @cons v vs d es h1 h2 =>
    cases h2 with
    | nil =>
      cases h1 with
      | int i =>
        obtain ⟨⟨b0, b1⟩, h⟩ := h
        cases e : ds[i.toNat]? with
        | none => simp only [e] at h
        | some d =>
          simp only [e] at h
          obtain ⟨v, ev, pv⟩ := dpa_get hd e
          have hlt := (List.getElem?_eq_some_iff.mp ev).1
          refine ⟨a, xs, i, i.toNat, v, rfl, rfl, hH, by omega, by omega, ?_, ev, q _ _ _ _ pv (dpa_erase _ hd) h⟩
          have e2 : ixN xs.length i = some i.toNat := by
            unfold ixN
            rw [if_pos b0, if_pos (by omega)]
          exact (ixN_seq e2).1
      | _ => exact h.elim
    | cons => cases d <;> exact h.elim
theorem he_append (i : Nat) (ha : PE X e (kE X.K g x w)) (hN : X.N[i]? = some y := by rfl) (hv : Vis X.env.scope y := by first | exact Or.inl rfl | exact Or.inr (Or.inl rfl) | exact Or.inr (Or.inr rfl)) (hdb : (y == ("__debug__" : Str)) = false := by decide)
    (hcd : (y == ("__classdict__" : Str)) = false := by decide) (hbase : attributeBase (.Name y p) "append" X.env (eval (.Name y p) X.env) = eval (.Name y p) X.env := by rfl)
    (hfew : ((backTo cpos (starEach (e :: []) X.env)).all (fun x => !x.1) && (backToKw cpos (keywordEach [] X.env)).all (fun x => x.1.isSome)
      && decide ((e :: []).length + ([] : List Keyword).length + (if ([] : List Keyword).isEmpty then 0 else 1) < 30)) = true := by rfl)
    (hline : (apos.endLine == cpos.line) = true := by rfl) (hs : starEach (e :: []) X.env = (false, eval e X.env) :: starEach [] X.env := by rfl) (hplain : (backTo cpos (starEach [] X.env)).any (·.1) = false := by rfl) :
    PE X (.Call (.Attribute (.Name y p) "append" apos) [e] [] cpos) (kE X.K g x (wMt i (wCons w wNil) oApp)) :=
  he_mt (T := "list") PySem.F.slot_list_append PySem.F.type_list_append mt_append mtd_app i (ha_cons ha ha_nil hs) hN hv hdb hcd hbase hfew hline hs hplain
theorem he_extend (i : Nat) (ha : PE X e (kE X.K g x w)) (hN : X.N[i]? = some y := by rfl) (hv : Vis X.env.scope y := by first | exact Or.inl rfl | exact Or.inr (Or.inl rfl) | exact Or.inr (Or.inr rfl)) (hdb : (y == ("__debug__" : Str)) = false := by decide)
    (hcd : (y == ("__classdict__" : Str)) = false := by decide) (hbase : attributeBase (.Name y p) "extend" X.env (eval (.Name y p) X.env) = eval (.Name y p) X.env := by rfl)
    (hfew : ((backTo cpos (starEach (e :: []) X.env)).all (fun x => !x.1) && (backToKw cpos (keywordEach [] X.env)).all (fun x => x.1.isSome)
      && decide ((e :: []).length + ([] : List Keyword).length + (if ([] : List Keyword).isEmpty then 0 else 1) < 30)) = true := by rfl)
    (hline : (apos.endLine == cpos.line) = true := by rfl) (hs : starEach (e :: []) X.env = (false, eval e X.env) :: starEach [] X.env := by rfl) (hplain : (backTo cpos (starEach [] X.env)).any (·.1) = false := by rfl) :
    PE X (.Call (.Attribute (.Name y p) "extend" apos) [e] [] cpos) (kE X.K g x (wMt i (wCons w wNil) oExt)) :=
  he_mt (T := "list") PySem.F.slot_list_extend PySem.F.type_list_extend mt_extR mtd_ext i (ha_cons ha ha_nil hs) hN hv hdb hcd hbase hfew hline hs hplain
theorem he_popAt (i : Nat) (ha : PE X e (kE X.K g x w)) (hN : X.N[i]? = some y := by rfl) (hv : Vis X.env.scope y := by first | exact Or.inl rfl | exact Or.inr (Or.inl rfl) | exact Or.inr (Or.inr rfl)) (hdb : (y == ("__debug__" : Str)) = false := by decide)
    (hcd : (y == ("__classdict__" : Str)) = false := by decide) (hbase : attributeBase (.Name y p) "pop" X.env (eval (.Name y p) X.env) = eval (.Name y p) X.env := by rfl)
    (hfew : ((backTo cpos (starEach (e :: []) X.env)).all (fun x => !x.1) && (backToKw cpos (keywordEach [] X.env)).all (fun x => x.1.isSome)
      && decide ((e :: []).length + ([] : List Keyword).length + (if ([] : List Keyword).isEmpty then 0 else 1) < 30)) = true := by rfl)
    (hline : (apos.endLine == cpos.line) = true := by rfl) (hs : starEach (e :: []) X.env = (false, eval e X.env) :: starEach [] X.env := by rfl) (hplain : (backTo cpos (starEach [] X.env)).any (·.1) = false := by rfl) :
    PE X (.Call (.Attribute (.Name y p) "pop" apos) [e] [] cpos) (kE X.K g x (wMt i (wCons w wNil) oPopAt)) :=
  he_mt (T := "list") PySem.F.slot_list_pop PySem.F.type_list_pop mt_popAt mtd_popAt i (ha_cons ha ha_nil hs) hN hv hdb hcd hbase hfew hline hs hplain
theorem he_pop (i : Nat) (hN : X.N[i]? = some y := by rfl) (hv : Vis X.env.scope y := by first | exact Or.inl rfl | exact Or.inr (Or.inl rfl) | exact Or.inr (Or.inr rfl)) (hdb : (y == ("__debug__" : Str)) = false := by decide)
    (hcd : (y == ("__classdict__" : Str)) = false := by decide) (hbase : attributeBase (.Name y p) "pop" X.env (eval (.Name y p) X.env) = eval (.Name y p) X.env := by rfl)
    (hline : (apos.endLine == cpos.line) = true := by rfl) :
    PE X (.Call (.Attribute (.Name y p) "pop" apos) [] [] cpos) (kE X.K g x (wMt i wNil fun ds vs P => vs = [] ∧ oPop ds vs P)) :=
  he_mt0 PySem.F.slot_list_pop PySem.F.type_list_pop mt_pop mtd_pop i hN hv hdb hcd hbase hline
end

/-! ### isinstance -/
def tyN : D → String
  | .none => "NoneType"
  | .bool _ => "bool"
  | .int _ => "int"
  | .str _ => "str"
  | .list _ => "list"
  | .tuple _ => "tuple"
  | .dict _ => "dict"
/-- isinstance(d, T) for the few built-in T of ours -/
@[simp] def isiD (T : String) (d : D) : Bool := match T, d with
  | "int", .int _ => true
  | "int", .bool _ => true
  | "bool", .bool _ => true
  | "tuple", .tuple _ => true
  | _, _ => false
theorem kb_NoneType_int : kitB "NoneType" "int" = some false := by decide +kernel
theorem kb_NoneType_bool : kitB "NoneType" "bool" = some false := by decide +kernel
theorem kb_NoneType_tuple : kitB "NoneType" "tuple" = some false := by decide +kernel
theorem kb_bool_int : kitB "bool" "int" = some true := by decide +kernel
theorem kb_bool_bool : kitB "bool" "bool" = some true := by decide +kernel
theorem kb_bool_tuple : kitB "bool" "tuple" = some false := by decide +kernel
theorem kb_int_int : kitB "int" "int" = some true := by decide +kernel
theorem kb_int_bool : kitB "int" "bool" = some false := by decide +kernel
theorem kb_int_tuple : kitB "int" "tuple" = some false := by decide +kernel
theorem kb_str_int : kitB "str" "int" = some false := by decide +kernel
theorem kb_str_bool : kitB "str" "bool" = some false := by decide +kernel
theorem kb_str_tuple : kitB "str" "tuple" = some false := by decide +kernel
theorem kb_list_int : kitB "list" "int" = some false := by decide +kernel
theorem kb_list_bool : kitB "list" "bool" = some false := by decide +kernel
theorem kb_list_tuple : kitB "list" "tuple" = some false := by decide +kernel
theorem kb_tuple_int : kitB "tuple" "int" = some false := by decide +kernel
theorem kb_tuple_bool : kitB "tuple" "bool" = some false := by decide +kernel
theorem kb_tuple_tuple : kitB "tuple" "tuple" = some true := by decide +kernel
theorem kit3 {d : D} {T : String} (hT : T = "int" ∨ T = "bool" ∨ T = "tuple") (hd : ∀ kvs, d ≠ .dict kvs) : kitB (tyN d) T = some (isiD T d) := by
  rcases hT with rfl | rfl | rfl
  · cases d with
    | none => exact kb_NoneType_int
    | bool _ => exact kb_bool_int
    | int _ => exact kb_int_int
    | str _ => exact kb_str_int
    | list _ => exact kb_list_int
    | tuple _ => exact kb_tuple_int
    | dict k => exact absurd rfl (hd k)
  · cases d with
    | none => exact kb_NoneType_bool
    | bool _ => exact kb_bool_bool
    | int _ => exact kb_int_bool
    | str _ => exact kb_str_bool
    | list _ => exact kb_list_bool
    | tuple _ => exact kb_tuple_bool
    | dict k => exact absurd rfl (hd k)
  · cases d with
    | none => exact kb_NoneType_tuple
    | bool _ => exact kb_bool_tuple
    | int _ => exact kb_int_tuple
    | str _ => exact kb_str_tuple
    | list _ => exact kb_list_tuple
    | tuple _ => exact kb_tuple_tuple
    | dict k => exact absurd rfl (hd k)
theorem ty_of {K : PySem.W.Frag} {H : Hp} {v : V} {d : D} (p : Dt K H v d) : TyX K H v (.type (tyN d)) := by
  cases p with
  | non => exact .base .non
  | bl b => exact .base (.bl b)
  | int i => exact .base (.int i)
  | str x => exact .base (.str x)
  | @lst a xs ds hs ha =>
    rcases hs with (h | ⟨o, h⟩) | ⟨o, its, n, h1, h2, _⟩
    · exact .base (.lst h)
    · exact .base (.frz h)
    · exact .kList h1 h2
  | @tup a xs ds hs ha =>
    rcases hs with (h | ⟨o, h⟩) | ⟨o, its, n, h1, h2, _⟩
    · exact .base (.tup h)
    · exact .fTuple h
    · exact .kTuple h1 h2
@[simp] def wIsi (T : String) (w : WE) : WE := fun x ρ P => w x ρ fun d ρ1 => P (.bool (isiD T d)) ρ1
section
variable {X : Cx} {g : Gd} {x : EX} {a b c e : Expr} {wa wb wc w : WE} {pos p p2 : Pos} {y : Str}
theorem he_isi {T : Str} {n : String} (hT : n = "int" ∨ n = "bool" ∨ n = "tuple") (hg : Gl X "isinstance") (hm : X.mg "isinstance" = none) (hgT : Gl X T) (hmT : X.mg T = none) (hv : bootBuiltins T = some (.type n)) (ha : PE X e (kE X.K g x w)) (hnT : T ≠ "__name__" := by decide) (hdT : (T == ("__debug__" : Str)) = false := by decide)
    (hs1 : starEach (e :: [.Name T p2]) X.env = (false, eval e X.env) :: starEach [.Name T p2] X.env := by rfl) (hs2 : starEach (.Name T p2 :: []) X.env = (false, eval (.Name T p2) X.env) :: starEach [] X.env := by rfl)
    (hpl : (backTo pos (starEach [.Name T p2] X.env)).any (·.1) = false := by rfl) :
    PE X (.Call (.Name "isinstance" p) [e, .Name T p2] [] pos) (kE X.K g x (wIsi n w)) :=
  pe_imp (pe_callB call_isi hg hm (by decide +kernel) (pa_cons ha (pa_cons (pe_bltn (v := .ty n) hgT hmT hv rfl hnT hdT) pa_nil hs2) hs1) (by decide) (by decide) hs1 hpl) fun σ H Q ⟨F, ρ, P, k, h, q⟩ =>
    ⟨F, ρ, _, k, h, fun v F2 H2 d ρ2 k2 s2 p2 h2 => ⟨v, .ty n, .type (tyN d), .type n, isiD n d, rfl, .ty n, ty_of (dp_mono k2.fh d v p2), kit_ty (kit3 hT fun kvs z => by subst z; cases p2), q _ F2 H2 _ ρ2 k2 s2 (.bl _) h2⟩⟩

/-! ### max, min of two ints -/
@[simp] def wMax2 (wa wb : WE) : WE := fun x ρ P => wa x ρ fun a ρ1 => wb x ρ1 fun b ρ2 => match a, b with
  | .int i, .int j => P (.int (if j > i then j else i)) ρ2
  | _, _ => False
@[simp] def wMin2 (wa wb : WE) : WE := fun x ρ P => wa x ρ fun a ρ1 => wb x ρ1 fun b ρ2 => match a, b with
  | .int i, .int j => P (.int (if j < i then j else i)) ρ2
  | _, _ => False
theorem he_max2 (hc : X.calm = true) (hg : Gl X "max") (hm : X.mg "max" = none) (ha : PE X a (kE X.K g x wa)) (hb : PE X b (kE X.K g x wb)) (hs1 : starEach (a :: [b]) X.env = (false, eval a X.env) :: starEach [b] X.env := by rfl) (hs2 : starEach (b :: []) X.env = (false, eval b X.env) :: starEach [] X.env := by rfl)
    (hpl : (backTo pos (starEach [b] X.env)).any (·.1) = false := by rfl) : PE X (.Call (.Name "max" p) [a, b] [] pos) (kE X.K g x (wMax2 wa wb)) :=
  pe_imp (pe_callB (call_max2 hc) hg hm (by decide +kernel) (pa_cons ha (pa_cons hb pa_nil hs2) hs1) (by decide) (by decide) hs1 hpl) fun σ H Q ⟨F, ρ, P, k, h, q⟩ => ⟨F, ρ, _, k, h, fun v F2 H2 d ρ2 k2 s2 p2 h2 => ⟨F2, ρ2, _, k2, h2, fun v' F3 H3 d' ρ3 k3 s3 p3 h3 => by
    cases p2 with
    | int i =>
      cases p3 with
      | int j => exact ⟨i, j, rfl, q _ F3 H3 _ ρ3 k3 (s2.trans s3) (.int _) h3⟩
      | _ => exact h3.elim
    | _ => exact h3.elim⟩⟩
theorem he_min2 (hc : X.calm = true) (hg : Gl X "min") (hm : X.mg "min" = none) (ha : PE X a (kE X.K g x wa)) (hb : PE X b (kE X.K g x wb)) (hs1 : starEach (a :: [b]) X.env = (false, eval a X.env) :: starEach [b] X.env := by rfl) (hs2 : starEach (b :: []) X.env = (false, eval b X.env) :: starEach [] X.env := by rfl)
    (hpl : (backTo pos (starEach [b] X.env)).any (·.1) = false := by rfl) : PE X (.Call (.Name "min" p) [a, b] [] pos) (kE X.K g x (wMin2 wa wb)) :=
  pe_imp (pe_callB (call_min2 hc) hg hm (by decide +kernel) (pa_cons ha (pa_cons hb pa_nil hs2) hs1) (by decide) (by decide) hs1 hpl) fun σ H Q ⟨F, ρ, P, k, h, q⟩ => ⟨F, ρ, _, k, h, fun v F2 H2 d ρ2 k2 s2 p2 h2 => ⟨F2, ρ2, _, k2, h2, fun v' F3 H3 d' ρ3 k3 s3 p3 h3 => by
    cases p2 with
    | int i =>
      cases p3 with
      | int j => exact ⟨i, j, rfl, q _ F3 H3 _ ρ3 k3 (s2.trans s3) (.int _) h3⟩
      | _ => exact h3.elim
    | _ => exact h3.elim⟩⟩
end
end Fz

set_option maxRecDepth 100000
set_option maxHeartbeats 1000000
/-! F6: calls of defs, statements. -/
namespace Fz
open PySem PySem.Spec L2
/-- a def's promise over plain data -/
abbrev PSp := List D → (D → Prop) → EX → Prop
/-- the field that holds an exception's text, by its class's name -/
def fldOf (cn : Str) : Str := if cn = "NotPossible" then "word" else "name"
def spF (K : PySem.W.Frag) (mg : Str → Option Value) (sp : PSp) : Sp := fun vs H Q E => ∃ (F : Hp) (ds : List D) (P : D → Prop) (x : EX), Same F H ∧ DtAll K F vs ds ∧ sp ds P x ∧
  (∀ v F' H' d, Gr F H F' H' → Dt K F' v d → P d → Q v H') ∧ ∀ C cn s dd H', mg cn = some (.ref C) → Same H H' → H' dd = some (.xd [(fldOf cn, .str s)]) → x cn s → E (.ref C) (some dd) H'
/-- .. of a def that changes the list that it is given first -/
abbrev BSp := List D → List D → (D → List D → Prop) → Prop
structure GrB (a : Addr) (F H F' H' : Hp) : Prop where
  ff : Same F F'
  fh : Same F' H'
  hh : ∀ b o, b ≠ a → H b = some o → H' b = some o
  nf : ∀ b o, F b = none → H b = some o → F' b = none
  ft : ∀ b ps, F' b = some (.tbl ps) → F b = some (.tbl ps)
def spB (K : PySem.W.Frag) (sp : BSp) : Sp := fun vs H Q _ => ∃ (F : Hp) (a : Addr) (xs rest : List V) (cs ds : List D) (P : D → List D → Prop), vs = .ref a :: rest ∧ Same F H ∧ F a = none ∧ H a = some (.lst xs) ∧ DtAll K F xs cs ∧ DtAll K F rest ds ∧ sp cs ds P ∧
  ∀ v F' H' d ys es, GrB a F H F' H' → Dt K F' v d → H' a = some (.lst ys) → DtAll K F' ys es → P d es → Q v H'
/-- .. of a def that hands back a new list that nobody else has -/
abbrev NSp := List D → (List D → Prop) → Prop
def spN (K : PySem.W.Frag) (sp : NSp) : Sp := fun vs H Q _ => ∃ (F : Hp) (ds : List D) (P : List D → Prop), Same F H ∧ DtAll K F vs ds ∧ sp ds P ∧
  ∀ p xs F' H' es, Gr F H F' H' → F' p = none → H p = none → H' p = some (.lst xs) → DtAll K F' xs es → P es → Q (.ref p) H'
structure XOk (X : Cx) (g : Gd) (x : EX) : Prop where
  ex : ∃ E : XK, Takes X (fun cls d _ H => E cls d H) ∧ ∀ C cn s dd H', X.mg cn = some (.ref C) → (∀ a o, ¬ g.B a → OffT g a → g.H0 a = some o → H' a = some o) → H' dd = some (.xd [(fldOf cn, .str s)]) → x cn s → E (.ref C) (some dd) H'
theorem xokF {X : Cx} {g : Gd} : XOk X g exF := ⟨E0, L2.takes0, fun _ _ _ _ _ _ _ _ h => h.elim⟩
theorem ok_growB {K : PySem.W.Frag} {g : Gd} {F H F' H' : Hp} {σ : L2.St} {ρ : Env} {i : Nat} {a : Addr} {ds es : List D} {ys : List V} (k : Ok K g F H σ ρ) (e : lstAt ρ i = some ds) (ea : σ[i]? = some (some (.ref a))) (r : GrB a F H F' H')
    (hy : H' a = some (.lst ys)) (hd : DtAll K F' ys es) : Ok K g F' H' σ (setAt ρ i es) := by
  -- by way of the heap in which the list at a is as it was
  obtain ⟨a', xs, ea', hF, hH, pd, _⟩ := k.lstAt e
  rw [ea] at ea'
  cases ea'
  have gr : Gr F H F' (upd H' a (.lst xs)) := ⟨r.ff, same_lay2 r.fh (r.nf a _ hF hH), fun b o q => by
    by_cases hb : b = a
    · subst hb
      rw [hH] at q
      rw [upd_same]; exact q
    · rw [upd_ne hb]
      exact r.hh b o hb q, r.nf, r.ft⟩
  have k2 := (k.grow gr).mut e ea hd
  have e2 : upd (upd H' a (.lst xs)) a (.lst ys) = H' := by
    funext b
    by_cases hb : b = a
    · subst hb
      rw [upd_same]; exact hy.symm
    · rw [upd_ne hb, upd_ne hb]
  rw [e2] at k2
  exact k2
/-- arguments put into another order -/
@[simp] def perm {α : Type} (ix : List Nat) (l : List α) : List α := ix.filterMap fun i => l[i]?
theorem dts_perm {K : PySem.W.Frag} {F : Hp} {vs : List V} {ds : List D} (h : DtAll K F vs ds) : ∀ ix : List Nat, DtAll K F (perm ix vs) (perm ix ds)
  | [] => .nil
  | i :: r => by
    unfold perm
    rw [List.filterMap_cons, List.filterMap_cons]
    cases e : ds[i]? with
    | none =>
      have e2 : vs[i]? = none := by
        rw [List.getElem?_eq_none_iff] at e ⊢
        rw [dpa_len h]; exact e
      rw [e2]
      exact dts_perm h r
    | some d =>
      obtain ⟨v, ev, p⟩ := dpa_get h e
      rw [ev]
      exact .cons p (dts_perm h r)
theorem vals_perm {vs : List V} {us : List Value} (h : Vals vs us) : ∀ ix : List Nat, Vals (perm ix vs) (perm ix us)
  | [] => .nil
  | i :: r => by
    unfold perm
    rw [List.filterMap_cons, List.filterMap_cons]
    cases e : vs[i]? with
    | none =>
      rw [h.none_of e]
      exact vals_perm h r
    | some v =>
      obtain ⟨u, eu, p⟩ := h.get e
      rw [eu]
      exact .cons p (vals_perm h r)
@[simp] def wCall (sp : PSp) (ws : WL) : WE := fun x ρ P => ws x ρ fun ds ρ1 => sp ds (fun d => P d ρ1) x
@[simp] def wCallK (sp : PSp) (n : Nat) (ix : List Nat) (ws : WL) : WE := fun x ρ P => ws x ρ fun ds ρ1 => ds.length = n ∧ sp (perm ix ds) (fun d => P d ρ1) x
@[simp] def wCallB (sp : BSp) (i : Nat) (ws : WL) : WE := fun x ρ P => (lstAt ρ i).isSome = true ∧ ws x ρ fun ds ρ1 => match lstAt ρ1 i with
  | some cs => sp cs ds fun d es => P d (setAt ρ1 i es)
  | none => False
@[simp] def wCallN (sp : NSp) (ws : WL) : WL := fun x ρ P => ws x ρ fun ds ρ1 => sp ds fun es => P es ρ1
section
variable {X : Cx} {g : Gd} {x : EX} {a b c e : Expr} {es : List Expr} {wa wb wc w : WE} {ws : WL} {pos p apos cpos : Pos} {y : Str} {k : Nat} {f : Addr} {fd : FuncData} {ps : List Str}
theorem Ok.thrown {K : PySem.W.Frag} {F H : Hp} {σ : L2.St} {ρ : Env} (k : Ok K g F H σ ρ) {H' : Hp} (s : Same H H') : ∀ a o, ¬ g.B a → OffT g a → g.H0 a = some o → H' a = some o := fun a o h1 ht h2 => s a o (k.keep a o h1 ht h2)
theorem sp_call {K : PySem.W.Frag} {mg : Str → Option Value} {sp : PSp} {F H : Hp} {σ : L2.St} {ρ : Env} {vs : List V} {ds : List D} {E : XK} {P : D → Env → Prop} {Q : VK} (k : Ok K g F H σ ρ) (p : DtAll K F vs ds) (h : sp ds (fun d => P d ρ) x)
    (hE : ∀ C cn s dd H', mg cn = some (.ref C) → (∀ a o, ¬ g.B a → OffT g a → g.H0 a = some o → H' a = some o) → H' dd = some (.xd [(fldOf cn, .str s)]) → x cn s → E (.ref C) (some dd) H')
    (q : ∀ v F2 H2 d, Ok K g F2 H2 σ ρ → Same F F2 → Dt K F2 v d → P d ρ → Q v H2) : spF K mg sp vs H Q E :=
  ⟨F, ds, _, x, k.fh, p, h, fun v F' H' d gr pd hp => q v F' H' d (k.grow gr) gr.ff pd hp, fun C cn s dd H' hm hs hd hx => hE C cn s dd H' hm (k.thrown hs) hd hx⟩
theorem he_call {sp : PSp} (Fk : FnOk X.prog X.w X.K X.mg X.base (L2.CX X.prog X.w) k f fd ps (spF X.K X.mg sp)) (hr : Room k X.A) (hm : X.mg y = some (.ref f)) (hk : PySem.W.keepIn X.K (.ref f) = true) (hb : Binds X.K fd ps []) (hx : XOk X g x) (ha : PA X (e :: es) (kA X.K g x ws)) (hg : Gl X y := by rfl)
    (hdb : (y == ("__debug__" : Str)) = false := by decide) (he : starEach (e :: es) X.env = (false, eval e X.env) :: starEach es X.env := by rfl) (hpl : (backTo pos (starEach es X.env)).any (·.1) = false := by rfl) : PE X (.Call (.Name y p) (e :: es) [] pos) (kE X.K g x (wCall sp ws)) := by
  obtain ⟨E, tk, hE⟩ := hx.ex
  exact pe_imp (pe_call Fk hr hg hm hk hb .nil (passes_call tk fun _ _ _ _ h => h) ha hdb he hpl) fun σ H Q ⟨F, ρ, P, k, h, q⟩ => ⟨F, ρ, _, k, h, fun vs F2 H2 ds ρ2 k2 s2 p2 h2 => by
    show spF X.K X.mg sp (vs ++ []) H2 Q E
    rw [List.append_nil]
    exact sp_call k2 p2 h2 hE fun v F3 H3 d k3 s3 p3 h3 => q v F3 H3 d ρ2 k3 (s2.trans s3) p3 h3⟩
theorem he_call0 {sp : PSp} (Fk : FnOk X.prog X.w X.K X.mg X.base (L2.CX X.prog X.w) k f fd ps (spF X.K X.mg sp)) (hr : Room k X.A) (hm : X.mg y = some (.ref f)) (hk : PySem.W.keepIn X.K (.ref f) = true) (hb : Binds X.K fd ps []) (hx : XOk X g x) (hg : Gl X y := by rfl)
    (hdb : (y == ("__debug__" : Str)) = false := by decide) : PE X (.Call (.Name y p) [] [] pos) (kE X.K g x (wCall sp wNil)) := by
  obtain ⟨E, tk, hE⟩ := hx.ex
  exact pe_imp (pe_call0 Fk hr hg hm hk hb .nil (passes_call tk fun _ _ _ _ h => h) hdb) fun σ H Q ⟨F, ρ, P, k, h, q⟩ =>
    sp_call k .nil h hE fun v F3 H3 d k3 s3 p3 h3 => q v F3 H3 d ρ k3 s3 p3 h3
/-- f(k = a, ..), all by keyword -/
theorem pe_callK0 {kws : List Keyword} {ks : List Str} {tk : TA} {E : XK} {sp : Sp} {CX : CXT} {gg : List Value → List Value → List Value} {gV : List V → List V → List V} (Fk : FnOk X.prog X.w X.K X.mg X.base CX k f fd ps sp) (hr : Room k X.A) (hg : Gl X y) (hm : X.mg y = some (.ref f)) (hk : PySem.W.keepIn X.K (.ref f) = true) (hb : KBn X.K fd ps 0 ks gg gV) (hx : Passes CX X E)
    (hkw : PK X kws tk) (hall : (backToKw pos (keywordEach kws X.env)).all (·.1.isSome) = true) (hks : (backToKw pos (keywordEach kws X.env)).filterMap (·.1) = ks)
    (hdb : (y == ("__debug__" : Str)) = false) (hpl : ((backTo pos (starEach [] X.env)).any (·.1) || (backToKw pos (keywordEach kws X.env)).any (·.1.isNone)) = false) :
    PE X (.Call (.Name y p) [] kws pos) (fun σ H Q => tk σ H fun zs H2 => zs.length = ks.length ∧ sp (gV [] zs) H2 Q E) := by
  refine ⟨fun pins s σ H Q I h => wpAny_Call_Name_kw (ld_glob I hg hm ?_ hdb)⟩
  refine PySem.W.callWith_KW0 (h₀ := X.base) I.ok.mod.kin hk hall (thn (hkw.run pos pins s σ H _ I h) fun wv s2 hq => ?_) hpl
  obtain ⟨zs, H2, J2, rz, lz, q2⟩ := hq
  rw [hks]
  exact ⟨J2.kIn, run_fnN Fk hr hb hx J2 .nil rz rfl lz q2⟩
theorem hk_nil : PK X [] (kA X.K g x wNil) := pk_imp pk_nil fun σ H Q ⟨F, ρ, P, k, h, q⟩ => q [] F H [] ρ k (Same.refl _) .nil h
theorem hk_cons {nm : Option Str} {kpos : Pos} {kws : List Keyword} (he : PE X e (kE X.K g x w)) (hr : PK X kws (kA X.K g x ws)) : PK X (⟨nm, e, kpos⟩ :: kws) (kA X.K g x (wCons w ws)) :=
  pk_imp (pk_cons he hr) fun σ H Q ⟨F, ρ, P, k, h, q⟩ => ⟨F, ρ, _, k, h, fun v F2 H2 d ρ2 k2 s2 p2 h2 => ⟨F2, ρ2, _, k2, h2, fun vs F3 H3 ds ρ3 k3 s3 p3 h3 => q _ F3 H3 _ ρ3 k3 (s2.trans s3) (.cons (dp_mono s3 d v p2) p3) h3⟩⟩
theorem he_callK {sp : PSp} {kws : List Keyword} {ks : List Str} {ix : List Nat} (Fk : FnOk X.prog X.w X.K X.mg X.base (L2.CX X.prog X.w) k f fd ps (spF X.K X.mg sp)) (hr : Room k X.A) (hm : X.mg y = some (.ref f)) (hk : PySem.W.keepIn X.K (.ref f) = true)
    (hb : KBn X.K fd ps 0 ks (fun _ zs => perm ix zs) (fun _ zs => perm ix zs)) (hx : XOk X g x) (ha : PK X kws (kA X.K g x ws)) (hg : Gl X y := by rfl) (hall : (backToKw pos (keywordEach kws X.env)).all (·.1.isSome) = true := by rfl) (hks : (backToKw pos (keywordEach kws X.env)).filterMap (·.1) = ks := by rfl)
    (hdb : (y == ("__debug__" : Str)) = false := by decide) (hpl : ((backTo pos (starEach [] X.env)).any (·.1) || (backToKw pos (keywordEach kws X.env)).any (·.1.isNone)) = false := by rfl) : PE X (.Call (.Name y p) [] kws pos) (kE X.K g x (wCallK sp ks.length ix ws)) := by
  obtain ⟨E, tk, hE⟩ := hx.ex
  exact pe_imp (pe_callK0 Fk hr hg hm hk hb (passes_call tk fun _ _ _ _ h => h) ha hall hks hdb hpl) fun σ H Q ⟨F, ρ, P, k, h, q⟩ => ⟨F, ρ, _, k, h, fun vs F2 H2 ds ρ2 k2 s2 p2 h2 =>
    ⟨by rw [dpa_len p2]; exact h2.1, sp_call k2 (dts_perm p2 ix) h2.2 hE fun v F3 H3 d k3 s3 p3 h3 => q v F3 H3 d ρ2 k3 (s2.trans s3) p3 h3⟩⟩
theorem he_callB {sp : BSp} {v0 : Expr} {z : Str} {pz : Pos} (i : Nat) (Fk : FnOk X.prog X.w X.K X.mg X.base (L2.CX X.prog X.w) k f fd ps (spB X.K sp)) (hr : Room k X.A) (hm : X.mg y = some (.ref f)) (hk : PySem.W.keepIn X.K (.ref f) = true) (hb : Binds X.K fd ps []) (ha : PA X es (kA X.K g x ws))
    (hN : X.N[i]? = some z := by rfl) (hv : Vis X.env.scope z := by first | exact Or.inl rfl | exact Or.inr (Or.inl rfl) | exact Or.inr (Or.inr rfl)) (hd : (z == ("__debug__" : Str)) = false := by decide) (hcd : (z == ("__classdict__" : Str)) = false := by decide) (hg : Gl X y := by rfl)
    (hdb : (y == ("__debug__" : Str)) = false := by decide) (he : starEach (.Name z pz :: es) X.env = (false, eval (.Name z pz) X.env) :: starEach es X.env := by rfl) (hpl : (backTo pos (starEach es X.env)).any (·.1) = false := by rfl) : PE X (.Call (.Name y p) (.Name z pz :: es) [] pos) (kE X.K g x (wCallB sp i ws)) := by
  exact pe_imp (pe_call Fk hr hg hm hk hb .nil passL (pa_cons (pe_var hN hv hd hcd) ha he) hdb he hpl) fun σ H Q ⟨F, ρ, P, k, h, q⟩ => by
    obtain ⟨h0, h⟩ := h
    obtain ⟨ds0, e0⟩ := Option.isSome_iff_exists.mp h0
    obtain ⟨a, _, ea, _⟩ := k.lstAt e0
    refine ⟨_, ea, F, ρ, _, k, h, fun vs F2 H2 ds ρ2 k2 s2 p2 h2 => ?_⟩
    cases e : lstAt ρ2 i with
    | none => simp only [e] at h2
    | some cs =>
      simp only [e] at h2
      obtain ⟨a', xs, ev, hF, hH, hd2, _⟩ := k2.lstAt e
      rw [ea] at ev
      cases ev
      show spB X.K sp ((.ref a :: vs) ++ []) H2 Q E0
      rw [List.append_nil]
      exact ⟨F2, a, xs, vs, cs, ds, _, rfl, k2.fh, hF, hH, hd2, p2, h2, fun v F' H' d ys es gr pv hy pd hp => q v F' H' d _ (ok_growB k2 e ea gr hy pd) (s2.trans gr.ff) pv hp⟩
theorem hn_call {sp : NSp} (Fk : FnOk X.prog X.w X.K X.mg X.base (L2.CX X.prog X.w) k f fd ps (spN X.K sp)) (hr : Room k X.A) (hm : X.mg y = some (.ref f)) (hk : PySem.W.keepIn X.K (.ref f) = true) (hb : Binds X.K fd ps []) (ha : PA X (e :: es) (kA X.K g x ws)) (hg : Gl X y := by rfl)
    (hdb : (y == ("__debug__" : Str)) = false := by decide) (he : starEach (e :: es) X.env = (false, eval e X.env) :: starEach es X.env := by rfl) (hpl : (backTo pos (starEach es X.env)).any (·.1) = false := by rfl) : PE X (.Call (.Name y p) (e :: es) [] pos) (kN X.K g x (wCallN sp ws)) :=
  pe_imp (pe_call Fk hr hg hm hk hb .nil passL ha hdb he hpl) fun σ H Q ⟨F, ρ, P, k, h, q⟩ => ⟨F, ρ, _, k, h, fun vs F2 H2 ds ρ2 k2 s2 p2 h2 => by
    show spN X.K sp (vs ++ []) H2 Q E0
    rw [List.append_nil]
    exact ⟨F2, ds, _, k2.fh, p2, h2, fun p xs F' H' es gr nf hp hx pd hh => q p xs F' H' es ρ2 (k2.grow gr) (s2.trans gr.ff) ⟨⟨(k2.new hp).nn, nf, (k2.new hp).no⟩, (k2.new hp).h0⟩ hx pd hh⟩⟩
end

/-! ### statements -/
@[simp] def wAsg (i : Nat) (w : WE) : WS := fun x E ρ => w x ρ fun d ρ1 => E.nx (ρ1.set i (.dat d))
@[simp] def wAsgN (i : Nat) (w : WL) : WS := fun x E ρ => w x ρ fun ds ρ1 => E.nx (ρ1.set i (.own ds))
@[simp] def wSeq (a b : WS) : WS := fun x E ρ => a x { E with nx := fun ρ1 => b x E ρ1 } ρ
@[simp] def wNext : WS := fun _ E ρ => E.nx ρ
@[simp] def wBrk : WS := fun _ E ρ => E.bk ρ
@[simp] def wCnt : WS := fun _ E ρ => E.ct ρ
@[simp] def wDrop (w : WE) : WS := fun x E ρ => w x ρ fun _ ρ1 => E.nx ρ1
@[simp] def wRet (w : WE) : WS := fun x E ρ => w x ρ fun d ρ1 => E.rt d ρ1
@[simp] def wRetN : WS := fun _ E ρ => E.rt .none ρ
@[simp] def wIf (t : WT) (a b : WS) : WS := fun x E ρ => t x ρ fun c ρ1 => if c = true then a x E ρ1 else b x E ρ1
section
variable {X : Cx} {g : Gd} {x : EX} {a b c e : Expr} {st : Stmt} {rest sa sb : List Stmt} {w : WE} {wl : WL} {wt : WT} {s u : WS} {pos pos' : Pos} {y : Str} {k : Nat}
theorem hss_nil : PSs X [] (kS X.K g x wNext) := pss_imp pss_nil fun De σ H ⟨F, ρ, E, k, h, q⟩ => q.nx F H σ ρ k (Same.refl _) h
theorem hss_one (h : PS X st (kS X.K g x s)) : PSs X [st] (kS X.K g x s) := pss_one h
theorem hss_cons (h1 : PS X st (kS X.K g x s)) (h2 : PSs X rest (kS X.K g x u)) : PSs X (st :: rest) (kS X.K g x (wSeq s u)) :=
  pss_imp (pss_cons h1 h2) fun De σ H ⟨F, ρ, E, k, h, q⟩ => ⟨F, ρ, _, k, h, fun F2 H2 σ2 ρ2 k2 s2 h2 => ⟨F2, ρ2, E, k2, h2, q.mono s2⟩, q.rt, q.bk, q.ct, q.rn⟩
theorem ts_asg {te : TE} {i : Nat} (f : ∀ σ H Q, kE X.K g x w σ H Q → te σ H Q) : ∀ De σ H, kS X.K g x (wAsg i w) De σ H → tAsg te (gName i) De σ H := fun De σ H ⟨F, ρ, E, k, h, q⟩ =>
  f σ H _ ⟨F, ρ, _, k, h, fun v F2 H2 d ρ2 k2 s2 p2 h2 => q.nx F2 H2 _ _ (k2.setD i p2) s2 h2⟩
theorem ts_asgN {te : TE} {i : Nat} (f : ∀ σ H Q, kN X.K g x wl σ H Q → te σ H Q) : ∀ De σ H, kS X.K g x (wAsgN i wl) De σ H → tAsg te (gName i) De σ H := fun De σ H ⟨F, ρ, E, k, h, q⟩ =>
  f σ H _ ⟨F, ρ, _, k, h, fun p xs F2 H2 ds ρ2 k2 s2 n e p2 h2 => q.nx F2 H2 _ _ (k2.setO i n e p2) s2 h2⟩
theorem ts_asgF {te : TE} {i : Nat} (f : ∀ σ H Q, kN X.K g x wl σ H Q → te σ H Q) : ∀ De σ H, kS X.K g x (wAsg i (wFrz wl)) De σ H → tAsg te (gName i) De σ H := fun De σ H ⟨F, ρ, E, k, h, q⟩ =>
  f σ H _ ⟨F, ρ, _, k, h, fun p xs F2 H2 ds ρ2 k2 s2 n e p2 h2 => by
    obtain ⟨k3, s3⟩ := k2.freeze n.toNob e
    exact q.nx _ H2 _ _ (k3.setD i (.lst (.inl (.inl upd_same)) (dpa_mono s3 ds xs p2))) (s2.trans s3) h2⟩
theorem hs_set (i : Nat) (hN : X.N.Nodup) (he : PE X e (kE X.K g x w)) (hi : X.N[i]? = some y := by rfl) (hx : Loc X.env.scope y := by first | exact Or.inl rfl | exact Or.inr rfl) (hs : swapsWith e (some (.Name y pos')) pos.line X.env = pure false := by rfl)
    (hf : X.fn y = true ∨ X.env.scope.names.lookup y = some .local := by first | exact .inl rfl | exact .inr rfl) : PS X (.Assign [.Name y pos'] e pos) (kS X.K g x (wAsg i w)) :=
  ps_imp (ps_set hN hi hx he hs hf) (ts_asg fun _ _ _ h => h)
theorem hs_setN (i : Nat) (hN : X.N.Nodup) (he : PE X e (kN X.K g x wl)) (hi : X.N[i]? = some y := by rfl) (hx : Loc X.env.scope y := by first | exact Or.inl rfl | exact Or.inr rfl) (hs : swapsWith e (some (.Name y pos')) pos.line X.env = pure false := by rfl)
    (hf : X.fn y = true ∨ X.env.scope.names.lookup y = some .local := by first | exact .inl rfl | exact .inr rfl) : PS X (.Assign [.Name y pos'] e pos) (kS X.K g x (wAsgN i wl)) :=
  ps_imp (ps_set hN hi hx he hs hf) (ts_asgN fun _ _ _ h => h)
theorem hs_expr (he : PE X e (kE X.K g x w)) (hs : swapsWith e none pos.line X.env = pure false := by rfl) : PS X (.Expr e pos) (kS X.K g x (wDrop w)) :=
  ps_imp (ps_expr he hs) fun De σ H ⟨F, ρ, E, k, h, q⟩ => ⟨F, ρ, _, k, h, fun v F2 H2 d ρ2 k2 s2 p2 h2 => q.nx F2 H2 σ ρ2 k2 s2 h2⟩
theorem hs_ret (he : PE X e (kE X.K g x w)) : PS X (.Return (some e) pos) (kS X.K g x (wRet w)) :=
  ps_imp (ps_ret he) fun De σ H ⟨F, ρ, E, k, h, q⟩ => ⟨F, ρ, _, k, h, fun v F2 H2 d ρ2 k2 s2 p2 h2 => q.rt v F2 H2 σ d ρ2 k2 s2 p2 h2⟩
@[simp] def wRetL (w : WL) : WS := fun x E ρ => w x ρ fun ds ρ1 => E.rn ds ρ1
theorem hs_retN (he : PE X e (kN X.K g x wl)) : PS X (.Return (some e) pos) (kS X.K g x (wRetL wl)) :=
  ps_imp (ps_ret he) fun De σ H ⟨F, ρ, E, k, h, q⟩ => ⟨F, ρ, _, k, h, fun p xs F2 H2 ds ρ2 k2 s2 n e2 p2 h2 => q.rn p xs F2 H2 σ ds ρ2 k2 s2 n e2 p2 h2⟩
theorem hs_if (hc : PT X c (kT X.K g x wt)) (ha : PSs X sa (kS X.K g x s)) (hb : PSs X sb (kS X.K g x u)) : PS X (.If c sa sb pos) (kS X.K g x (wIf wt s u)) :=
  ps_imp (ps_if hc ha hb) fun De σ H ⟨F, ρ, E, k, h, q⟩ => ⟨F, ρ, _, k, h, fun c F2 H2 ρ2 k2 s2 h2 => by
    cases c with
    | true =>
      rw [if_pos rfl] at h2 ⊢
      exact ⟨F2, ρ2, E, k2, h2, q.mono s2⟩
    | false =>
      rw [if_neg Bool.false_ne_true] at h2 ⊢
      exact ⟨F2, ρ2, E, k2, h2, q.mono s2⟩⟩
theorem hs_break : PS X (.Break pos) (kS X.K g x wBrk) := ps_imp ps_break fun De σ H ⟨F, ρ, E, k, h, q⟩ => q.bk F H σ ρ k (Same.refl _) h
theorem hs_continue : PS X (.Continue pos) (kS X.K g x wCnt) := ps_imp ps_continue fun De σ H ⟨F, ρ, E, k, h, q⟩ => q.ct F H σ ρ k (Same.refl _) h
theorem hs_pass : PS X (.Pass pos) (kS X.K g x wNext) := ps_imp ps_pass fun De σ H ⟨F, ρ, E, k, h, q⟩ => q.nx F H σ ρ k (Same.refl _) h
/-- a = a op b -/
def IpD (K : PySem.W.Frag) (t : TIp) (o : D → D → (D → Prop) → Prop) : Prop := OpD K t o
@[simp] def wAug (i : Nat) (o : D → D → (D → Prop) → Prop) (w : WE) : WS := fun x E ρ => match ρ[i]? with
  | some (.dat d) => w x ρ fun e ρ1 => o d e fun r => E.nx (ρ1.set i (.dat r))
  | _ => False
theorem hs_aug {op : Operator} {t : TIp} {o : D → D → (D → Prop) → Prop} (ho : PIp X op t) (hd : IpD X.K t o) (i : Nat) (hN : X.N.Nodup) (he : PE X e (kE X.K g x w)) (hi : X.N[i]? = some y := by rfl) (hx : Loc X.env.scope y := by first | exact Or.inl rfl | exact Or.inr rfl)
    (hf : X.fn y = true ∨ X.env.scope.names.lookup y = some .local := by first | exact .inl rfl | exact .inr rfl) : PS X (.AugAssign (.Name y pos') op e pos) (kS X.K g x (wAug i o w)) :=
  ps_imp (ps_aug hN hi hx he ho hf) fun De σ H ⟨F, ρ, E, k, h, q⟩ => by
    unfold wAug at h
    cases es : ρ[i]? with
    | none => simp only [es] at h
    | some sl =>
      cases sl with
      | dat d =>
        simp only [es] at h
        obtain ⟨v, ev, u, eu, p⟩ := slot_at k es
        refine ⟨u, by rw [ev, eu], F, ρ, _, k, h, fun v2 F2 H2 d2 ρ2 k2 s2 p2 h2 => hd F2 H2 u v2 d d2 _ _ k2.fh (dp_mono s2 d u p) p2 h2 fun r F3 H3 dr gr pr hr => ?_⟩
        exact q.nx F3 H3 _ _ ((k2.grow gr).setD i pr) (s2.trans gr.ff) hr
      | _ => simp only [es] at h
@[simp] def oAddI (a b : D) (P : D → Prop) : Prop := match a, b with
  | .int i, .int j => P (.int (i + j))
  | _, _ => False
@[simp] def oMulI (a b : D) (P : D → Prop) : Prop := match a, b with
  | .int i, .int j => (-(2 ^ 64) < j ∧ j < 2 ^ 64) ∧ P (.int (i * j))
  | _, _ => False
theorem ipd_add {K : PySem.W.Frag} : IpD K (ipI fun i j => i + j) oAddI := by
  intro F H x y dx dy P Q fh px py h q
  cases px with
  | int i =>
    cases py with
    | int j => exact ⟨i, j, rfl, rfl, q _ F H _ (.refl fh) (.int _) h⟩
    | _ => exact h.elim
  | _ => exact h.elim
theorem ipd_sub {K : PySem.W.Frag} : IpD K (ipI fun i j => i - j) oSub := by
  intro F H x y dx dy P Q fh px py h q
  cases px with
  | int i =>
    cases py with
    | int j => exact ⟨i, j, rfl, rfl, q _ F H _ (.refl fh) (.int _) h⟩
    | _ => exact h.elim
  | _ => exact h.elim
theorem ipd_mul {K : PySem.W.Frag} : IpD K (rI CMul fun i j => .int (i * j)) oMulI := by
  intro F H x y dx dy P Q fh px py h q
  cases px with
  | int i =>
    cases py with
    | int j => exact ⟨i, j, rfl, rfl, .inr h.1, q _ F H _ (.refl fh) (.int _) h.2⟩
    | _ => exact h.elim
  | _ => exact h.elim
theorem ip_mul : PIp X .Mult (rI CMul fun i j => .int (i * j)) := iop_mul
theorem hs_augAdd (i : Nat) (hN : X.N.Nodup) (he : PE X e (kE X.K g x w)) (hi : X.N[i]? = some y := by rfl) (hx : Loc X.env.scope y := by first | exact Or.inl rfl | exact Or.inr rfl)
    (hf : X.fn y = true ∨ X.env.scope.names.lookup y = some .local := by first | exact .inl rfl | exact .inr rfl) : PS X (.AugAssign (.Name y pos') .Add e pos) (kS X.K g x (wAug i oAddI w)) := hs_aug ip_add ipd_add i hN he hi hx hf
theorem hs_augSub (i : Nat) (hN : X.N.Nodup) (he : PE X e (kE X.K g x w)) (hi : X.N[i]? = some y := by rfl) (hx : Loc X.env.scope y := by first | exact Or.inl rfl | exact Or.inr rfl)
    (hf : X.fn y = true ∨ X.env.scope.names.lookup y = some .local := by first | exact .inl rfl | exact .inr rfl) : PS X (.AugAssign (.Name y pos') .Sub e pos) (kS X.K g x (wAug i oSub w)) := hs_aug ip_sub ipd_sub i hN he hi hx hf
theorem hs_augMul (i : Nat) (hN : X.N.Nodup) (he : PE X e (kE X.K g x w)) (hi : X.N[i]? = some y := by rfl) (hx : Loc X.env.scope y := by first | exact Or.inl rfl | exact Or.inr rfl)
    (hf : X.fn y = true ∨ X.env.scope.names.lookup y = some .local := by first | exact .inl rfl | exact .inr rfl) : PS X (.AugAssign (.Name y pos') .Mult e pos) (kS X.K g x (wAug i oMulI w)) := hs_aug ip_mul ipd_mul i hN he hi hx hf
/-- a, b = e1, e2: two local names -/
@[simp] def wPar (i j : Nat) (ws : WL) : WS := fun x E ρ => ws x ρ fun ds ρ1 => match ds with
  | [a, b] => E.nx ((ρ1.set i (.dat a)).set j (.dat b))
  | _ => False
theorem hs_par {ws : WL} {z : Str} {px py pt : Pos} {kt k2 : Nat} {pt2 : Pos} (i j : Nat) (hc : X.calm = true) (hN : X.N.Nodup) (hij : i ≠ j) (ha : PA X [a, b] (kA X.K g x ws))
    (hi : X.N[i]? = some y := by rfl) (hj : X.N[j]? = some z := by rfl) (hx : X.env.scope.names.lookup y = some .local := by rfl) (hy : X.env.scope.names.lookup z = some .local := by rfl)
    (hw : swappedStores [.Tuple [.Name y px, .Name z py] kt pt] (.Tuple [a, b] k2 pt2) X.env = pure (some [y, z]) := by rfl)
    (hs : swapsWithSole [.Tuple [.Name y px, .Name z py] kt pt] (.Tuple [a, b] k2 pt2) pos.line X.env = pure false := by rfl) :
    PS X (.Assign [.Tuple [.Name y px, .Name z py] kt pt] (.Tuple [a, b] k2 pt2) pos) (kS X.K g x (wPar i j ws)) :=
  ps_imp (ps_par hc hN hi hj hij hx hy ha hw hs) fun De σ H ⟨F, ρ, E, k, h, q⟩ => ⟨F, ρ, _, k, h, fun vs F2 H2 ds ρ2 k2 s2 p2 h2 => by
    cases p2 with
    | nil => exact h2.elim
    | cons h1 t =>
      cases t with
      | nil => exact h2.elim
      | cons h3 t =>
        cases t with
        | nil => exact ⟨_, _, rfl, q.nx F2 H2 _ _ ((k2.setD i h1).setD j h3) s2 h2⟩
        | cons => exact h2.elim⟩

/-! ### targets -/
/-- .. the slots outside tv are left as they are -/
def kGt (K : PySem.W.Frag) (g : Gd) (tv : List Nat) (w : WG) : TG := fun v σ H Q => ∃ (F : Hp) (ρ : Env) (d : D) (P : Env → Prop), Ok K g F H σ ρ ∧ Dt K F v d ∧ w d ρ P ∧
  ∀ σ2 F2 H2 ρ2, Ok K g F2 H2 σ2 ρ2 → Same F F2 → σ2.length = σ.length → (∀ j, j ∉ tv → σ2[j]? = σ[j]?) → P ρ2 → Q σ2 H2
abbrev WGs := List D → Env → (Env → Prop) → Prop
def kGs (K : PySem.W.Frag) (g : Gd) (tv : List Nat) (w : WGs) : TGs := fun vs σ H Q => ∃ (F : Hp) (ρ : Env) (ds : List D) (P : Env → Prop), Ok K g F H σ ρ ∧ DtAll K F vs ds ∧ w ds ρ P ∧
  ∀ σ2 F2 H2 ρ2, Ok K g F2 H2 σ2 ρ2 → Same F F2 → σ2.length = σ.length → (∀ j, j ∉ tv → σ2[j]? = σ[j]?) → P ρ2 → Q σ2 H2
@[simp] def wgName (i : Nat) : WG := fun d ρ P => P (ρ.set i (.dat d))
@[simp] def wgNil : WGs := fun ds ρ P => match ds with
  | [] => P ρ
  | _ => False
@[simp] def wgCons (w : WG) (ws : WGs) : WGs := fun ds ρ P => match ds with
  | d :: r => w d ρ fun ρ1 => ws r ρ1 P
  | [] => False
@[simp] def wgTup (n : Nat) (ws : WGs) : WG := fun d ρ P => match d with
  | .tuple ds => ds.length = n ∧ ws ds ρ P
  | _ => False
theorem pgs_imp {es : List Expr} {t t' : TGs} (h : PGs X es t) (f : ∀ v σ H Q, t' v σ H Q → t v σ H Q) : PGs X es t' := ⟨fun pins s σ H v u Q I r q => h.run pins s σ H v u Q I r (f v σ H Q q)⟩
theorem hg_name (i : Nat) (hN : X.N.Nodup) (hi : X.N[i]? = some y := by rfl) (hx : Loc X.env.scope y := by first | exact Or.inl rfl | exact Or.inr rfl) (hf : X.fn y = true ∨ X.env.scope.names.lookup y = some .local := by first | exact .inl rfl | exact .inr rfl) : PG X (.Name y pos) (kGt X.K g [i] (wgName i)) :=
  pg_imp (pg_name hN hi hx hf) fun v σ H Q ⟨F, ρ, d, P, k, p, h, q⟩ => q _ F H _ (k.setD i p) (Same.refl _) (List.length_set) (fun j hj => List.getElem?_set_ne (by simpa [eq_comm] using hj)) h
theorem hgs_nil : PGs X [] (kGs X.K g [] wgNil) := pgs_imp pgs_nil fun v σ H Q ⟨F, ρ, ds, P, k, p, h, q⟩ => by
  cases p with
  | nil => exact ⟨rfl, q σ F H ρ k (Same.refl _) rfl (fun _ _ => rfl) h⟩
  | cons => exact h.elim
theorem hgs_cons {es : List Expr} {tv tw : List Nat} {wg : WG} {wgs : WGs} (h1 : PG X e (kGt X.K g tv wg)) (h2 : PGs X es (kGs X.K g tw wgs)) (hs : (assignEach (e :: es) X.env).map (·.2) = assign e X.env :: (assignEach es X.env).map (·.2) := by rfl) : PGs X (e :: es) (kGs X.K g (tv ++ tw) (wgCons wg wgs)) :=
  pgs_imp (pgs_cons h1 h2 hs) fun v σ H Q ⟨F, ρ, ds, P, k, p, h, q⟩ => by
    cases p with
    | nil => exact h.elim
    | cons p1 p2 =>
      refine ⟨_, _, rfl, F, ρ, _, _, k, p1, h, fun σ2 F2 H2 ρ2 k2 s2 l2 f2 h2 => ⟨F2, ρ2, _, P, k2, dpa_mono s2 _ _ p2, h2, fun σ3 F3 H3 ρ3 k3 s3 l3 f3 h3 => q σ3 F3 H3 ρ3 k3 (s2.trans s3) (l3.trans l2) (fun j hj => ?_) h3⟩⟩
      rw [f3 j (fun z => hj (List.mem_append_right _ z)), f2 j (fun z => hj (List.mem_append_left _ z))]
theorem hg_tup {es : List Expr} {tv : List Nat} {wgs : WGs} {n : Nat} {j : Nat} (hc : X.calm = true) (h : PGs X es (kGs X.K g tv wgs)) (hn : (assignEach es X.env).length = n := by rfl) (hst : (assignEach es X.env).findIdx? (·.1) = none := by rfl) : PG X (.Tuple es j pos) (kGt X.K g tv (wgTup n wgs)) :=
  pg_imp (pg_tup hc h hn hst) fun v σ H Q ⟨F, ρ, d, P, k, p, h, q⟩ => by
    cases p with
    | @tup a xs ds hs ha => exact ⟨a, xs, rfl, sqT_mono k.fh hs, by rw [dpa_len ha]; exact h.1, F, ρ, ds, P, k, ha, h.2, q⟩
    | _ => exact h.elim
@[simp] def wAsgG (w : WE) (wg : WG) : WS := fun x E ρ => w x ρ fun d ρ1 => wg d ρ1 E.nx
theorem hs_asg {tg : Expr} {tv : List Nat} {wg : WG} (he : PE X e (kE X.K g x w)) (hg : PG X tg (kGt X.K g tv wg)) (hs : swapsWithSole [tg] e pos.line X.env = pure false := by rfl) (hw : swappedStores [tg] e X.env = pure none := by rfl)
    (h1 : (assignEach [tg] X.env).map (·.2) = [assign tg X.env] := by rfl) : PS X (.Assign [tg] e pos) (kS X.K g x (wAsgG w wg)) :=
  ps_imp (ps_asg he hg hs hw h1) fun De σ H ⟨F, ρ, E, k, h, q⟩ => ⟨F, ρ, _, k, h, fun v F2 H2 d ρ2 k2 s2 p2 h2 => ⟨F2, ρ2, d, _, k2, p2, h2, fun σ3 F3 H3 ρ3 k3 s3 _ _ h3 => q.nx F3 H3 σ3 ρ3 k3 (s2.trans s3) h3⟩⟩
/-- xs[i] = e, xs a slot's own list -/
@[simp] def wSetI (i : Nat) (wi w : WE) : WS := fun x E ρ => w x ρ fun d ρ1 => (lstAt ρ1 i).isSome = true ∧ wi x ρ1 fun j ρ2 => match lstAt ρ2 i, j with
  | some ds, .int j => match ixN ds.length j with
    | some n => E.nx (setAt ρ2 i (ds.set n d))
    | none => False
  | _, _ => False
theorem hs_setI {wi : WE} {p0 ps : Pos} (i : Nat) (hi : PE X a (kE X.K g x wi)) (he : PE X e (kE X.K g x w)) (hN : X.N[i]? = some y := by rfl) (hv : Vis X.env.scope y := by first | exact Or.inl rfl | exact Or.inr (Or.inl rfl) | exact Or.inr (Or.inr rfl)) (hd : (y == ("__debug__" : Str)) = false := by decide)
    (hcd : (y == ("__classdict__" : Str)) = false := by decide) (ha : ∀ v, assign (.Subscript (.Name y p0) a ps) X.env v = (do
      let ov ← holding [v] (eval (.Name y p0) X.env)
      let iv ← holding [v, ov] (eval a X.env)
      standAt ps
      holding [v, ov, iv] (setItem ov iv v)
      release [v, ov, iv] []) := by intro _; rfl) (hs : swapsWithSole [.Subscript (.Name y p0) a ps] e pos.line X.env = pure false := by rfl) (hw : swappedStores [.Subscript (.Name y p0) a ps] e X.env = pure none := by rfl)
    (h1 : (assignEach [.Subscript (.Name y p0) a ps] X.env).map (·.2) = [assign (.Subscript (.Name y p0) a ps) X.env] := by rfl) : PS X (.Assign [.Subscript (.Name y p0) a ps] e pos) (kS X.K g x (wSetI i wi w)) :=
  ps_imp (ps_asg he (pg_sub (pe_var hN hv hd hcd) hi set_list ha) hs hw h1) fun De σ H ⟨F, ρ, E, k, h, q⟩ => ⟨F, ρ, _, k, h, fun v F2 H2 d ρ2 k2 s2 p2 h2 => by
    obtain ⟨h0, h2⟩ := h2
    obtain ⟨ds0, e0⟩ := Option.isSome_iff_exists.mp h0
    obtain ⟨b, _, ea, _⟩ := k2.lstAt e0
    refine ⟨_, ea, F2, ρ2, _, k2, h2, fun u F3 H3 j ρ3 k3 s3 p3 h3 => ?_⟩
    cases el : lstAt ρ3 i with
    | none => simp only [el] at h3
    | some ds =>
      obtain ⟨b', xs, ev, hF, hH, hd2, _⟩ := k3.lstAt el
      rw [ea] at ev
      cases ev
      cases p3 with
      | int j =>
        simp only [el] at h3
        cases ei : ixN ds.length j with
        | none => simp only [ei] at h3
        | some n =>
          simp only [ei] at h3
          refine ⟨b, xs, j, n, rfl, rfl, hH, by rw [dpa_len hd2]; exact ei, q.nx F3 _ σ _ (k3.mut el ea (dpa_set (dp_mono s3 d v p2) n hd2)) (s2.trans s3) h3⟩
      | _ => simp only [el] at h3⟩
end
end Fz

set_option maxRecDepth 100000
set_option maxHeartbeats 1000000
/-! F7: what is walked, for, while, comprehensions, raise, a def's promise. -/
namespace Fz
open PySem PySem.Spec L2
/-- an iterator gives these items, whatever is frozen besides -/
def ItOk (K : PySem.W.Frag) (F : Hp) (J : It) (ds : List D) : Prop := ∀ F3 H3, Same F F3 → Same F3 H3 → (∀ i, i < ds.length → J.go i H3) ∧ J.stop ds.length H3 ∧
  ∀ (i : Nat) (d : D) v H4, ds[i]? = some d → J.yld i H3 v H4 → ∃ F4, Gr F3 H3 F4 H4 ∧ Dt K F4 v d
def kI (K : PySem.W.Frag) (g : Gd) (x : EX) (w : WL) : TI := fun σ H R => ∃ (F : Hp) (ρ : Env) (P : List D → Env → Prop), Ok K g F H σ ρ ∧ w x ρ P ∧
  ∀ J F2 H2 ds ρ2, Ok K g F2 H2 σ ρ2 → Same F F2 → ItOk K F2 J ds → P ds ρ2 → R J H2
theorem it_list {K : PySem.W.Frag} {F : Hp} {a : Addr} {xs : List V} {ds : List D} (h : SqL K F a xs) (p : DtAll K F xs ds) : ItOk K F (Itl K a) ds := fun F3 H3 s1 s2 => by
  have q : SqL K H3 a xs := (sqL_mono (s1.trans s2) h)
  have e := dpa_len p
  refine ⟨fun i hi => walk_list.goes i H3 (by rw [e]; exact hi) q, by rw [← e]; exact walk_list.stops H3 q, fun i d v H4 hd y => ?_⟩
  have hi : i < xs.length := by rw [e]; exact (List.getElem?_eq_some_iff.mp hd).1
  obtain ⟨e1, e2⟩ := walk_list.yields i H3 v H4 hi q y
  subst e1
  obtain ⟨v', ev, pv⟩ := dpa_get p hd
  rw [e2] at ev
  cases ev
  exact ⟨F3, .refl s2, dp_mono s1 _ _ pv⟩
theorem it_tup {K : PySem.W.Frag} {F : Hp} {a : Addr} {xs : List V} {ds : List D} (h : SqT K F a xs) (p : DtAll K F xs ds) : ItOk K F (Itt K a) ds := fun F3 H3 s1 s2 => by
  have q : SqT K H3 a xs := sqT_mono (s1.trans s2) h
  have e := dpa_len p
  refine ⟨fun i hi => walk_tup.goes i H3 (by rw [e]; exact hi) q, by rw [← e]; exact walk_tup.stops H3 q, fun i d v H4 hd y => ?_⟩
  have hi : i < xs.length := by rw [e]; exact (List.getElem?_eq_some_iff.mp hd).1
  obtain ⟨e1, e2⟩ := walk_tup.yields i H3 v H4 hi q y
  subst e1
  obtain ⟨v', ev, pv⟩ := dpa_get p hd
  rw [e2] at ev
  cases ev
  exact ⟨F3, .refl s2, dp_mono s1 _ _ pv⟩
/-- lo, lo + 1, .. -/
def rngD (lo hi : Int) : List D := (List.range (hi - lo).toNat).map fun (i : Nat) => .int (lo + (i : Int))
theorem it_rng {K : PySem.W.Frag} {F : Hp} (lo hi : Int) : ItOk K F (Itr lo (hi - lo).toNat) (rngD lo hi) := fun F3 H3 s1 s2 => by
  have e : (rngD lo hi).length = (hi - lo).toNat := by unfold rngD; rw [List.length_map, List.length_range]
  rw [e]
  refine ⟨fun i h => h, Nat.le_refl _, fun i d v H4 hd y => ?_⟩
  obtain ⟨e1, e2⟩ := y
  subst e1 e2
  unfold rngD at hd
  rw [List.getElem?_map] at hd
  have hi : i < (hi - lo).toNat := by
    cases q : (List.range (hi - lo).toNat)[i]? with
    | none => rw [q] at hd; cases hd
    | some j => rw [← List.length_range (n := (hi - lo).toNat)]; exact (List.getElem?_eq_some_iff.mp q).1
  rw [List.getElem?_range hi] at hd
  cases hd
  exact ⟨F3, .refl s2, .int _⟩
/-- pairs laid anew at each turn -/
theorem it_pair {K : PySem.W.Frag} {F : Hp} {J : It} {n : Nat} {G : Hp → Prop} {f1 f2 : Nat → Option V} {ds : List D} (w : Walk J n G (YPair f1 f2)) (hn : ds.length = n) (hG : ∀ F3 H3, Same F F3 → Same F3 H3 → G H3)
    (hp : ∀ (i : Nat) (d : D) (a b : V), ds[i]? = some d → f1 i = some a → f2 i = some b → ∃ d1 d2, d = .tuple [d1, d2] ∧ Dt K F a d1 ∧ Dt K F b d2) : ItOk K F J ds := fun F3 H3 s1 s2 => by
  have q := hG F3 H3 s1 s2
  refine ⟨fun i hi => w.goes i H3 (by rw [← hn]; exact hi) q, by rw [hn]; exact w.stops H3 q, fun i d v H4 hd y => ?_⟩
  have hi : i < n := by rw [← hn]; exact (List.getElem?_eq_some_iff.mp hd).1
  obtain ⟨T, a, b, rfl, hT, rfl, e1, e2⟩ := w.yields i H3 v H4 hi q y
  obtain ⟨d1, d2, rfl, p1, p2⟩ := hp i d a b hd e1 e2
  have gr : Gr F3 H3 _ _ := .frz (o := .tup [a, b]) s2 hT
  exact ⟨_, gr, .tup (.inl (.inl upd_same)) (.cons (dp_mono (s1.trans gr.ff) _ _ p1) (.cons (dp_mono (s1.trans gr.ff) _ _ p2) .nil))⟩
/-- what a list or a tuple is walked for -/
@[simp] def wIt (w : WE) : WL := fun x ρ P => w x ρ fun d ρ1 => match d with
  | .list ds => P ds ρ1
  | .tuple ds => P ds ρ1
  | _ => False
def zipD : List D → List D → List D
  | a :: as, b :: bs => .tuple [a, b] :: zipD as bs
  | _, _ => []
def enumD : Nat → List D → List D
  | _, [] => []
  | i, a :: as => .tuple [.int (i : Int), a] :: enumD (i + 1) as
@[simp] def wItZ (wa wb : WE) : WL := fun x ρ P => wa x ρ fun a ρ1 => wb x ρ1 fun b ρ2 => match a, b with
  | .list as, .list bs => P (zipD as bs) ρ2
  | .tuple as, .tuple bs => P (zipD as bs) ρ2
  | _, _ => False
@[simp] def wItE (w : WE) : WL := fun x ρ P => w x ρ fun d ρ1 => match d with
  | .list ds => P (enumD 0 ds) ρ1
  | .tuple ds => P (enumD 0 ds) ρ1
  | _ => False
@[simp] def wItR1 (w : WE) : WL := fun x ρ P => w x ρ fun d ρ1 => match d with
  | .int n => (-1000000 ≤ n ∧ n ≤ 1000000) ∧ P (rngD 0 n) ρ1
  | _ => False
@[simp] def wItR2 (wa wb : WE) : WL := fun x ρ P => wa x ρ fun a ρ1 => wb x ρ1 fun b ρ2 => match a, b with
  | .int i, .int j => (-1000000 ≤ i ∧ i ≤ 1000000 ∧ -1000000 ≤ j ∧ j ≤ 1000000) ∧ P (rngD i j) ρ2
  | _, _ => False
theorem zipD_get : ∀ (as bs : List D) (i : Nat) (d : D), (zipD as bs)[i]? = some d → ∃ a b, as[i]? = some a ∧ bs[i]? = some b ∧ d = .tuple [a, b]
  | [], _, i, d, h => by simp [zipD] at h
  | _ :: _, [], i, d, h => by simp [zipD] at h
  | a :: as, b :: bs, 0, d, h => by
    simp [zipD] at h
    exact ⟨a, b, rfl, rfl, h.symm⟩
  | a :: as, b :: bs, i + 1, d, h => by
    obtain ⟨x, y, h1, h2, h3⟩ := zipD_get as bs i d (by simpa [zipD] using h)
    exact ⟨x, y, by simpa using h1, by simpa using h2, h3⟩
theorem zipD_len : ∀ (as bs : List D), (zipD as bs).length = min as.length bs.length
  | [], _ => by simp [zipD]
  | _ :: _, [] => by simp [zipD]
  | a :: as, b :: bs => by
    simp only [zipD, List.length_cons, zipD_len as bs]
    omega
theorem enumD_get : ∀ (as : List D) (k i : Nat) (d : D), (enumD k as)[i]? = some d → ∃ a, as[i]? = some a ∧ d = .tuple [.int ((k + i : Nat) : Int), a]
  | [], k, i, d, h => by simp [enumD] at h
  | a :: as, k, 0, d, h => by
    simp [enumD] at h
    exact ⟨a, rfl, h.symm⟩
  | a :: as, k, i + 1, d, h => by
    obtain ⟨x, h1, h3⟩ := enumD_get as (k + 1) i d (by simpa [enumD] using h)
    exact ⟨x, by simpa using h1, by rw [h3, show k + 1 + i = k + (i + 1) from by omega]⟩
theorem enumD_len : ∀ (as : List D) (k : Nat), (enumD k as).length = as.length
  | [], _ => rfl
  | a :: as, k => by simp only [enumD, List.length_cons, enumD_len as (k + 1)]
section
variable {X : Cx} {g : Gd} {x : EX} {a b c e tg iter : Expr} {es : List Expr} {wa wb wc w : WE} {ws wi : WL} {pos p apos cpos : Pos} {y : Str} {k : Nat}
/-- a list or a tuple is walked -/
def iSeq (K : PySem.W.Frag) (tl : TE) : TI := fun σ H R => tl σ H fun v H1 => (∃ b, v = .ref b ∧ (∃ zs, SqL K H1 b zs) ∧ R (Itl K b) H1) ∨ ∃ b, v = .ref b ∧ (∃ zs, SqT K H1 b zs) ∧ R (Itt K b) H1
theorem pi_seq {tl : TE} (hl : PE X e tl) : PI X tg e (iSeq X.K tl) := by
  refine ⟨fun pins s σ H R I h => thn (hl.run pins s σ H _ I h) fun u s1 hu => ?_⟩
  obtain ⟨v, H1, J1, rv, q1⟩ := hu
  have kp : ∀ (ob : Obj), Inv X pins σ H1 { s1 with heap := s1.heap.push ob } := fun ob => J1.kept (t' := s1.toks) fun c o z => Heap.get?_push_of_some _ z
  have fr : ∀ c ∈ [s1.heap.objs.size], FpOk X pins H1 c := fun c hc => by
    have z : c = s1.heap.objs.size := by simpa using hc
    rw [z]
    exact J1.fpOk (Nat.le_refl _) J1.fresh
  rcases q1 with ⟨b, rfl, ⟨zs, hz⟩, q⟩ | ⟨b, rfl, ⟨zs, hz⟩, q⟩
  · cases rv
    obtain ⟨us, _, pl, _⟩ := J1.list hz
    exact wpAny_pyIter_list pl.isList ⟨_, _, _, _, H1, rfl, kp _, turn_list b _, ⟨_, Heap.get?_push_size _ rfl, rfl, rfl⟩, fr, q⟩
  · cases rv
    obtain ⟨us, _, pl, _⟩ := J1.tuple hz
    exact wpAny_pyIter_tuple (show s1.heap.IsTuple b us.toArray from pl) ⟨_, _, _, _, H1, rfl, kp _, turn_tuple b _, ⟨_, Heap.get?_push_size _ rfl, rfl, rfl⟩, fr, q⟩
theorem hi_seq (he : PE X e (kE X.K g x w)) : PI X tg e (kI X.K g x (wIt w)) :=
  pi_imp (pi_seq he) fun σ H R ⟨F, ρ, P, k, h, q⟩ => ⟨F, ρ, _, k, h, fun v F2 H2 d ρ2 k2 s2 p2 h2 => by
    cases p2 with
    | @lst a xs ds hs ha => exact .inl ⟨a, rfl, ⟨xs, (sqL_mono k2.fh hs)⟩, q _ F2 H2 ds ρ2 k2 s2 (it_list hs ha) h2⟩
    | @tup a xs ds hs ha => exact .inr ⟨a, rfl, ⟨xs, sqT_mono k2.fh hs⟩, q _ F2 H2 ds ρ2 k2 s2 (it_tup hs ha) h2⟩
    | _ => exact h2.elim⟩
theorem hi_rng1 (hm : X.mg "range" = none) (ha : PE X a (kE X.K g x w)) (hg : Gl X "range" := by rfl) (hs : starEach [a] X.env = [(false, eval a X.env)] := by rfl) (hs2 : starEach (a :: []) X.env = (false, eval a X.env) :: starEach [] X.env := by rfl) :
    PI X tg (.Call (.Name "range" p) [a] [] pos) (kI X.K g x (wItR1 w)) :=
  pi_imp (pi_range1 hg hm (pa_cons ha pa_nil hs2) hs) fun σ H R ⟨F, ρ, P, k, h, q⟩ => ⟨F, ρ, _, k, h, fun v F2 H2 d ρ2 k2 s2 p2 h2 => by
    cases p2 with
    | int n =>
      obtain ⟨⟨b0, b1⟩, h2⟩ := h2
      have z := it_rng (K := X.K) (F := F2) 0 n
      rw [Int.sub_zero] at z
      exact ⟨n, rfl, by omega, by omega, q _ F2 H2 _ ρ2 k2 s2 z h2⟩
    | _ => exact h2.elim⟩
theorem hi_rng2 (hm : X.mg "range" = none) (ha : PE X a (kE X.K g x wa)) (hb : PE X b (kE X.K g x wb)) (hg : Gl X "range" := by rfl) (hs : starEach [a, b] X.env = [(false, eval a X.env), (false, eval b X.env)] := by rfl) (hs2 : starEach [b] X.env = [(false, eval b X.env)] := by rfl)
    (hs3 : starEach (a :: [b]) X.env = (false, eval a X.env) :: starEach [b] X.env := by rfl) (hs4 : starEach (b :: []) X.env = (false, eval b X.env) :: starEach [] X.env := by rfl) : PI X tg (.Call (.Name "range" p) [a, b] [] pos) (kI X.K g x (wItR2 wa wb)) :=
  pi_imp (pi_range2 hg hm (pa_cons ha (pa_cons hb pa_nil hs4) hs3) hs hs2) fun σ H R ⟨F, ρ, P, k, h, q⟩ => ⟨F, ρ, _, k, h, fun v F2 H2 d ρ2 k2 s2 p2 h2 => ⟨F2, ρ2, _, k2, h2, fun v' F3 H3 d' ρ3 k3 s3 p3 h3 => by
    cases p2 with
    | int i =>
      cases p3 with
      | int j =>
        obtain ⟨⟨b0, b1, b2, b3⟩, h3⟩ := h3
        exact ⟨i, j, rfl, ⟨by omega, by omega, by omega, by omega⟩, q _ F3 H3 _ ρ3 k3 (s2.trans s3) (it_rng i j) h3⟩
      | _ => exact h3.elim
    | _ => exact h3.elim⟩⟩
theorem zip_pairs {K : PySem.W.Frag} {F : Hp} {as bs : List D} {xs ys : List V} (pa : DtAll K F xs as) (pb : DtAll K F ys bs) : ∀ (i : Nat) (d : D) (u v : V), (zipD as bs)[i]? = some d → xs[i]? = some u → ys[i]? = some v → ∃ d1 d2, d = .tuple [d1, d2] ∧ Dt K F u d1 ∧ Dt K F v d2 := by
  intro i d u v hd hu hv
  obtain ⟨a, b, h1, h2, h3⟩ := zipD_get as bs i d hd
  obtain ⟨u', e1, p1⟩ := dpa_get pa h1
  obtain ⟨v', e2, p2⟩ := dpa_get pb h2
  rw [hu] at e1
  rw [hv] at e2
  cases e1
  cases e2
  exact ⟨a, b, h3, p1, p2⟩
theorem walk_zipT {K : PySem.W.Frag} {a b : Addr} {xs ys : List V} {n : Nat} (hn : n = min xs.length ys.length) : Walk (RZ.ItzT K a b) n (fun H => SqT K H a xs ∧ SqT K H b ys) (YPair (fun i => xs[i]?) (fun i => ys[i]?)) := by
  refine ⟨fun i H hi q => ?_, fun H q => ⟨xs, ys, q.1, q.2, by omega⟩, fun i H v H' hi q z => ?_⟩
  · have hx : i < xs.length := by omega
    have hy : i < ys.length := by omega
    exact ⟨xs, ys, _, _, q.1, q.2, List.getElem?_eq_getElem hx, List.getElem?_eq_getElem hy⟩
  · obtain ⟨T, u, w, z1, z2, z3, z4, z5⟩ := z
    exact ⟨T, u, w, z1, z2, z3, z4 xs q.1, z5 ys q.2⟩
theorem hi_zip {elts : List Expr} {kk : Nat} {tpos : Pos} (hm : X.mg "zip" = none) (ha : PE X a (kE X.K g x wa)) (hb : PE X b (kE X.K g x wb)) (hg : Gl X "zip" := by rfl) (hs : starEach [a, b] X.env = (false, eval a X.env) :: starEach [b] X.env := by rfl)
    (hs2 : starEach (b :: []) X.env = (false, eval b X.env) :: starEach [] X.env := by rfl) (hpl : (backTo pos (starEach [b] X.env)).any (·.1) = false := by rfl) : PI X (.Tuple elts kk tpos) (.Call (.Name "zip" p) [a, b] [] pos) (kI X.K g x (wItZ wa wb)) :=
  pi_imp (RZ.pi_zipA hg hm (pa_cons ha (pa_cons hb pa_nil hs2) hs) hs hpl) fun σ H R ⟨F, ρ, P, k, h, q⟩ => ⟨F, ρ, _, k, h, fun v F2 H2 d ρ2 k2 s2 p2 h2 => ⟨F2, ρ2, _, k2, h2, fun v' F3 H3 d' ρ3 k3 s3 p3 h3 => by
    cases p2 with
    | @lst c xs ds hs' ha' =>
      cases p3 with
      | @lst c' ys es hs2 ha2 =>
        have ha3 := dpa_mono s3 _ _ ha'
        refine ⟨c, c', xs, ys, rfl, .inl ⟨(sqL_mono (s3.trans k3.fh) hs'), (sqL_mono k3.fh hs2), q _ F3 H3 _ ρ3 k3 (s2.trans s3) ?_ h3⟩⟩
        exact it_pair (walk_zip (n := min xs.length ys.length) rfl) (by rw [zipD_len, dpa_len ha', dpa_len ha2]) (fun F4 H4 q1 q2 => ⟨(sqL_mono ((s3.trans q1).trans q2) hs'), (sqL_mono (q1.trans q2) hs2)⟩) (zip_pairs ha3 ha2)
      | _ => exact h3.elim
    | @tup c xs ds hs' ha' =>
      cases p3 with
      | @tup c' ys es hs2 ha2 =>
        have ha3 := dpa_mono s3 _ _ ha'
        refine ⟨c, c', xs, ys, rfl, .inr ⟨sqT_mono (s3.trans k3.fh) hs', sqT_mono k3.fh hs2, q _ F3 H3 _ ρ3 k3 (s2.trans s3) ?_ h3⟩⟩
        exact it_pair (walk_zipT (n := min xs.length ys.length) rfl) (by rw [zipD_len, dpa_len ha', dpa_len ha2]) (fun F4 H4 q1 q2 => ⟨sqT_mono ((s3.trans q1).trans q2) hs', sqT_mono (q1.trans q2) hs2⟩) (zip_pairs ha3 ha2)
      | _ => exact h3.elim
    | _ => exact h3.elim⟩⟩

/-! ### for -/
/-- the turns of a for, one after another -/
def forL (wg : WG) (wb : WS) (x : EX) (E : WEnds) : List D → Env → Prop
  | [], ρ => E.nx ρ
  | d :: ds, ρ => wg d ρ fun ρ1 => wb x { nx := forL wg wb x E ds, rt := E.rt, bk := E.nx, ct := forL wg wb x E ds, rn := E.rn } ρ1
def wFor (wi : WL) (wg : WG) (wb : WS) : WS := fun x E ρ => wi x ρ fun ds ρ1 => forL wg wb x E ds ρ1
theorem hs_for {body : List Stmt} {tv : List Nat} {wg : WG} {wb : WS} (hp : PassesOwn (model X.prog X.w) X.A X.env X.xe) (hc : X.calm = true) (hi : PI X tg iter (kI X.K g x wi)) (hg : PG X tg (kGt X.K g tv wg)) (hb : PSs X body (kS X.K g x wb))
    (hs : ∀ x, foldedSetIterable iter X.env x = pure x := by intro _; rfl) : PS X (.For tg iter body [] pos) (kS X.K g x (wFor wi wg wb)) :=
  ps_imp (ps_for hp hc hi hg hb hs) fun De σ H ⟨F, ρ, E, k, h, q⟩ => ⟨F, ρ, _, k, h, fun J F2 H2 ds ρ2 k2 s2 it h2 => by
    refine ⟨fun i m σ' H' => ∃ F' ρ', Ok X.K g F' H' σ' ρ' ∧ Same F2 F' ∧ i + m = ds.length ∧ forL wg wb x E (ds.drop i) ρ', ⟨ds.length, F2, ρ2, k2, Same.refl _, by omega, h2⟩, ?_⟩
    rintro i m σ' H' ⟨F', ρ', k', s', em, h'⟩
    obtain ⟨go, stop, yl⟩ := it F' H' s' k'.fh
    cases hd : ds[i]? with
    | none =>
      have hi : ds.length ≤ i := List.getElem?_eq_none_iff.mp hd
      have ei : i = ds.length := by omega
      subst ei
      rw [List.drop_length] at h'
      exact .inl ⟨stop, q.nx F' H' σ' ρ' k' (s2.trans s') h'⟩
    | some d =>
      have hi : i < ds.length := (List.getElem?_eq_some_iff.mp hd).1
      have ed : ds.drop i = d :: ds.drop (i + 1) := by
        rw [List.drop_eq_getElem_cons hi]
        have e2 := (List.getElem?_eq_some_iff.mp hd).2
        rw [e2]
      rw [ed] at h'
      refine .inr ⟨go i hi, fun σ3 H3 => ∃ F3 ρ3, Ok X.K g F3 H3 σ3 ρ3 ∧ Same F2 F3 ∧ forL wg wb x E (ds.drop (i + 1)) ρ3, fun σ3 H3 ⟨F3, ρ3, k3, s3, h3⟩ => ⟨m - 1, by omega, F3, ρ3, k3, s3, by omega, h3⟩, fun v H3 hy => ?_⟩
      obtain ⟨F3, gr, pv⟩ := yl i d v H3 hd hy
      refine ⟨F3, ρ', d, _, k'.grow gr, pv, h', fun σ4 F4 H4 ρ4 k4 s4 _ _ h4 => ⟨F4, ρ4, _, k4, h4, ?_⟩⟩
      have s24 : Same F2 F4 := (s'.trans gr.ff).trans s4
      exact ⟨fun F5 H5 σ5 ρ5 k5 s5 h5 => ⟨F5, ρ5, k5, s24.trans s5, h5⟩, fun v F5 H5 σ5 d ρ5 k5 s5 p5 h5 => q.rt v F5 H5 σ5 d ρ5 k5 ((s2.trans s24).trans s5) p5 h5,
        fun F5 H5 σ5 ρ5 k5 s5 h5 => q.nx F5 H5 σ5 ρ5 k5 ((s2.trans s24).trans s5) h5, fun F5 H5 σ5 ρ5 k5 s5 h5 => ⟨F5, ρ5, k5, s24.trans s5, h5⟩, fun p xs F5 H5 σ5 ds ρ5 k5 s5 n hp hx h5 => q.rn p xs F5 H5 σ5 ds ρ5 k5 ((s2.trans s24).trans s5) n hp hx h5⟩⟩
/-- a for by a word of one's own -/
theorem forL_by {wg : WG} {wb : WS} {E : WEnds} {ds : List D} (I : Nat → Env → Prop) {ρ : Env} (h0 : I 0 ρ)
    (hs : ∀ i d ρ, ds[i]? = some d → I i ρ → wg d ρ fun ρ1 => ∀ N : Env → Prop, (∀ ρ2, I (i + 1) ρ2 → N ρ2) → wb x { nx := N, rt := E.rt, bk := E.nx, ct := N, rn := E.rn } ρ1)
    (hm : ∀ d ρ (P P' : Env → Prop), (∀ ρ, P ρ → P' ρ) → wg d ρ P → wg d ρ P')
    (hd : ∀ ρ, I ds.length ρ → E.nx ρ) : forL wg wb x E ds ρ := by
  have key : ∀ (n i : Nat) (ρ : Env), i + n = ds.length → I i ρ → forL wg wb x E (ds.drop i) ρ := by
    intro n
    induction n with
    | zero =>
      intro i ρ e h
      have ei : i = ds.length := by omega
      subst ei
      rw [List.drop_length]
      exact hd ρ h
    | succ n ih =>
      intro i ρ e h
      have hi : i < ds.length := by omega
      rw [List.drop_eq_getElem_cons hi]
      exact hm _ _ _ _ (fun ρ1 z => z _ fun ρ2 h2 => ih (i + 1) ρ2 (by omega) h2) (hs i _ ρ (List.getElem?_eq_getElem hi) h)
  exact key ds.length 0 ρ (by omega) h0

/-! ### while -/
def wWhile (wt : WT) (wb : WS) : WS := fun x E ρ => ∃ W : Nat → Env → Prop, (∃ m, W m ρ) ∧ ∀ m ρ, W m ρ → wt x ρ fun c ρ1 => if c = true then wb x { nx := fun ρ2 => ∃ m', m' < m ∧ W m' ρ2, rt := E.rt, bk := E.nx, ct := fun ρ2 => ∃ m', m' < m ∧ W m' ρ2, rn := E.rn } ρ1 else E.nx ρ1
theorem hs_while {body : List Stmt} {wt : WT} {wb : WS} (hp : PassesOwn (model X.prog X.w) X.A X.env X.xe) (hc : PT X c (kT X.K g x wt)) (hb : PSs X body (kS X.K g x wb)) : PS X (.While c body [] pos) (kS X.K g x (wWhile wt wb)) :=
  ps_imp (ps_while hp hc hb) fun De σ H ⟨F, ρ, E, k, h, q⟩ => by
    obtain ⟨W, ⟨m0, w0⟩, turn⟩ := h
    refine ⟨fun m σ' H' => ∃ F' ρ', Ok X.K g F' H' σ' ρ' ∧ Same F F' ∧ W m ρ', ⟨m0, F, ρ, k, Same.refl _, w0⟩, ?_⟩
    rintro m σ' H' ⟨F', ρ', k', s', w'⟩
    refine ⟨F', ρ', _, k', turn m ρ' w', fun b F2 H2 ρ2 k2 s2 h2 => ?_⟩
    cases b with
    | false =>
      rw [if_neg Bool.false_ne_true] at h2 ⊢
      exact q.nx F2 H2 σ' ρ2 k2 (s'.trans s2) h2
    | true =>
      rw [if_pos rfl] at h2 ⊢
      refine ⟨fun σ3 H3 => ∃ m', m' < m ∧ ∃ F3 ρ3, Ok X.K g F3 H3 σ3 ρ3 ∧ Same F F3 ∧ W m' ρ3, fun σ3 H3 ⟨m', hm, F3, ρ3, k3, s3, w3⟩ => ⟨m', hm, F3, ρ3, k3, s3, w3⟩, F2, ρ2, _, k2, h2, ?_⟩
      have s02 := s'.trans s2
      exact ⟨fun F5 H5 σ5 ρ5 k5 s5 ⟨m', hm, h5⟩ => ⟨m', hm, F5, ρ5, k5, s02.trans s5, h5⟩, fun v F5 H5 σ5 d ρ5 k5 s5 p5 h5 => q.rt v F5 H5 σ5 d ρ5 k5 (s02.trans s5) p5 h5,
        fun F5 H5 σ5 ρ5 k5 s5 h5 => q.nx F5 H5 σ5 ρ5 k5 (s02.trans s5) h5, fun F5 H5 σ5 ρ5 k5 s5 ⟨m', hm, h5⟩ => ⟨m', hm, F5, ρ5, k5, s02.trans s5, h5⟩, fun p xs F5 H5 σ5 ds ρ5 k5 s5 n hp hx h5 => q.rn p xs F5 H5 σ5 ds ρ5 k5 (s02.trans s5) n hp hx h5⟩

/-! ### comprehensions -/
/-- the block's own slots are forgotten -/
@[simp] def wipeE (ρ : Env) : List Nat → Env
  | [] => ρ
  | v :: vs => wipeE (ρ.set v .emp) vs
theorem wipe_set (v : Nat) (o : Option V) : ∀ (vs : List Nat) (σ : L2.St), o = none → wipe (σ.set v o) vs = (wipe σ vs).set v o
  | [], σ, _ => rfl
  | u :: vs, σ, e => by
    show (wipe (σ.set v o) vs).set u none = ((wipe σ vs).set u none).set v o
    rw [wipe_set v o vs σ e]
    subst e
    by_cases h : v = u
    · subst h; rfl
    · rw [List.set_comm _ _ h]
theorem ok_wipe {K : PySem.W.Frag} {F H : Hp} : ∀ (vs : List Nat) (σ : L2.St) (ρ : Env), Ok K g F H σ ρ → Ok K g F H (wipe σ vs) (wipeE ρ vs)
  | [], σ, ρ, k => k
  | v :: vs, σ, ρ, k => by
    have q := ok_wipe vs _ _ (k.setE v none)
    rw [wipe_set v none vs σ rfl] at q
    exact q
theorem ok_unwipe {K : PySem.W.Frag} {F H : Hp} (σ : L2.St) : ∀ (vs : List Nat) (ρ : Env), Ok K g F H (wipe σ vs) ρ → Ok K g F H σ (wipeE ρ vs)
  | [], ρ, k => k
  | v :: vs, ρ, k => by
    have k : Ok K g F H ((wipe σ vs).set v none) ρ := k
    cases e : (wipe σ vs)[v]? with
    | none =>
      have e2 : (wipe σ vs).set v none = wipe σ vs := List.set_eq_of_length_le (List.getElem?_eq_none_iff.mp e)
      rw [e2] at k
      have q := k.setE v none
      rw [e2] at q
      exact ok_unwipe σ vs _ q
    | some o =>
      have q := k.setE v o
      rw [List.set_set, set_get e] at q
      exact ok_unwipe σ vs _ q
theorem wipe_get (σ : L2.St) : ∀ (vs : List Nat) (j : Nat), (wipe σ vs)[j]? = if j ∈ vs ∧ j < σ.length then some none else σ[j]?
  | [], j => by simp [wipe]
  | v :: vs, j => by
    show ((wipe σ vs).set v none)[j]? = _
    rw [List.getElem?_set, wipe_get σ vs j, wipe_length]
    by_cases h : v = j
    · subst h
      by_cases h2 : v < σ.length
      · simp [h2]
      · simp [h2]
    · have h' : j ≠ v := fun z => h z.symm
      simp [h, h']
theorem wipe_same {σ σ2 : L2.St} {vs tv : List Nat} (hl : σ2.length = (wipe σ vs).length) (hj : ∀ j, j ∉ tv → σ2[j]? = (wipe σ vs)[j]?) (ht : ∀ j ∈ tv, j ∈ vs) : wipe σ2 vs = wipe σ vs := by
  have hl' : σ2.length = σ.length := by rw [hl, wipe_length]
  apply List.ext_getElem?
  intro j
  rw [wipe_get, wipe_get, hl']
  by_cases h : j ∈ vs ∧ j < σ.length
  · rw [if_pos h, if_pos h]
  · rw [if_neg h, if_neg h]
    by_cases h2 : j ∈ vs
    · have h3 : ¬ j < σ.length := fun z => h ⟨h2, z⟩
      rw [List.getElem?_eq_none_iff.mpr (show σ2.length ≤ j by omega), List.getElem?_eq_none_iff.mpr (show σ.length ≤ j by omega)]
    · rw [hj j (fun z => h2 (ht j z)), wipe_get, if_neg h]
/-- the turns of a comprehension -/
def lcL (wg : WG) (wt : WT) (we : WE) (vs : List Nat) : List D → List D → Env → (List D → Env → Prop) → Prop
  | [], acc, ρ, P => P acc (wipeE ρ vs)
  | d :: ds, acc, ρ, P => wg d ρ fun ρ1 => wt exF ρ1 fun b ρ2 => if b = true then we exF ρ2 fun r ρ3 => acc.length < 100000 ∧ lcL wg wt we vs ds (acc ++ [r]) (wipeE ρ3 vs) P else lcL wg wt we vs ds acc (wipeE ρ2 vs) P
def wLc (wi : WL) (wg : WG) (wt : WT) (we : WE) (vs : List Nat) : WL := fun x ρ P => wi x ρ fun ds ρ1 => lcL wg wt we vs ds [] (wipeE ρ1 vs) P
@[simp] def wYes : WT := fun _ ρ P => P true ρ
theorem hts_nil : PTs X [] (kT X.K g x wYes) := ⟨fun pins s σ H Q I ⟨F, ρ, P, k, h, q⟩ => pts_nil.run pins s σ H Q I (q true F H ρ k (Same.refl _) h)⟩
theorem hts_one {wt : WT} (h : PT X c (kT X.K g x wt)) : PTs X [c] (kT X.K g x wt) := pts_one h
abbrev aE (K : PySem.W.Frag) (w : WE) : TE := fun σ H Q => ∃ g, kE K g exF w σ H Q
abbrev aT (K : PySem.W.Frag) (w : WT) : TT := fun σ H Q => ∃ g, kT K g exF w σ H Q
abbrev aG (K : PySem.W.Frag) (tv : List Nat) (w : WG) : TG := fun v σ H Q => ∃ g, kGt K g tv w v σ H Q
theorem not_owned {K : PySem.W.Frag} {F H F' H' : Hp} {σ σ' : L2.St} {ρ ρ' : Env} {p : Addr} {o : HO} (k : Ok K (gTurn g F H σ ρ p) F' H' σ' ρ') (h : H p = some o) (no : ¬ owned σ ρ p) : ¬ owned σ' ρ' p := fun z => by
  rcases (k.ownB z).1 with q | q
  · have q' : H p = none := q
    rw [h] at q'; cases q'
  · exact no q
theorem kn_lc {K : PySem.W.Frag} {wg : WG} {wt : WT} {we : WE} {vs tv : List Nat} (ht : ∀ j ∈ tv, j ∈ vs) : ∀ σ H Q, kN K g x (wLc wi wg wt we vs) σ H Q → tLc (kI K g x wi) (aG K tv wg) (aT K wt) (aE K we) vs σ H Q :=
  fun σ H Q ⟨F, ρ, P, k, h, q⟩ => ⟨F, ρ, _, k, h, fun J F2 H2 ds ρ2 k2 s2 it h2 Dl hD => by
    have nw := k2.new hD
    have kl := ok_wipe vs σ ρ2 (k2.grow (.lay (o := .lst []) k2.fh hD))
    have no0 : ¬ owned (wipe σ vs) (wipeE ρ2 vs) Dl := fun ⟨j, s, e, os, ev⟩ => ((ok_wipe vs σ ρ2 k2).new hD).no j s e os ev
    refine ⟨fun i m H' => ∃ F' ρ' acc xs, Ok K g F' H' (wipe σ vs) ρ' ∧ Same F2 F' ∧ F' Dl = none ∧ H' Dl = some (.lst xs) ∧ DtAll K F' xs acc ∧ i + m = ds.length ∧ lcL wg wt we vs (ds.drop i) acc ρ' P ∧ ¬ owned (wipe σ vs) ρ' Dl,
      ⟨ds.length, F2, wipeE ρ2 vs, [], [], kl, Same.refl _, nw.nf, upd_same, .nil, by omega, h2, no0⟩, ?_⟩
    rintro i m H' ⟨F', ρ', acc, xs, k', s', nF', eD, pacc, em, h', no'⟩
    obtain ⟨go, stop, yl⟩ := it F' H' s' k'.fh
    cases hd : ds[i]? with
    | none =>
      have hi : ds.length ≤ i := List.getElem?_eq_none_iff.mp hd
      have ei : i = ds.length := by omega
      subst ei
      rw [List.drop_length] at h'
      have kt := ok_unwipe σ vs ρ' (k'.turn nF' eD no')
      obtain ⟨kb, _, _⟩ := k'.back kt no'
      have no2 := not_owned kt eD no'
      exact .inl ⟨stop, q Dl xs F' H' acc _ kb (s2.trans s') ⟨⟨nw.nn, nF', fun j s e os ev => no2 ⟨j, s, e, os, ev⟩⟩, nw.h0⟩ eD pacc h'⟩
    | some d =>
      have hi : i < ds.length := (List.getElem?_eq_some_iff.mp hd).1
      have ed : ds.drop i = d :: ds.drop (i + 1) := by
        rw [List.drop_eq_getElem_cons hi, (List.getElem?_eq_some_iff.mp hd).2]
      rw [ed] at h'
      refine .inr ⟨go i hi, fun H3 => ∃ F3 ρ3 acc3 xs3, Ok K g F3 H3 (wipe σ vs) ρ3 ∧ Same F2 F3 ∧ F3 Dl = none ∧ H3 Dl = some (.lst xs3) ∧ DtAll K F3 xs3 acc3 ∧ lcL wg wt we vs (ds.drop (i + 1)) acc3 ρ3 P ∧ ¬ owned (wipe σ vs) ρ3 Dl,
        fun H3 ⟨F3, ρ3, acc3, xs3, k3, s3, n3, e3, p3, h3, no3⟩ => ⟨m - 1, by omega, F3, ρ3, acc3, xs3, k3, s3, n3, e3, p3, by omega, h3, no3⟩, fun v H3 hy => ?_⟩
      obtain ⟨F3, gr, pv⟩ := yl i d v H3 hd hy
      have k3 := k'.grow gr
      have e3 := gr.hh _ _ eD
      have n3 := gr.nf _ _ nF' eD
      have kt := k3.turn n3 e3 no'
      have s23 : Same F2 F3 := s'.trans gr.ff
      have p3 := dpa_mono gr.ff _ _ pacc
      refine ⟨_, F3, ρ', d, _, kt, pv, h', fun σ4 F4 H4 ρ4 k4 s4 l4 f4 h4 => ?_⟩
      have ew := wipe_same l4 f4 ht
      refine ⟨ew, _, F4, ρ4, _, k4, h4, fun b F5 H5 ρ5 k5 s5 h5 => ?_⟩
      cases b with
      | true =>
        rw [if_pos rfl] at h5 ⊢
        refine ⟨_, F5, ρ5, _, k5, h5, fun r F6 H6 dr ρ6 k6 s6 p6 h6 => ?_⟩
        have kw := ok_wipe vs σ4 ρ6 k6
        rw [ew] at kw
        have no6 := not_owned kw e3 no'
        obtain ⟨kb, ke, kn⟩ := k3.back kw no'
        have s36 : Same F3 F6 := (s4.trans s5).trans s6
        refine ⟨xs, ke _ e3, by rw [dpa_len pacc]; exact Nat.lt_of_lt_of_le h6.1 (by decide), F6, wipeE ρ6 vs, acc ++ [dr], xs ++ [r], kb.lay kn nw.h0 no6 ⟨xs, ke _ e3⟩, s23.trans s36, kn, upd_same, dpa_app (dpa_mono s36 _ _ p3) (dpa_one p6), h6.2, no6⟩
      | false =>
        rw [if_neg Bool.false_ne_true] at h5 ⊢
        have kw := ok_wipe vs σ4 ρ5 k5
        rw [ew] at kw
        have no6 := not_owned kw e3 no'
        obtain ⟨kb, ke, kn⟩ := k3.back kw no'
        have s35 : Same F3 F5 := s4.trans s5
        exact ⟨F5, wipeE ρ5 vs, acc, xs, kb, s23.trans s35, kn, ke _ e3, dpa_mono s35 _ _ p3, h5, no6⟩⟩
theorem pe_any {w : WE} (h : ∀ g, PE X e (kE X.K g exF w)) : PE X e (aE X.K w) := ⟨fun pins s σ H Q I ⟨g, q⟩ => (h g).run pins s σ H Q I q⟩
theorem pts_any {ifs : List Expr} {w : WT} (h : ∀ g, PTs X ifs (kT X.K g exF w)) : PTs X ifs (aT X.K w) := ⟨fun pins s σ H Q I ⟨g, q⟩ => (h g).run pins s σ H Q I q⟩
theorem pg_any {tv : List Nat} {w : WG} (h : ∀ g, PG X e (kGt X.K g tv w)) : PG X e (aG X.K tv w) := ⟨fun pins s σ H v u Q I r ⟨g, q⟩ => (h g).run pins s σ H v u Q I r q⟩
theorem hn_lc {elt : Expr} {ifs : List Expr} {scope : Scope} {own : List (Str × Nat)} {tv : List Nat} {wg : WG} {wt : WT} {we : WE} (hc : X.calm = true) (hN : X.N.Nodup) (hi : PI X tg iter (kI X.K g x wi)) (ok : BlkOk X.N X.env.scope scope own) (ht : ∀ j ∈ tv, j ∈ own.map (·.2))
    (hg : ∀ (s : Shared) (H : Hp) (C : Addr) (cl : List (Str × Addr)) (fp : List Addr) (g : Gd), PG (X.blk s H scope (compEnvC scope cl C X.env) fp) tg (kGt X.K g tv wg)) (hts : ∀ (s : Shared) (H : Hp) (C : Addr) (cl : List (Str × Addr)) (fp : List Addr) (g : Gd), PTs (X.blk s H scope (compEnvC scope cl C X.env) fp) ifs (kT X.K g exF wt))
    (he : ∀ (s : Shared) (H : Hp) (C : Addr) (cl : List (Str × Addr)) (fp : List Addr) (g : Gd), PE (X.blk s H scope (compEnvC scope cl C X.env) fp) elt (kE X.K g exF we)) (hs : ∀ x, foldedSetIterable iter X.env x = pure x := by intro _; rfl) :
    PE X (.ListComp elt [⟨tg, iter, ifs, 0⟩] scope pos) (kN X.K g x (wLc wi wg wt we (own.map (·.2)))) :=
  pe_imp (pe_lc hc hN hi ok (fun s H C cl fp => pg_any (X := X.blk s H scope (compEnvC scope cl C X.env) fp) (hg s H C cl fp)) (fun s H C cl fp => pts_any (X := X.blk s H scope (compEnvC scope cl C X.env) fp) (hts s H C cl fp)) (fun s H C cl fp => pe_any (X := X.blk s H scope (compEnvC scope cl C X.env) fp) (he s H C cl fp)) hs) (kn_lc ht)
/-- y = [..], kept as it is -/
theorem hs_setLc {elt : Expr} {ifs : List Expr} {scope : Scope} {own : List (Str × Nat)} {tv : List Nat} {wg : WG} {wt : WT} {we : WE} {py spos : Pos} (i : Nat) (hc : X.calm = true) (hN : X.N.Nodup) (hsw : swapsWith (.ListComp elt [⟨tg, iter, ifs, 0⟩] scope pos) (some (.Name y py)) spos.line X.env = pure true)
    (hi : PI X tg iter (kI X.K g x wi)) (ok : BlkOk X.N X.env.scope scope own) (ht : ∀ j ∈ tv, j ∈ own.map (·.2))
    (hg : ∀ (s : Shared) (H : Hp) (C : Addr) (cl : List (Str × Addr)) (fp : List Addr) (g : Gd), PG (X.blk s H scope (compEnvC scope cl C X.env) fp) tg (kGt X.K g tv wg)) (hts : ∀ (s : Shared) (H : Hp) (C : Addr) (cl : List (Str × Addr)) (fp : List Addr) (g : Gd), PTs (X.blk s H scope (compEnvC scope cl C X.env) fp) ifs (kT X.K g exF wt))
    (he : ∀ (s : Shared) (H : Hp) (C : Addr) (cl : List (Str × Addr)) (fp : List Addr) (g : Gd), PE (X.blk s H scope (compEnvC scope cl C X.env) fp) elt (kE X.K g exF we)) (hy : X.N[i]? = some y := by rfl) (hyl : X.env.scope.names.lookup y = some .local := by rfl) (hs : ∀ x, foldedSetIterable iter X.env x = pure x := by intro _; rfl) :
    PS X (.Assign [.Name y py] (.ListComp elt [⟨tg, iter, ifs, 0⟩] scope pos) spos) (kS X.K g x (wAsg i (wFrz (wLc wi wg wt we (own.map (·.2)))))) :=
  ps_imp (ps_setLc hc hN hy hyl hsw hi ok (fun s H C cl fp => pg_any (X := X.blk s H scope (compEnvC scope cl C X.env) fp) (hg s H C cl fp)) (fun s H C cl fp => pts_any (X := X.blk s H scope (compEnvC scope cl C X.env) fp) (hts s H C cl fp)) (fun s H C cl fp => pe_any (X := X.blk s H scope (compEnvC scope cl C X.env) fp) (he s H C cl fp)) hs) (ts_asgF (kn_lc ht))
/-- .. the slot's own -/
theorem hs_setLcN {elt : Expr} {ifs : List Expr} {scope : Scope} {own : List (Str × Nat)} {tv : List Nat} {wg : WG} {wt : WT} {we : WE} {py spos : Pos} (i : Nat) (hc : X.calm = true) (hN : X.N.Nodup) (hsw : swapsWith (.ListComp elt [⟨tg, iter, ifs, 0⟩] scope pos) (some (.Name y py)) spos.line X.env = pure true)
    (hi : PI X tg iter (kI X.K g x wi)) (ok : BlkOk X.N X.env.scope scope own) (ht : ∀ j ∈ tv, j ∈ own.map (·.2))
    (hg : ∀ (s : Shared) (H : Hp) (C : Addr) (cl : List (Str × Addr)) (fp : List Addr) (g : Gd), PG (X.blk s H scope (compEnvC scope cl C X.env) fp) tg (kGt X.K g tv wg)) (hts : ∀ (s : Shared) (H : Hp) (C : Addr) (cl : List (Str × Addr)) (fp : List Addr) (g : Gd), PTs (X.blk s H scope (compEnvC scope cl C X.env) fp) ifs (kT X.K g exF wt))
    (he : ∀ (s : Shared) (H : Hp) (C : Addr) (cl : List (Str × Addr)) (fp : List Addr) (g : Gd), PE (X.blk s H scope (compEnvC scope cl C X.env) fp) elt (kE X.K g exF we)) (hy : X.N[i]? = some y := by rfl) (hyl : X.env.scope.names.lookup y = some .local := by rfl) (hs : ∀ x, foldedSetIterable iter X.env x = pure x := by intro _; rfl) :
    PS X (.Assign [.Name y py] (.ListComp elt [⟨tg, iter, ifs, 0⟩] scope pos) spos) (kS X.K g x (wAsgN i (wLc wi wg wt we (own.map (·.2))))) :=
  ps_imp (ps_setLc hc hN hy hyl hsw hi ok (fun s H C cl fp => pg_any (X := X.blk s H scope (compEnvC scope cl C X.env) fp) (hg s H C cl fp)) (fun s H C cl fp => pts_any (X := X.blk s H scope (compEnvC scope cl C X.env) fp) (hts s H C cl fp)) (fun s H C cl fp => pe_any (X := X.blk s H scope (compEnvC scope cl C X.env) fp) (he s H C cl fp)) hs) (ts_asgN (kn_lc ht))
end

/-! ### a def's promise -/
section
variable {P : Program} {w : World} {K : PySem.W.Frag} {mg : Str → Option Value} {base : Heap}
theorem start_okT {F H : Hp} {g : Gd} {T : List (Addr × Str)} (hg : g = ⟨F, H, fun _ => False, fun a => F a = none ∧ ∃ o, H a = some o, 0, T⟩) (fh : Same F H) (ht : LamX.Tabs T H) : ∀ (N : List Str) (vs : List V) (ds : List D), DtAll K F vs ds → Ok K g F H (L2.start N vs) (ds.map .dat ++ List.replicate (N.length - ds.length) .emp) := by
  intro N vs ds p
  subst hg
  have sl : ∀ (vs : List V) (ds : List D), DtAll K F vs ds → ∀ n, Paired (SlOk K ⟨F, H, fun _ => False, fun a => F a = none ∧ ∃ o, H a = some o, 0, T⟩ F H) (vs.map some ++ List.replicate n none) (ds.map Slot.dat ++ List.replicate n .emp) := by
    intro vs ds
    induction ds generalizing vs with
    | nil =>
      intro p n
      cases p
      show Paired _ (List.replicate n none) (List.replicate n Slot.emp)
      induction n with
      | zero => exact .nil
      | succ n ih => exact .cons trivial ih
    | cons d r ih =>
      intro p n
      cases p with
      | cons p1 p2 => exact .cons ⟨_, rfl, p1⟩ (ih _ p2 n)
  have e : L2.start N vs = vs.map some ++ List.replicate (N.length - ds.length) none := by
    unfold L2.start
    rw [dpa_len p]
  rw [e]
  refine ⟨Same.refl _, fh, fun _ _ _ _ h => h, fun a h => ⟨h.1, h.2⟩, fun _ h => h.elim, sl vs ds p _, fun i j s u a _ e1 _ o1 _ _ _ => ?_, fun _ _ h => h, ht⟩
  have := List.mem_of_getElem? e1
  rcases List.mem_append.mp this with z | z
  · obtain ⟨d, _, rfl⟩ := List.mem_map.mp z
    exact o1
  · have := List.eq_of_mem_replicate z
    subst this
    exact o1
theorem start_ok {F H : Hp} {g : Gd} (hg : g = ⟨F, H, fun _ => False, fun a => F a = none ∧ ∃ o, H a = some o, 0, []⟩) (fh : Same F H) : ∀ (N : List Str) (vs : List V) (ds : List D), DtAll K F vs ds → Ok K g F H (L2.start N vs) (ds.map .dat ++ List.replicate (N.length - ds.length) .emp) :=
  start_okT hg fh fun _ h => absurd h List.not_mem_nil
@[simp] def env0 (N : List Str) (ds : List D) : Fz.Env := ds.map .dat ++ List.replicate (N.length - ds.length) .emp
@[simp] def endF (P : D → Prop) : WEnds := { nx := fun _ => P .none, rt := fun d _ => P d }
theorem xok_of {X : Cx} {g : Gd} {ex : EX} {E : XK} (hs : X.stack = X.env :: X.outer) (hf : X.env.frame = some X.env.locals) (hex : X.ex = []) {E₁ : Value → Shared → Prop}
    (hx : X.xe = fun e s' => wpAny (model X.prog X.w) X.A (leaving X.env e) (fun _ s'' => L2.CX X.prog X.w X.outer X.H_0 X.s_0 E e s'') E₁ s')
    (h : ∀ C cn s dd H', X.mg cn = some (.ref C) → (∀ a o, ¬ g.B a → OffT g a → g.H0 a = some o → H' a = some o) → H' dd = some (.xd [(fldOf cn, .str s)]) → ex cn s → E (.ref C) (some dd) H') : XOk X g ex := ⟨E, takes_of hs hf hex hx, h⟩
/-- THE RULE for a def -/
theorem fn_ok {x qual : Str} {params : Arguments} {body : List Stmt} {scope : Scope} {f : Addr} {fd : FuncData} {N ps : List Str} {k : Nat} {sp : PSp} (F : FunD K x qual params body scope [] [] f fd) (S : FnScope N ps scope) (len : ∀ ds P ex, sp ds P ex → ds.length = ps.length)
    (hbody : ∀ (cdv : Value) (A : Around) (outer : List PySem.Env) (s : Shared) (H : Hp) (E : XK) (ds : List D) (Pd : D → Prop) (ex : EX) (g : Gd), Room k (A.deeper (PyProof.Rows.envOfC qual scope s.heap.objs.size f cdv)) → XOk (cxOf (L2.CX P w) P w K mg base N qual scope f cdv A outer s H E) g ex → sp ds Pd ex →
      ∃ wb, PSs (cxOf (L2.CX P w) P w K mg base N qual scope f cdv A outer s H E) body (kS K g ex wb) ∧ wb ex (endF Pd) (env0 N ds)) : FnOk P w K mg base (L2.CX P w) (k + 1) f fd ps (spF K mg sp) := by
  refine F.ok S (fun vs H Q E h => ?_) (fun cdv A outer s H vs Q E hr h => ?_)
  · obtain ⟨F0, ds, Pd, ex, _, pd, h, _⟩ := h
    rw [dpa_len pd]
    exact len ds Pd ex h
  · obtain ⟨F0, ds, Pd, ex, fh, pd, h, hq, he⟩ := h
    obtain ⟨wb, hb, hw⟩ := hbody cdv A outer s H E ds Pd ex ⟨F0, H, fun _ => False, fun a => F0 a = none ∧ ∃ o, H a = some o, 0, []⟩ hr (xok_of rfl rfl rfl rfl fun C cn s dd H' hm h1 h2 h3 => he C cn s dd H' hm (fun b o e => h1 b o (fun z => z) (fun _ => List.not_mem_nil) e) h2 h3) h
    have k0 := start_ok (K := K) rfl fh N vs ds pd
    have gr : ∀ {F2 H2 : Hp} {σ2 : L2.St} {ρ2 : Env}, Ok K ⟨F0, H, fun _ => False, fun a => F0 a = none ∧ ∃ o, H a = some o, 0, []⟩ F2 H2 σ2 ρ2 → Gr F0 H F2 H2 := fun k2 => ⟨k2.f0, k2.fh, fun a o e => k2.keep a o (fun z => z) (fun _ => List.not_mem_nil) e, fun a o h1 h2 => (k2.nf a ⟨h1, o, h2⟩).1, fun a ps z => k2.ft a ps z⟩
    exact ⟨_, hb, F0, _, endF Pd, k0, hw, ⟨fun F2 H2 σ2 ρ2 k2 _ h2 => hq _ F2 H2 _ (gr k2) .non h2, fun v F2 H2 σ2 d ρ2 k2 _ p2 h2 => hq v F2 H2 d (gr k2) p2 h2, fun _ _ _ _ _ _ z => z.elim, fun _ _ _ _ _ _ z => z.elim, fun _ _ _ _ _ _ _ _ _ _ _ _ z => z.elim⟩⟩
/-- .. for a def that hands back a new list -/
theorem fn_okN {x qual : Str} {params : Arguments} {body : List Stmt} {scope : Scope} {f : Addr} {fd : FuncData} {N ps : List Str} {k : Nat} {sp : NSp} (F : FunD K x qual params body scope [] [] f fd) (S : FnScope N ps scope) (len : ∀ ds P, sp ds P → ds.length = ps.length)
    (hbody : ∀ (cdv : Value) (A : Around) (outer : List PySem.Env) (s : Shared) (H : Hp) (E : XK) (ds : List D) (Pd : List D → Prop) (g : Gd), Room k (A.deeper (PyProof.Rows.envOfC qual scope s.heap.objs.size f cdv)) → sp ds Pd →
      ∃ wb, PSs (cxOf (L2.CX P w) P w K mg base N qual scope f cdv A outer s H E) body (kS K g exF wb) ∧ wb exF { nx := fun _ => False, rt := fun _ _ => False, rn := fun es _ => Pd es } (env0 N ds)) : FnOk P w K mg base (L2.CX P w) (k + 1) f fd ps (spN K sp) := by
  refine F.ok S (fun vs H Q E h => ?_) (fun cdv A outer s H vs Q E hr h => ?_)
  · obtain ⟨F0, ds, Pd, _, pd, h, _⟩ := h
    rw [dpa_len pd]
    exact len ds Pd h
  · obtain ⟨F0, ds, Pd, fh, pd, h, hq⟩ := h
    obtain ⟨wb, hb, hw⟩ := hbody cdv A outer s H E ds Pd ⟨F0, H, fun _ => False, fun a => F0 a = none ∧ ∃ o, H a = some o, 0, []⟩ hr h
    have k0 := start_ok (K := K) rfl fh N vs ds pd
    have gr : ∀ {F2 H2 : Hp} {σ2 : L2.St} {ρ2 : Env}, Ok K ⟨F0, H, fun _ => False, fun a => F0 a = none ∧ ∃ o, H a = some o, 0, []⟩ F2 H2 σ2 ρ2 → Gr F0 H F2 H2 := fun k2 => ⟨k2.f0, k2.fh, fun a o e => k2.keep a o (fun z => z) (fun _ => List.not_mem_nil) e, fun a o h1 h2 => (k2.nf a ⟨h1, o, h2⟩).1, fun a ps z => k2.ft a ps z⟩
    exact ⟨_, hb, F0, _, _, k0, hw, ⟨fun _ _ _ _ _ _ z => z.elim, fun _ _ _ _ _ _ _ _ _ z => z.elim, fun _ _ _ _ _ _ z => z.elim, fun _ _ _ _ _ _ z => z.elim, fun p xs F2 H2 σ2 es ρ2 k2 _ n hp hx h2 => hq p xs F2 H2 es (gr k2) n.nf n.h0 hp hx h2⟩⟩
/-- .. for a def that changes the list which it is given first -/
@[simp] def envB (N : List Str) (cs : List D) (ds : List D) : Fz.Env := .bor cs :: (ds.map .dat ++ List.replicate (N.length - 1 - ds.length) .emp)
@[simp] def borAt (ρ : List Fz.Slot) (P : List D → Prop) : Prop := match ρ with
  | Fz.Slot.bor es :: _ => P es
  | _ => False
@[simp] def endB (P : D → List D → Prop) : WEnds := { nx := fun ρ => borAt ρ (P .none), rt := fun d ρ => borAt ρ (P d) }
theorem fn_okB {x qual : Str} {params : Arguments} {body : List Stmt} {scope : Scope} {f : Addr} {fd : FuncData} {N ps : List Str} {k : Nat} {sp : BSp} (F : FunD K x qual params body scope [] [] f fd) (S : FnScope N ps scope) (hN : N ≠ []) (len : ∀ cs ds P, sp cs ds P → ds.length + 1 = ps.length)
    (hbody : ∀ (cdv : Value) (A : Around) (outer : List PySem.Env) (s : Shared) (H : Hp) (E : XK) (cs ds : List D) (Pd : D → List D → Prop) (g : Gd), Room k (A.deeper (PyProof.Rows.envOfC qual scope s.heap.objs.size f cdv)) → sp cs ds Pd →
      ∃ wb, PSs (cxOf (L2.CX P w) P w K mg base N qual scope f cdv A outer s H E) body (kS K g exF wb) ∧ wb exF (endB Pd) (envB N cs ds)) : FnOk P w K mg base (L2.CX P w) (k + 1) f fd ps (spB K sp) := by
  refine F.ok S (fun vs H Q E h => ?_) (fun cdv A outer s H vs Q E hr h => ?_)
  · obtain ⟨F0, a, xs, rest, cs, ds, Pd, rfl, _, _, _, _, pd, h, _⟩ := h
    rw [List.length_cons, dpa_len pd]
    exact len cs ds Pd h
  · obtain ⟨F0, a, xs, rest, cs, ds, Pd, rfl, fh, fa, ha, pc, pd, h, hq⟩ := h
    obtain ⟨g, eg⟩ : ∃ g : Gd, g = ⟨F0, H, fun b => b = a, fun b => F0 b = none ∧ ∃ o, H b = some o, a, []⟩ := ⟨_, rfl⟩
    obtain ⟨wb, hb, hw⟩ := hbody cdv A outer s H E cs ds Pd g hr h
    obtain ⟨n, en⟩ : ∃ n, N.length = n + 1 := by
      cases N with
      | nil => exact absurd rfl hN
      | cons z r => exact ⟨r.length, rfl⟩
    have sl : ∀ (vs : List V) (ds : List D), DtAll K F0 vs ds → ∀ n, Paired (SlOk K g F0 H) (vs.map some ++ List.replicate n none) (ds.map Slot.dat ++ List.replicate n .emp) := by
      intro vs ds
      induction ds generalizing vs with
      | nil =>
        intro p n
        cases p
        show Paired _ (List.replicate n none) (List.replicate n Slot.emp)
        induction n with
        | zero => exact .nil
        | succ n ih => exact .cons trivial ih
      | cons d r ih =>
        intro p n
        cases p with
        | cons p1 p2 => exact .cons ⟨_, rfl, p1⟩ (ih _ p2 n)
    have e : L2.start N (.ref a :: rest) = some (.ref a) :: (rest.map some ++ List.replicate (N.length - 1 - ds.length) none) := by
      unfold L2.start
      rw [List.map_cons, List.cons_append, List.length_cons, dpa_len pd, show N.length - (ds.length + 1) = N.length - 1 - ds.length from by omega]
    have noown : ∀ (j : Nat) (s : Slot), (ds.map Slot.dat ++ List.replicate (N.length - 1 - ds.length) Slot.emp)[j]? = some s → ¬ Own s := fun j s e o => by
      rcases List.mem_append.mp (List.mem_of_getElem? e) with z | z
      · obtain ⟨d, _, rfl⟩ := List.mem_map.mp z
        exact o
      · have := List.eq_of_mem_replicate z
        subst this
        exact o
    have k0 : Ok K g F0 H (L2.start N (.ref a :: rest)) (envB N cs ds) := by
      rw [e]
      subst eg
      refine ⟨Same.refl _, fh, fun _ _ _ _ h => h, fun b h => ⟨h.1, h.2⟩, fun b h => by rw [h]; exact ⟨xs, ha⟩, .cons ⟨a, rfl, ⟨rfl, .inr rfl⟩, fa, xs, ha, pc⟩ (sl rest ds pd _), fun i j s u b hij e1 e2 o1 o2 _ _ => ?_, fun _ _ h => h, fun _ h => absurd h List.not_mem_nil⟩
      cases i with
      | zero =>
        cases j with
        | zero => exact hij rfl
        | succ j => exact noown j u (by simpa [envB] using e2) o2
      | succ i => exact noown i s (by simpa [envB] using e1) o1
    have fin : ∀ {F2 H2 : Hp} {σ2 : L2.St} {ρ2 : Env} {v : V} {d : D}, Ok K g F2 H2 σ2 ρ2 → Dt K F2 v d → borAt ρ2 (Pd d) → Q v H2 := fun {F2 H2 σ2 ρ2 v d} k2 pv h2 => by
      cases ρ2 with
      | nil => exact h2.elim
      | cons sl r =>
        cases sl with
        | bor es =>
          obtain ⟨v2, _, b, _, hb, hF, ys, hH, hp⟩ := slot_at (i := 0) k2 rfl
          have eb : b = a := by rw [hb.1, eg]
          subst eb
          subst eg
          exact hq v F2 H2 d ys es ⟨k2.f0, k2.fh, fun c o hc e => k2.keep c o hc (fun _ => List.not_mem_nil) e, fun c o h1 h2 => (k2.nf c ⟨h1, o, h2⟩).1, fun c ps z => k2.ft c ps z⟩ pv hH hp h2
        | _ => exact h2.elim
    exact ⟨_, hb, F0, _, endB Pd, k0, hw, ⟨fun F2 H2 σ2 ρ2 k2 _ h2 => fin k2 .non h2, fun v F2 H2 σ2 d ρ2 k2 _ p2 h2 => fin k2 p2 h2, fun _ _ _ _ _ _ z => z.elim, fun _ _ _ _ _ _ z => z.elim, fun _ _ _ _ _ _ _ _ _ _ _ _ z => z.elim⟩⟩
end

/-! ### defs by their names -/
/-- a def as it stands behind the top -/
def TopD (K : PySem.W.Frag) (mg : Str → Option Value) (y : Str) (st : Stmt) : Prop := ∃ f fd, FunD K y y (defArgs st) (defBody st) (defScope st) [] [] f fd ∧ mg y = some (.ref f)
/-- it is called by its name and keeps its promise -/
structure Cal (P : Program) (w : World) (K : PySem.W.Frag) (mg : Str → Option Value) (base : Heap) (y : Str) (k : Nat) (ps : List Str) (sp : Sp) : Prop where
  ex : ∃ f fd, FnOk P w K mg base (L2.CX P w) k f fd ps sp ∧ mg y = some (.ref f) ∧ PySem.W.keepIn K (.ref f) = true ∧ Binds K fd ps []
structure CalK (P : Program) (w : World) (K : PySem.W.Frag) (mg : Str → Option Value) (base : Heap) (y : Str) (k : Nat) (ps ks : List Str) (ix : List Nat) (sp : Sp) : Prop where
  ex : ∃ f fd, FnOk P w K mg base (L2.CX P w) k f fd ps sp ∧ mg y = some (.ref f) ∧ PySem.W.keepIn K (.ref f) = true ∧ KBn K fd ps 0 ks (fun _ zs => perm ix zs) (fun _ zs => perm ix zs)
section
variable {P : Program} {w : World} {K : PySem.W.Frag} {mg : Str → Option Value} {base : Heap} {y : Str} {st : Stmt} {N ps ks : List Str} {ix : List Nat} {k : Nat} {sp : PSp} {sb : BSp} {sn : NSp} {sq : Sp}
theorem cal_of (t : TopD K mg y st) (h : ∀ {f : Addr} {fd : FuncData}, FunD K y y (defArgs st) (defBody st) (defScope st) [] [] f fd → FnOk P w K mg base (L2.CX P w) k f fd ps sq)
    (hb : ∀ (kV doc pm : Value) (an : Option Addr) (cdv ct : Value) (us : List Value), us.length = ps.length → bindArgs (PySem.W.fnOf y y (defArgs st) (defBody st) (defScope st) .none kV doc pm an cdv ct) ⟨us, []⟩ = pure (ps.zip us)) : Cal P w K mg base y k ps sq := by
  obtain ⟨f, fd, F, hm⟩ := t
  exact ⟨f, fd, h F, hm, F.kp, F.bindsN hb⟩
theorem calK_of (t : TopD K mg y st) (h : ∀ {f : Addr} {fd : FuncData}, FunD K y y (defArgs st) (defBody st) (defScope st) [] [] f fd → FnOk P w K mg base (L2.CX P w) k f fd ps sq)
    (hb : ∀ (kV doc pm : Value) (an : Option Addr) (cdv ct : Value) (us : List Value), us.length = ks.length → bindArgs (PySem.W.fnOf y y (defArgs st) (defBody st) (defScope st) .none kV doc pm an cdv ct) ⟨[], ks.zip us⟩ = pure (ps.zip (perm ix us))) : CalK P w K mg base y k ps ks ix sq := by
  obtain ⟨f, fd, F, hm⟩ := t
  have h := h F
  have hk := F.kp
  obtain ⟨oc, od, dV, kV, doc, pm, an, cdv, ct, osl, rfl, lk, hcd, hD, hK⟩ := F.ex
  rcases hD with ⟨_, rfl⟩ | ⟨e, _⟩
  · exact ⟨f, _, h, hm, hk, ⟨fun s us ws X l1 l2 => .of_eq (by
      have e0 : us = [] := List.eq_nil_of_length_eq_zero l1
      subst e0
      exact hb kV doc pm an cdv ct ws l2), fun _ r => vals_perm r ix⟩⟩
  · exact absurd rfl e
end
section
variable {X : Cx} {g : Gd} {x : EX} {e : Expr} {es : List Expr} {ws : WL} {pos p : Pos} {y : Str} {k : Nat} {ps ks : List Str} {ix : List Nat} {sp : PSp} {sb : BSp} {sn : NSp}
theorem hc_call (c : Cal X.prog X.w X.K X.mg X.base y k ps (spF X.K X.mg sp)) (hr : Room k X.A) (hx : XOk X g x) (ha : PA X (e :: es) (kA X.K g x ws)) (hg : Gl X y := by rfl)
    (hdb : (y == ("__debug__" : Str)) = false := by decide) (he : starEach (e :: es) X.env = (false, eval e X.env) :: starEach es X.env := by rfl) (hpl : (backTo pos (starEach es X.env)).any (·.1) = false := by rfl) : PE X (.Call (.Name y p) (e :: es) [] pos) (kE X.K g x (wCall sp ws)) := by
  obtain ⟨f, fd, h, hm, hk, hb⟩ := c.ex
  exact he_call h hr hm hk hb hx ha hg hdb he hpl
theorem hc_callK {kws : List Keyword} (c : CalK X.prog X.w X.K X.mg X.base y k ps ks ix (spF X.K X.mg sp)) (hr : Room k X.A) (hx : XOk X g x) (ha : PK X kws (kA X.K g x ws)) (hg : Gl X y := by rfl) (hall : (backToKw pos (keywordEach kws X.env)).all (·.1.isSome) = true := by rfl) (hks : (backToKw pos (keywordEach kws X.env)).filterMap (·.1) = ks := by rfl)
    (hdb : (y == ("__debug__" : Str)) = false := by decide) (hpl : ((backTo pos (starEach [] X.env)).any (·.1) || (backToKw pos (keywordEach kws X.env)).any (·.1.isNone)) = false := by rfl) : PE X (.Call (.Name y p) [] kws pos) (kE X.K g x (wCallK sp ks.length ix ws)) := by
  obtain ⟨f, fd, h, hm, hk, hb⟩ := c.ex
  exact he_callK h hr hm hk hb hx ha hg hall hks hdb hpl
theorem hc_callB {z : Str} {pz : Pos} (i : Nat) (c : Cal X.prog X.w X.K X.mg X.base y k ps (spB X.K sb)) (hr : Room k X.A) (ha : PA X es (kA X.K g x ws))
    (hN : X.N[i]? = some z := by rfl) (hv : Vis X.env.scope z := by first | exact Or.inl rfl | exact Or.inr (Or.inl rfl) | exact Or.inr (Or.inr rfl)) (hd : (z == ("__debug__" : Str)) = false := by decide) (hcd : (z == ("__classdict__" : Str)) = false := by decide) (hg : Gl X y := by rfl)
    (hdb : (y == ("__debug__" : Str)) = false := by decide) (he : starEach (.Name z pz :: es) X.env = (false, eval (.Name z pz) X.env) :: starEach es X.env := by rfl) (hpl : (backTo pos (starEach es X.env)).any (·.1) = false := by rfl) : PE X (.Call (.Name y p) (.Name z pz :: es) [] pos) (kE X.K g x (wCallB sb i ws)) := by
  obtain ⟨f, fd, h, hm, hk, hb⟩ := c.ex
  exact he_callB (v0 := .Name z pz) i h hr hm hk hb ha hN hv hd hcd hg hdb he hpl
theorem hcn_call (c : Cal X.prog X.w X.K X.mg X.base y k ps (spN X.K sn)) (hr : Room k X.A) (ha : PA X (e :: es) (kA X.K g x ws)) (hg : Gl X y := by rfl)
    (hdb : (y == ("__debug__" : Str)) = false := by decide) (he : starEach (e :: es) X.env = (false, eval e X.env) :: starEach es X.env := by rfl) (hpl : (backTo pos (starEach es X.env)).any (·.1) = false := by rfl) : PE X (.Call (.Name y p) (e :: es) [] pos) (kN X.K g x (wCallN sn ws)) := by
  obtain ⟨f, fd, h, hm, hk, hb⟩ := c.ex
  exact hn_call h hr hm hk hb ha hg hdb he hpl
end
end Fz

set_option maxRecDepth 100000
set_option maxHeartbeats 2000000
/-! F8: an error of the program (super().__init__(x); self.f = x): made, raised; a def that catches it. -/
namespace Fz
open PySem PySem.Spec L2
open PySem.W (ksFn ksEnv ks_superObj ks_superIn ks_newsPush)
/-- the text of __init__ -/
def initA (p1 p2 : Pos) (fl : Str) : Arguments := { posonlyargs := [], args := [{ arg := "self", annotation := none, pos := p1 }, { arg := fl, annotation := none, pos := p2 }], vararg := none, kwonlyargs := [], kw_defaults := [], kwarg := none, defaults := [] }
def initB (q1 q2 q3 q4 q5 q6 r1 r2 r3 r4 : Pos) (fl : Str) : List Stmt :=
  [.Expr (.Call (.Attribute (.Call (.Name "super" q1) [] [] q2) "__init__" q3) [.Name fl q4] [] q5) q6, .Assign [.Attribute (.Name "self" r1) fl r2] (.Name fl r3) r4]
def scI (sn : List (Str × NameKind)) : Scope := { kind := .function, names := sn, isGenerator := false, isCoroutine := false, more := [] }
/-- what super().__init__(x) says as a call of a method -/
def SupCall (q : Str) (sc : Scope) (L fI cda cc : Addr) (q1 q2 q3 q4 q5 : Pos) (fl : Str) (pl : Sem Bool) : Prop :=
  eval (.Call (.Attribute (.Call (.Name "super" q1) [] [] q2) "__init__" q3) [.Name fl q4] [] q5) (ksEnv q sc L fI (.ref cda) cc) = (do
    let bs ← attributeBase (.Call (.Name "super" q1) [] [] q2) "__init__" (ksEnv q sc L fI (.ref cda) cc) (eval (.Call (.Name "super" q1) [] [] q2) (ksEnv q sc L fI (.ref cda) cc))
    standAt q3.atName
    let (mt, own) ← holding [bs] (getMethod bs "__init__" pl)
    callWith q5 mt own (backTo q5 (starEach [.Name fl q4] (ksEnv q sc L fI (.ref cda) cc))) [])
structure ErrTxt (P : Program) (K : PySem.W.Frag) (mg : Str → Option Value) (cn : Str) (C fI cc cda : Addr) : Prop where
  gC : mg cn = some (.ref C)
  gS : mg "super" = none
  cls : ∃ nm q N bs bm sn sub ab col dd k0 k1 k2 k3 k5, K.lookup C = some (excClassObj nm q C N bs bm true sn sub ab col dd k0 k1 k2 k3 k5 "ValueError.__new__") ∧ HandSPX.refsVE bm = true
  sa : PySem.W.findIn K (.ref C) "__setattr__" = some (some (.builtin "object.__setattr__"))
  ga : PySem.W.findIn K (.ref C) "__getattribute__" = some (some (.builtin "BaseException.__getattribute__"))
  gg : PySem.W.findIn K (.ref C) "__getattr__" = some none
  noN : PySem.W.findIn K (.ref C) (fldOf cn) = some none
  iC : PySem.W.findIn K (.ref C) "__init__" = some (some (.ref fI))
  tC : PySem.W.typeIn K (.ref fI) = some (.type "function")
  kC : PySem.W.keepIn K (.ref C) = true
  exC : PySem.W.subIn K (.ref C) (.type "BaseException") = some true
  veC : PySem.W.subIn K (.ref C) (.type "ValueError") = some true
  tyC : PySem.W.typeIn K (.ref C) = some (.type "type")
  hdC : PySem.W.hasDictIn K C = true
  te : PySem.W.exmOne K (.ref C) (.ref C) = some true
  opq : PySem.W.nsIn K cStatics "thirdparty.any" = some none
  sup : ks_superIn K C C "__init__" = some (some (.builtin "ValueError.__init__"))
  ini : PySem.W.excInitIn K C [.type "ValueError", .type "Exception", .type "BaseException", .type "object"] "ValueError.__new__" = true
  mro : PySem.W.mroIn K C (.ref C) = some true
  cel : ∃ cl cld csl, K.lookup cc = some ⟨cl, cld, .cell (some (.ref C)), csl⟩
  cod : ∃ ccl cdd vs ccs file tf, K.lookup cda = some ⟨ccl, cdd, .fields vs, ccs⟩ ∧ vs[2]? = some (.str file tf) ∧ ((P.main.file : Str) == file) = true
  top : (P.main.scope.names.lookup ("super" : Str)).isSome = false
  fn : ∃ (q : Str) (sn : List (Str × NameKind)) (oc : Value) (od : Option Addr) (doc pm : Value) (an : Option Addr) (ct : Value) (osl : Array (Option Value)) (p1 p2 q1 q2 q3 q4 q5 q6 r1 r2 r3 r4 : Pos),
    K.lookup fI = some ⟨oc, od, .func (ksFn "__init__" q (initA p1 p2 (fldOf cn)) (initB q1 q2 q3 q4 q5 q6 r1 r2 r3 r4 (fldOf cn)) (scI sn) .none .none doc pm an (.ref cda) ct cc), osl⟩ ∧ PySem.W.codeIn K (.ref cda) q = true ∧
    sn.lookup ("super" : Str) = some .globalImplicit ∧ sn.lookup ("__class__" : Str) = some .free ∧ sn.lookup ("self" : Str) = some .local ∧ sn.lookup (fldOf cn) = some .local ∧ (∀ z ∈ sn, z.2 ≠ .cell) ∧
    ∃ pl : Sem Bool, ∀ L : Addr, SupCall q (scI sn) L fI cda cc q1 q2 q3 q4 q5 (fldOf cn) pl
theorem fld_ne (cn : Str) : fldOf cn ≠ "self" ∧ (fldOf cn == ("__debug__" : Str)) = false ∧ fldOf cn ≠ "super" ∧ fldOf cn ≠ "__class__" := by
  unfold fldOf
  split <;> decide
theorem one_line (v : Value) : [v].length ≤ sizeLine := line_of (by show 1 ≤ 100000; omega)
/-- what __init__ leaves -/
structure ErrEnd (fl : Str) (h h' : Heap) (x C dx t1 : Addr) (v : Value) : Prop where
  keep : ∀ b o, h.get? b = some o → h'.get? b = some o
  obj : h'.get? x = some { cls := .ref C, dict := some dx, data := .fields #[.ref t1, .none, .none, .none, .bool false, .none] }
  dbig : h.objs.size ≤ dx
  dne : dx ≠ x
  ns : h'.Ns1 dx (fun y => if y = fl then some v else none)
open PySem.W PySem.Calls PyProof.Rows PySem.HandSPX in
theorem ldQ {M : Model} {s : Shared} {env : PySem.Env} {m : Str → Option Value} {x : Str} {pos : Pos} {v : Value} {Q : Value → Shared → Prop} {A : Around} {E : Value → Shared → Prop} (hn : s.heap.Ns env.locals m) (hv : m x = some v) (h : Q v s)
    (hk : env.scope.kind = .function) (hl : env.kindOf x = some .local) (hd : (x == ("__debug__" : Str)) = false) :
    wpAny M A (eval (.Name x pos) env) Q E s := wpAny_Name (wpAny_loadName_local hk hl hn hv h) hd
section
open PySem.W PySem.Calls PyProof.Rows PySem.HandSPX
variable {prog : Program} {w : World} {A : Around} {E : Value → Shared → Prop} {R : Result → Shared → Prop} {s : Shared} {K : Frag} {mg mb : Str → Option Value} {cn : Str} {C fI cc cda : Addr}
theorem err_init (T : ErrTxt prog K mg cn C fI cc cda) {hp : Heap} {x t0 : Addr} {v : Value} (X : K.In hp) (G : hp.Ns mainGlobals mg) (Gb : hp.Ns builtinsNs mb) (hb : mb "super" = some (.type "super")) (kp : ∀ b o, hp.get? b = some o → s.heap.get? b = some o) (hsz : hp.objs.size ≤ s.heap.objs.size)
    (hlim : s.heap.NoLimit) (hx : s.heap.get? x = some (excO C t0)) (hnx : hp.get? x = none) (hroom : A.depth < recursionLimit)
    (hq : ∀ h' tk dx t1, ErrEnd (fldOf cn) hp h' x C dx t1 v → R (.ok (.ret .none)) { s with heap := h', toks := tk }) :
    codeAny (model prog w) A (.call (.ref fI) ⟨[.ref x, v], []⟩) R s := by
  obtain ⟨q, snm, oc, od, doc, pm, an, ct, osl, p1, p2, q1, q2, q3, q4, q5, q6, r1, r2, r3, r4, ho, hcd, n1, n2, n3, n4, n6, pl, hpl⟩ := T.fn
  obtain ⟨nm, qn, N, bs, bm, sn, sub, ab, col, dd, k0, k1, k2, k3, k5, hC, hbm⟩ := T.cls
  obtain ⟨cl, cld, csl, hcell⟩ := T.cel
  obtain ⟨ccl, cdd, vs, ccs, file, tf, hcode, hvs, hfile⟩ := T.cod
  obtain ⟨f1, f2, f3, f4⟩ := fld_ne cn
  have hcl : clsIn K C = some { name := nm, bases := bs, mro := .ref C :: bm, ns := N, qualname := qn, hasDict := true, slotNames := sn, subclasses := sub, abstract := ab, collection := col, hasDel := false } := by unfold clsIn; rw [hC] <;> rfl
  have XS : K.In s.heap := X.keeps kp
  refine ks_codeAny_call_defAt (fd := ksFn "__init__" q (initA p1 p2 (fldOf cn)) (initB q1 q2 q3 q4 q5 q6 r1 r2 r3 r4 (fldOf cn)) (scI snm) .none .none doc pm an (.ref cda) ct cc) (body := initB q1 q2 q3 q4 q5 q6 r1 r2 r3 r4 (fldOf cn))
    (binds := [("self", .ref x), (fldOf cn, v)]) hroom (XS _ _ ho) rfl hlim (codeRec_of XS hcd) rfl (BindsTo.of_eq ?_) n6 ?_ (fun h₁ hn k => ?_) rfl rfl rfl
  · unfold fldOf
    split <;> rfl
  · intro z hz
    rcases List.mem_cons.mp hz with rfl | hz
    · exact n3
    · rcases List.mem_cons.mp hz with rfl | hz
      · exact n4
      · exact absurd hz List.not_mem_nil
  have hxL : s.heap.objs.size ≠ x := Nat.ne_of_gt (Heap.lt_size hx)
  have FR : Fr hp s.heap.objs.size h₁ (fun y => [(("self" : Str), Value.ref x), (fldOf cn, v)].reverse.lookup y) := ⟨hn, fun b o e => k b o (kp b o e), hsz⟩
  have NW : News hp s.heap.objs.size h₁ [(x, PySem.W.excObj C t0 none .none)] := fun p hp' => by
    rcases List.mem_cons.mp hp' with rfl | z
    · exact ⟨k _ _ hx, fun z => hxL z.symm, hnx⟩
    · exact absurd z List.not_mem_nil
  have lself : [(("self" : Str), Value.ref x), (fldOf cn, v)].reverse.lookup ("self" : Str) = some (.ref x) := by
    have e : (("self" : Str) == fldOf cn) = false := by simpa using fun z => f1 z.symm
    simp [List.lookup, e]
  have lfld : [(("self" : Str), Value.ref x), (fldOf cn, v)].reverse.lookup (fldOf cn) = some v := by simp [List.lookup]
  show _root_.PySem.wpAt _ _ _ (execs (_ :: _) (ksEnv q (scI snm) s.heap.objs.size fI (.ref cda) cc)) _ _ _
  refine ks_wpAt_execs_cons (ks_wpAt_Expr_any (ks_wpAt_MethodCall (pl := pl) ?_ (hpl _)))
  have X₁ : K.In h₁ := X.keeps FR.keep
  have I0 : InstAt h₁ x (PySem.W.excObj C t0 none .none) C none := InstAt.of_exc0 NW List.mem_cons_self
  refine ks_wpAt_super_base (env := ksEnv q (scI snm) s.heap.objs.size fI (.ref cda) cc) (ar := { arg := "self", annotation := none, pos := p1 }) n1 n2 (by decide) rfl (X₁ _ _ ho) rfl rfl rfl (X₁ _ _ hcode) rfl hvs hfile T.top ?_
  refine ks_loadName_global rfl n1 (loadGlobal_builtin (env := ksEnv q (scI snm) s.heap.objs.size fI (.ref cda) cc) (G.keeps FR.keep) T.gS (Gb.keeps FR.keep) hb ⟨rfl, ?_⟩)
  refine wpAny_loadName_free rfl n2 rfl ⟨_, X₁ _ _ hcell, rfl⟩ ?_
  refine wpAny_loadName_local rfl n3 FR.ns lself ?_
  refine ks_wpAny_isType_cls (X₁ _ _ hC) rfl ⟨rfl, ?_⟩
  refine ks_wpAny_call_super (X₁ _ _ hC) rfl I0.at_ I0.cls (fun c e => by cases e) (looks_mroIn X₁ T.mro) (fun h2 e2 kk => ?_)
  obtain ⟨F2, N2, l2⟩ := ks_newsPush (s := { s with heap := h₁, toks := s.toks + [(("self" : Str), Value.ref x), (fldOf cn, v)].length }) FR NW rfl e2 kk
  have I2 := InstAt.of_exc0 (t := t0) (c2 := Value.none) N2 (List.mem_cons_of_mem _ List.mem_cons_self)
  refine kxs_method kxs_ValueError F2 X N2 List.mem_cons_self I2 T.opq T.sup T.veC (by decide) (fun u h3 F3 N3 l3 => ?_)
  refine kxs_callWith1 N3 List.mem_cons_self ?_
  refine Calls.spliced_cons (ldQ F3.ns lfld (Calls.spliced_nil ⟨kxs_at N3 List.mem_cons_self, ?_⟩) rfl n4 f2)
  have ul : ∀ p ∈ ([(h₁.objs.size, ks_superObj C x C), (x, PySem.W.excObj C t0 none .none)] : List (Addr × Obj)), p.1 < u := l3
  have hs1 : x ≠ h₁.objs.size := Nat.ne_of_lt (l2 _ List.mem_cons_self)
  have hu : x ≠ u := Nat.ne_of_lt (ul _ (List.mem_cons_of_mem _ List.mem_cons_self))
  refine kxs_call F3 X N3 F.excBase_ValueError T.ini List.mem_cons_self (UpdF.tail hu.symm (UpdF.tail hs1.symm (UpdF.head fun p z => absurd z List.not_mem_nil))) (one_line v) (fun t' h4 F4 N4 l4 => ?_)
  show _root_.PySem.wpAt _ _ _ (execs (_ :: _) (ksEnv q (scI snm) s.heap.objs.size fI (.ref cda) cc)) _ _ _
  refine wpAt_of_wpAny (wpAny_execs_cons (plainObj_wpAny_Assign_Attribute ?_))
  refine ldQ F4.ns lfld (ldQ F4.ns lself ?_ rfl n3 (by decide)) rfl n4 f2
  have X4 : K.In h4 := X.keeps F4.keep
  have m4 : (x, PySem.W.excObj C t' none .none) ∈ ((t', PySem.W.excTup [v]) :: (u, kxs_mw "ValueError.__init__" x) :: (h₁.objs.size, ks_superObj C x C) :: [(x, PySem.W.excObj C t' none .none)] : List (Addr × Obj)) := by simp
  have hx4 := (N4 _ m4).1
  refine set_plain X4 (InstAt.of_exc0 N4 m4) T.sa ?_
  refine exc_osa X4 hx4 hcl (show refsVE (.ref C :: bm) = true from hbm) rfl T.noN (fun h5 tk5 dx k5' dn dne hx5 hn5 => ?_)
  show wpAny _ _ (execs [] (ksEnv q (scI snm) s.heap.objs.size fI (.ref cda) cc)) _ _ _
  refine wpAny_execs_nil (hq h5 tk5 dx t' ⟨fun b o e => k5' b o (fun z => by rw [z, hnx] at e; cases e) (F4.keep b o e), hx5, ?_, dne, hn5⟩)
  have z := F4.ns.lt
  exact Nat.le_of_lt (Nat.lt_of_le_of_lt hsz (Nat.lt_of_lt_of_le z dn))
/-- an error that was made -/
structure ErrMade (fl : Str) (h h' : Heap) (e C d : Addr) (v : Value) : Prop where
  keep : ∀ b o, h.get? b = some o → h'.get? b = some o
  new : h.objs.size ≤ e
  obj : ∃ oe vs, h'.get? e = some oe ∧ oe.cls = .ref C ∧ oe.dict = some d ∧ oe.data = .fields vs ∧ vs[1]? = some .none
  dbig : h.objs.size ≤ d
  dne : d ≠ e
  ns : h'.Ns1 d (fun y => if y = fl then some v else none)
theorem err_made (T : ErrTxt prog K mg cn C fI cc cda) {v : Value} (X : K.In s.heap) (G : s.heap.Ns mainGlobals mg) (Gb : s.heap.Ns builtinsNs mb) (hb : mb "super" = some (.type "super")) (hlim : s.heap.NoLimit) (hroom : A.depth + 1 < recursionLimit)
    (hq : ∀ h' tk e d, ErrMade (fldOf cn) s.heap h' e C d v → R (.ok (.ret (.ref e))) { s with heap := h', toks := tk }) : codeAny (model prog w) A (.call (.ref C) ⟨[v], []⟩) R s := by
  obtain ⟨nm, q, N, bs, bm, sn, sub, ab, col, dd, k0, k1, k2, k3, k5, hC, hbm⟩ := T.cls
  obtain ⟨h0, g0, d0, t0, o0⟩ := s
  have keep2 : ∀ b o, h0.get? b = some o → ((h0.push (kdv_tup [v])).push (excO C h0.objs.size)).get? b = some o := fun b o e => Heap.get?_push_of_some _ (Heap.get?_push_of_some _ e)
  have isE : ((h0.push (kdv_tup [v])).push (excO C h0.objs.size)).get? (h0.objs.size + 1) = some (excO C h0.objs.size) := by heap_get
  have noE : h0.get? (h0.objs.size + 1) = none := Heap.get?_none_of_le (Nat.le_add_right _ _)
  have big : h0.objs.size ≤ ((h0.push (kdv_tup [v])).push (excO C h0.objs.size)).objs.size := by
    rw [Heap.size_push, Heap.size_push]
    omega
  refine call_own F.excBase_ValueError (fun Y => refsVE_contains Y bm hbm) (X _ _ hC) (looks_findIn X T.iC) (fun me => bind_fn X me T.tC) (one_line v) ?_
  refine err_init (s := ⟨(h0.push (kdv_tup [v])).push (excO C h0.objs.size), g0, d0, t0, o0⟩) T X G Gb hb keep2 big (hlim.keeps keep2) isE noE (show A.depth + 1 < recursionLimit from hroom) fun h' tk' dx t1 e => ⟨rfl, ?_⟩
  exact hq h' tk' (h0.objs.size + 1) dx ⟨e.keep, Nat.le_succ _, ⟨_, _, e.obj, rfl, rfl, rfl, rfl⟩, e.dbig, e.dne, e.ns⟩
end
theorem relO_one {fl : Str} {v : V} {v' : Value} (r : RelV v v') (f : Str) : RelO (List.lookup f [(fl, v)]) (if f = fl then some v' else none) := by
  by_cases h : f = fl
  · subst h
    rw [if_pos rfl, show List.lookup f [(f, v)] = some v from by simp [List.lookup]]
    exact r
  · rw [if_neg h, show List.lookup f [(fl, v)] = none from by
      have z : (f == fl) = false := by simpa using h
      simp [List.lookup, z]]
    trivial
section
variable {X : Cx} {g : Gd} {x : EX} {cn : Str} {C fI cc cda : Addr} {w : WE} {a : Expr} {p pos pos2 : Pos} {k : Nat}
def tMk (cn : Str) (C : Addr) (ta : TA) : St → Hp → XK → Prop := fun σ H Q => ta σ H fun vs H1 => ∃ v, vs = [v] ∧ ∀ d, H1 d = none → Q (.ref C) (some d) (upd H1 d (.xd [(fldOf cn, v)]))
theorem pmk_err {ta : TA} (T : ErrTxt X.prog X.K X.mg cn C fI cc cda) (hr : Room k X.A) (ha : PA X [a] ta) (hg : Gl X cn) (hdb : (cn == ("__debug__" : Str)) = false)
    (he : starEach (a :: []) X.env = (false, eval a X.env) :: starEach [] X.env) (hpl : (backTo pos (starEach [] X.env)).any (·.1) = false) :
    PMk X (.Call (.Name cn p) [a] [] pos) (tMk cn C ta) := by
  intro pins s σ H Q I h
  refine wpAny_Call_Name_kw (ld_glob I hg T.gC ?_ hdb)
  refine PySem.W.callWith_K (h₀ := X.base) I.ok.mod.kin T.kC (thn (ha.run pos pins s σ H _ I h) fun us s1 ⟨vs, H1, I1, r1, v, ev, q1⟩ => ?_) he hpl
  subst ev
  refine ⟨I1.kIn, ?_⟩
  cases r1 with
  | @cons _ v' _ us' rv rn =>
    cases rn
    show wpAny _ _ (PySem.call (.ref C) [v']) _ _ _
    have lim := I1.nolimit
    obtain ⟨mb, b1, b2⟩ := I1.mod.blt
    obtain ⟨h0, g0, d0, t0, o0⟩ := s1
    refine wpAny_call (err_made T I1.kIn (I1.mod.glob.keeps I1.bk) (b1.keeps I1.bk) ((b2 _ (by decide +kernel)).trans (by first | rfl | kernel_rfl)) lim (by have := hr.dp; omega) fun h' tk' e d M => ?_)
    obtain ⟨oe, fv, o1, o2, o3, o4, o5⟩ := M.obj
    obtain ⟨hG, hG1, hG2⟩ := restrict h' fun b => decide (b ≠ e)
    have stay : ∀ b, b ≠ e → hG.get? b = h'.get? b := fun b hb => hG1 b (decide_eq_true hb)
    have gone : hG.get? e = none := hG2 e (by simp)
    have old : ∀ b o, h0.get? b = some o → hG.get? b = some o := fun b o q => (stay b (Nat.ne_of_lt (Nat.lt_of_lt_of_le (Heap.lt_size q) M.new))).trans (M.keep b o q)
    have ob : ObjOk X.prog X.w (upd H1 d (.xd [(fldOf cn, v)])) hG d (.xd [(fldOf cn, v)]) := ⟨_, M.ns.at (fun o q => (stay d M.dne).trans q), fun f => relO_one rv f⟩
    have J : Inv X pins σ (upd H1 d (.xd [(fldOf cn, v)])) ⟨hG, g0, d0, tk', o0⟩ := I1.laid (t' := tk') old M.dbig ob
    refine ⟨e, oe, fv, ⟨hG, g0, d0, tk', o0⟩, _, .ref C, some d, rfl, J, fun b o q => ?_, gone, o1, ⟨o2, o3⟩, o4, o5, ?_, rfl, I1.bare, raises_own T.exC T.tyC, q1 d (I1.hok.fresh M.dbig)⟩
    · by_cases z : b = e
      · subst z
        have q' : hG.get? b = some o := q
        rw [gone] at q'
        cases q'
      · exact (stay b z).symm.trans q
    · rw [upd_ne (Ne.symm M.dne)]
      exact I1.hok.fresh M.new
/-- raise cn(text) -/
@[simp] def wRaise (cn : Str) (w : WE) : WS := fun x _ ρ => w x ρ fun d _ => match d with
  | .str s => x cn s
  | _ => False
structure ErrAt (X : Cx) (cn : Str) : Prop where
  ex : ∃ C fI cc cda, ErrTxt X.prog X.K X.mg cn C fI cc cda
theorem hs_raise (T : ErrAt X cn) (hr : Room k X.A) (hx : XOk X g x) (hc : X.calm = true) (ha : PE X a (kE X.K g x w)) (hg : Gl X cn := by rfl) (hdb : (cn == ("__debug__" : Str)) = false := by decide)
    (he : starEach (a :: []) X.env = (false, eval a X.env) :: starEach [] X.env := by rfl) (hpl : (backTo pos (starEach [] X.env)).any (·.1) = false := by rfl) :
    PS X (.Raise (some (.Call (.Name cn p) [a] [] pos)) none pos2) (kS X.K g x (wRaise cn w)) := by
  obtain ⟨C, fI, cc, cda, T⟩ := T.ex
  obtain ⟨E, tk, hE⟩ := hx.ex
  refine ps_imp (ps_raise hc tk (pmk_err T hr (ha_cons (ws := wNil) ha ha_nil he) hg hdb he hpl)) fun De σ H ⟨F, ρ, Ed, k, h, q⟩ => ⟨F, ρ, fun ds _ => match ds with
    | [.str s] => x cn s
    | _ => False, k, ?_, fun vs F2 H2 ds ρ2 k2 s2 p2 h2 => ?_⟩
  · show w x ρ _
    have e : (fun (d : D) (ρ1 : Env) => wNil x ρ1 fun ds _ => (match d :: ds with
      | [.str s] => x cn s
      | _ => False)) = fun (d : D) (_ : Env) => (match d with
      | .str s => x cn s
      | _ => False) := by
      funext d ρ1
      cases d <;> rfl
    show w x ρ (fun (d : D) (ρ1 : Env) => wNil x ρ1 fun ds _ => (match d :: ds with
      | [.str s] => x cn s
      | _ => False))
    rw [e]
    exact h
  · cases p2 with
    | nil => exact h2.elim
    | cons p1 pr =>
      cases pr with
      | nil =>
        cases p1 with
        | str y => exact ⟨_, rfl, fun d hd => hE C cn y d _ T.gC (k2.thrown (same_lay hd)) upd_same h2⟩
        | _ => exact h2.elim
      | cons => 
        exfalso
        cases p1 <;> exact h2
end
end Fz

set_option maxRecDepth 100000
set_option maxHeartbeats 2000000
/-! F9: a def that calls what it is given and catches an error of the program: ask(lambda: e). -/
namespace Fz
open PySem PySem.Spec L2
/-- the ground of a def that makes functions: its tables are all the tables -/
structure GT (g : Gd) : Prop where
  f0 : ∀ a ps, g.F0 a ≠ some (.tbl ps)
  h0 : ∀ a ps, g.H0 a = some (.tbl ps) → ∃ q, (a, q) ∈ g.T
  nn : ∀ a, g.N a → ∃ o, g.H0 a = some o
  bb : ∀ a, ¬ g.B a
section
variable {K : PySem.W.Frag} {g : Gd} {F H H1 : Hp} {σ : L2.St} {ρ : Env}
theorem Ok.ext (k : Ok K g F H σ ρ) (gt : GT g) (e : LamX.ExtN H H1) (t : LamX.Tabs g.T H1) : Ok K g F H1 σ ρ where
  f0 := k.f0
  fh := fun a o h => e a o (k.fh a o h) fun ps z => gt.f0 a ps (k.ft a ps (by rw [← z]; exact h))
  keep := fun a o h1 ht h2 => e a o (k.keep a o h1 ht h2) fun ps z => by
    obtain ⟨q, hq⟩ := gt.h0 a ps (by rw [← z]; exact h2)
    exact ht q hq
  nf := fun a h => by
    refine ⟨(k.nf a h).1, ?_⟩
    by_cases z : ∃ q, (a, q) ∈ g.T
    · obtain ⟨q, hq⟩ := z
      obtain ⟨ps, e1, _⟩ := t _ hq
      exact ⟨_, e1⟩
    · obtain ⟨o, h2⟩ := gt.nn a h
      have off : OffT g a := fun q hq => z ⟨q, hq⟩
      exact ⟨o, e a o (k.keep a o (gt.bb a) off h2) fun ps y => z (gt.h0 a ps (by rw [← y]; exact h2))⟩
  bor := fun a h => absurd h (gt.bb a)
  sl := pd_imp (fun v s h => by
    cases s with
    | emp => exact trivial
    | dat d => exact h
    | own ds =>
      obtain ⟨a, ea, h1, h2, h3, xs, h4, h5⟩ := h
      exact ⟨a, ea, h1, h2, h3, xs, e a _ h4 (fun _ z => by cases z), h5⟩
    | bor ds =>
      obtain ⟨a, ea, h1, h3, xs, h4, h5⟩ := h
      exact ⟨a, ea, h1, h3, xs, e a _ h4 (fun _ z => by cases z), h5⟩) k.sl
  dis := k.dis
  ft := k.ft
  tb := t
@[simp] def hideS : Slot → Slot
  | .dat d => .dat d
  | _ => .emp
@[simp] def hideE (ρ : Env) : Env := ρ.map hideS
theorem pd_map {α β γ : Type} {R : α → β → Prop} {S : α → γ → Prop} {f : β → γ} (h : ∀ a b, R a b → S a (f b)) : ∀ {l : List α} {m : List β}, Paired R l m → Paired S l (m.map f)
  | _, _, .nil => .nil
  | _, _, .cons r t => .cons (h _ _ r) (pd_map h t)
def gIn (F H : Hp) : Gd := ⟨F, H, fun _ => False, fun a => F a = none ∧ ∃ o, H a = some o, 0, []⟩
theorem Ok.inner (k : Ok K g F H σ ρ) : Ok K (gIn F H) F H σ (hideE ρ) where
  f0 := Same.refl _
  fh := k.fh
  keep := fun _ _ _ _ h => h
  nf := fun a h => h
  bor := fun _ h => h.elim
  sl := pd_map (fun v s h => by
    cases s with
    | emp => exact trivial
    | dat d => exact h
    | own ds => exact trivial
    | bor ds => exact trivial) k.sl
  dis := fun i j s u a _ e1 _ o1 _ _ _ => by
    unfold hideE at e1
    rw [List.getElem?_map] at e1
    cases z : ρ[i]? with
    | none => rw [z] at e1; cases e1
    | some s0 =>
      rw [z] at e1
      cases e1
      cases s0 <;> exact o1
  ft := fun _ _ h => h
  tb := fun _ h => absurd h List.not_mem_nil
theorem Ok.innerGr {F2 H2 : Hp} {σ2 : L2.St} {ρ2 : Env} (k : Ok K (gIn F H) F2 H2 σ2 ρ2) : Gr F H F2 H2 :=
  ⟨k.f0, k.fh, fun a o e => k.keep a o (fun z => z) (fun _ => List.not_mem_nil) e, fun a o h1 h2 => (k.nf a ⟨h1, o, h2⟩).1, fun a ps z => k.ft a ps z⟩
end
section
variable {X : Cx} {g : Gd} {x : EX} {C fI cc cda : Addr} {cn : Str}
/-- e.field, e the error that the suite holds -/
def tByErr (cn : Str) (C a : Addr) (cls : Value) (d : Option Addr) (te : TE) : TE := fun σ H Q => te σ H fun y H1 => y = .ref a ∧ cls = .ref C ∧ ∃ (dd : Addr) (v : V), d = some dd ∧ H1 dd = some (.xd [(fldOf cn, v)]) ∧ Q v H1
theorem pe_byErr {a : Addr} {oe : Obj} {cls : Value} {d : Option Addr} {pn : List (Addr × Obj)} {e : Expr} {te : TE} {pos : Pos} (T : ErrTxt X.prog X.K X.mg cn C fI cc cda) (hz : Zc cls d oe) (hf : ∃ vs, oe.data = .fields vs) (he : PE (X.suite a ((a, oe) :: pn)) e te)
    (hb : attributeBase e (fldOf cn) X.env (eval e X.env) = eval e X.env) : PE (X.suite a ((a, oe) :: pn)) (.Attribute e (fldOf cn) pos) (tByErr cn C a cls d te) := by
  refine ⟨fun pins s σ H Q I h => attr_of hb (thn (he.run pins s σ H _ I h) fun u s1 ⟨y, H1, I1, ry, ey, ec, dd, v, ed, ea, q⟩ => ?_)⟩
  subst ey ec ed
  obtain rfl : u = Value.ref a := ry
  obtain ⟨ha, _⟩ := I1.pin (a, oe) (List.mem_append_left _ List.mem_cons_self)
  obtain ⟨vs, hd⟩ := hf
  obtain ⟨mA, hns, hr⟩ := (show ObjOk X.prog X.w H1 s1.heap dd (.xd [(fldOf cn, v)]) from I1.hok dd _ ea)
  obtain ⟨od, ho, hl⟩ := lookIn_ns hns
  have l : List.lookup (fldOf cn) [(fldOf cn, v)] = some v := by simp [List.lookup]
  obtain ⟨u, hu, ru⟩ := RelO.some_of (v := v) (o := mA (fldOf cn)) (by rw [← l]; exact hr (fldOf cn))
  have J : PySem.W.InstAt s1.heap a oe C (some od) := ⟨ha, hz.1, by unfold PySem.W.notCls; rw [hd] <;> rfl, by rw [hz.2]; exact ho⟩
  exact HandSPX.exc_get I1.kIn J T.ga T.gg T.exC (PySem.W.findObj_own T.hdC T.noN rfl (by rw [hl, hu])) (handed_of ru) ⟨v, H1, I1.tok _, ru, q⟩
theorem takes_len {W : WX} (tk : Takes X W) : Takes X (fun cls d σ H => σ.length = X.N.length → W cls d σ H) := fun u s' ⟨a, B, sI, pins, σ, H, cls, d, h1, I, h2, h3, h4, h5, h6, h7, w⟩ =>
  tk u s' ⟨a, B, sI, pins, σ, H, cls, d, h1, I, h2, h3, h4, h5, h6, h7, w I.len⟩
/-- try: call() except cn as e: return e.field; return '' -/
def TAsk (cn : Str) (C : Addr) : (XK → Hp → VK → Prop) → Hp → VK → Prop := fun tl H Q =>
  tl (fun cls d H' => cls = .ref C ∧ ∃ dd n, d = some dd ∧ H' dd = some (.xd [(fldOf cn, .str n)]) ∧ Q (.str n) H') H fun _ H' => Q (.str "") H'
def askB (cn fl : Str) (j : Nat) (p1 p2 p3 p4 p5 p6 p7 p8 p9 p10 p11 : Pos) : List Stmt :=
  [.Try [.Expr (.Call (.Name "call" p1) [] [] p2) p3] [.ExceptHandler (some (.Name cn p4)) (some "e") [.Return (some (.Attribute (.Name "e" p5) fl p6)) p7] p8] [] [] p9, .Return (some (.Constant (.str "") j p10)) p11]
theorem nd2 : (["call", "e"] : List Str).Nodup := by decide
theorem ask_gives {q : Str} {sg : Scope} {gf : Addr} {cdg : Value} {j : Nat} {x : Str} {p1 p2 p3 p4 p5 p6 p7 p8 p9 p10 p11 : Pos} (T : ErrTxt X.prog X.K X.mg cn C fI cc cda) (hge : sg.names.lookup cn = some .globalImplicit) (hde : (cn == ("__debug__" : Str)) = false)
    (hfl : fldOf cn = "name" ∨ fldOf cn = "word") (ha : Vis sg "call") (he : sg.names.lookup ("e" : Str) = some .local) :
    LamX.GivesTo X ["call", "e"] x sg gf cdg (askB cn (fldOf cn) j p1 p2 p3 p4 p5 p6 p7 p8 p9 p10 p11) "call" q (TAsk cn C) := by
  intro f c' s H Q tl act hc h
  have hgl : Gl (cxOf C8.CX0 X.prog X.w X.K X.mg X.base ["call", "e"] x sg gf cdg X.A X.stack s H C8.E0).nox cn := hge
  refine ⟨_, pss_cons (ps_try_as (X := (cxOf C8.CX0 X.prog X.w X.K X.mg X.base ["call", "e"] x sg gf cdg X.A X.stack s H C8.E0).nox) (i := 1) (c := .ref C) (Wout := fun _ _ _ _ => False)
      (tb := fun W D σ H => ∃ Ech : XK, (∀ cls d σ' H', σ'.length = 2 → Ech cls d H' → W cls d σ' H') ∧ σ[0]? = some (some (.ref f)) ∧ H c' = some (LamX.CodeO c' q) ∧ tl Ech H fun _ H' => D.nx σ H')
      (ts := fun a cls d => tRet (tByErr cn C a cls d (tVar 1)))
      rfl rfl nd2 rfl he ⟨hgl, hde, .inl T.gC⟩ LamX.takes0 (fun W pn xe tk _ => ?_) (fun a oe cls d pn hz hf => ?_)) (pss_one (ps_ret (pe_str (x := "")))), ?_⟩
  · refine ⟨fun pins s' σ H' D I h' => ?_⟩
    obtain ⟨Ech, hW, h1, h2, h3⟩ := h'
    have hp := act (fun cls d σ H => σ.length = 2 → W cls d σ H) pn xe Ech p1 p2 (takes_len tk) fun cls d σ' H' e l => hW cls d σ' H' l e
    have hq := pss_one (ps_expr (pos := p3) hp (by rfl))
    exact hq.run pins s' σ H' D I ⟨h1, h2, h3⟩
  · refine pss_one (ps_ret ?_)
    refine pe_byErr (X := (cxOf C8.CX0 X.prog X.w X.K X.mg X.base ["call", "e"] x sg gf cdg X.A X.stack s H C8.E0).nox) T hz hf (pe_var (i := 1) rfl (.inl he)) ?_
    rcases hfl with e | e <;> rw [e] <;> rfl
  · refine ⟨fun cls d H' => cls = .ref C ∧ ∃ dd n, d = some dd ∧ H' dd = some (.xd [(fldOf cn, .str n)]) ∧ Q (.str n) H', fun cls d σ' H' l e => ?_, rfl, hc, h⟩
    obtain ⟨rfl, dd, n, rfl, e2, e3⟩ := e
    refine ⟨true, T.te, fun _ a na => ?_, fun z => Bool.noConfusion z⟩
    exact ⟨.ref a, List.getElem?_set_self (by rw [l]; omega), rfl, rfl, dd, _, rfl, e2, e3⟩
/-- what a def that catches hands back: the error's text, or '' -/
@[simp] def wRef (cn : Str) (w : WE) : WE := fun _ ρ P => w (fun c s => c = cn ∧ P (.str s) ρ) (hideE ρ) fun _ _ => P (.str "") ρ
/-- the law's own code object and its table -/
structure LawT (X : Cx) (g : Gd) : Prop where
  ex : ∃ c P, LamX.TabB X.base X.mg c P ∧ X.env.code = .ref c ∧ g.T = [(P, X.env.qual ++ "<lambda>")]
  gt : GT g
theorem he_refused {y : Str} {st : Stmt} {j k : Nat} {q1 q2 q3 q4 q5 q6 q7 q8 q9 q10 q11 p lpos pos : Pos} {params : Arguments} {body : Expr} {scope : Scope} {w : WE} (lt : LawT X g) (T : ErrAt X cn) (D : TopD X.K X.mg y st)
    (hbt : defBody st = askB cn (fldOf cn) j q1 q2 q3 q4 q5 q6 q7 q8 q9 q10 q11) (Sg : FnScope ["call", "e"] ["call"] (defScope st)) (hge : (defScope st).names.lookup cn = some .globalImplicit) (hde : (cn == ("__debug__" : Str)) = false)
    (hfl : fldOf cn = "name" ∨ fldOf cn = "word") (hva : Vis (defScope st) "call") (hve : (defScope st).names.lookup ("e" : Str) = some .local)
    (hbi : ∀ (kV doc pm : Value) (an : Option Addr) (cdv ct : Value) (us : List Value), us.length = (["call"] : List Str).length → bindArgs (PySem.W.fnOf y y (defArgs st) (defBody st) (defScope st) .none kV doc pm an cdv ct) ⟨us, []⟩ = pure ((["call"] : List Str).zip us))
    (hr : Room (k + 2) X.A) (L : LamX.LamS X.env.scope scope)
    (hbody : ∀ (A : Around) (outer : List PySem.Env) (s : Shared) (H : Hp) (E : XK) (f c' : Addr) (g : Gd) (x : EX), Room k (A.deeper (LamX.lamEnv X scope s.heap.objs.size f c')) → XOk (LamX.lamCx X A outer s H E scope f c') g x → PE (LamX.lamCx X A outer s H E scope f c') body (kE X.K g x w))
    (hdef : defaultsOf params X.env = ([], []) := by rfl) (hbind : ∀ (q : Str) (cl : List (Str × Addr)) (pm cv ctv : Value), bindArgs (PySem.W.kla_fn "<lambda>" q params body scope cl pm cv ctv) ⟨[], []⟩ = pure [] := by intro _ _ _ _ _; rfl)
    (hg : Gl X y := by rfl) (hdb : (y == ("__debug__" : Str)) = false := by decide) : PE X (.Call (.Name y p) [.Lambda params body scope lpos] [] pos) (kE X.K g x (wRef cn w)) := by
  obtain ⟨C, fI, cc, cda, T⟩ := T.ex
  obtain ⟨⟨c, P, TB, hcode, hT⟩, gt⟩ := lt
  obtain ⟨gf, fd, FD, hm⟩ := D
  have kp := FD.kp
  obtain ⟨oc, od, dV, kV, doc, pm, an, cdv, ct, osl, rfl, lk, hcd, hD, hK⟩ := id FD.ex
  have hb := FD.bindsN hbi
  rw [hbt] at lk hb
  refine pe_imp (LamX.pe_lamcall (T := [(P, X.env.qual ++ "<lambda>")]) (Ng := ["call", "e"]) (a := "call") (k := k) (t := fun E σ H Q => ∃ g x, (∀ C cn s dd H', X.mg cn = some (.ref C) → (∀ a o, ¬ g.B a → OffT g a → g.H0 a = some o → H' a = some o) → H' dd = some (.xd [(fldOf cn, .str s)]) → x cn s → E (.ref C) (some dd) H') ∧ kE X.K g x w σ H Q)
    hg hm kp lk hcd hb Sg rfl hva (ask_gives T hge hde hfl hva hve) TB hcode List.mem_cons_self (fun p hp _ => ?_) hr L hdef hbind (fun A outer s H E f c' hr2 => ⟨fun pins s' σ H' Q I ⟨g', x', hE, hq⟩ => ?_⟩) hdb) fun σ H Q ⟨F, ρ, Pd, k1, h, q⟩ => ?_
  · rcases List.mem_cons.mp hp with rfl | z
    · rfl
    · exact absurd z List.not_mem_nil
  · exact (hbody A outer s H E f c' g' x' hr2 ⟨E, takes_of rfl rfl rfl rfl, hE⟩).run pins s' σ H' Q I hq
  · rw [← hT]
    refine ⟨k1.tb, fun H1 eN t1 => ?_⟩
    have k2 := k1.ext gt eN t1
    refine ⟨gIn F H1, fun c s => c = cn ∧ Pd (.str s) ρ, fun C' cn' s dd H' hmc keep hd hx => ?_, F, hideE ρ, _, k2.inner, h, fun v F2 H2 d ρ2 k3 s3 p3 h3 => ?_⟩
    · obtain ⟨rfl, hP⟩ := hx
      have sm : Same H1 H' := fun a o e => keep a o (fun z => z) (fun _ => List.not_mem_nil) e
      have eC : C' = C := by
        have z := hmc.symm.trans T.gC
        cases z
        rfl
      subst eC
      exact ⟨rfl, dd, s, rfl, hd, q _ F H' _ ρ (k2.grow ⟨Same.refl _, k2.fh.trans sm, sm, fun _ _ z _ => z, fun _ _ z => z⟩) (Same.refl _) (.str s) hP⟩
    · exact q _ F2 H2 _ ρ (k2.grow k3.innerGr) s3 (.str _) h3
end
end Fz

set_option maxRecDepth 100000
set_option maxHeartbeats 3200000
/-! FS: sorted(set(xs)), xs a list of ints. -/
namespace Fz
open PySem PySem.Spec L2
section
open PyProof.Rows PySem.Calls
variable {P : Program} {w : World} {A : Around} {E : Value → Shared → Prop} {s : Shared}
abbrev eSet (w : World) : Obj := { cls := .type "set", dict := none, data := .set #[] 0 (.fresh 0 0 (!w.params.followText "set-order")) }
theorem set_ints {p : Addr} {its : Array Value} (zs : List Int) {Q : Value → Shared → Prop} (calm : A.handled = none) (isL : s.heap.IsList p its) (are : IntsAre its.toList zs) (few : zs.length + 1 < scanBound)
    (fin : ∀ (h2 : Heap) (k c : Nat), SetR w h2 s.heap.objs.size (fun j => decide (j ∈ zs)) c → c ≤ zs.length → (∀ b o, s.heap.get? b = some o → h2.get? b = some o) → Q (.ref s.heap.objs.size) { s with heap := h2, toks := k }) :
    wpAny (model P w) A (call (.type "set") [.ref p]) Q E s := by
  have sz : its.size = zs.length := by rw [← Array.length_toList]; exact are.length
  obtain ⟨_, _, mro⟩ := F.called_set.mro
  have m1 := F.called_set.made
  have m2 := F.called_set.sub
  have m3 := F.called_set.notType
  have m4 := F.called_set.canCreate
  have m5 := F.typeCall_set_1 (.ref p)
  refine wpAny_call (codeAny_of_tree ?_)
  show wpAny _ _ (callAny (.type "set") ⟨[.ref p], []⟩) _ _ s
  refine wpAny_pure ⟨Code.quiet_builtin _ (by decide +kernel), codeAny_builtin F.entry_type_call ?_⟩
  rw [Around.under_plain (weight_type_call_type "set" [.ref p] []) rfl]
  repeat (any_goals (first | assumption | wp_step))
  refine codeAny_mono (code_set_led1 (.ref p) (E := E) (Q₁ := fun u t => u = .ref s.heap.objs.size ∧ t = { s with heap := s.heap.push (eSet w) }) ⟨rfl, rfl⟩) fun r t hr => ?_
  cases r with
  | error e => exact hr
  | ok fl =>
    cases fl with
    | next => exact hr
    | brk => exact hr
    | cont => exact hr
    | ret u =>
      obtain ⟨rfl, rfl⟩ := hr
      have at0 : (s.heap.push (eSet w)).get? s.heap.objs.size = some (eSet w) := Heap.get?_push_size _ rfl
      have ty0 : Shared.TypeIs { s with heap := s.heap.push (eSet w) } (.ref s.heap.objs.size) "set" := ⟨_, at0, rfl⟩
      have q1 := F.called_set.init.lookup
      have q2 := F.called_set.init.bind (.ref s.heap.objs.size)
      repeat (any_goals (first | assumption | wp_step))
      refine codeAny_mono (codeAny_call_builtin (R := wants (fun r t => r = .none ∧ ∃ h2 k c, t = { s with heap := h2, toks := k } ∧ SetR w h2 s.heap.objs.size (fun j => decide (j ∈ zs)) c ∧ c ≤ zs.length ∧ (∀ b o, s.heap.get? b = some o → h2.get? b = some o)) E)
        F.called_set.init.plain F.entry_set_init (check_set_init_1 ty0 ?_)) fun r t ht => ?_
      · obtain ⟨⟨oc, od, dt, osl⟩, e1, e2, n, e3⟩ := isL
        simp only at e2 e3
        subst e2 e3
        have at1 : (s.heap.push (eSet w)).get? p = some { cls := .type "list", dict := od, data := .seq its n, slots := osl } := Heap.get?_push_of_some _ e1
        have f1 := F.sub_list_set
        have f2 := F.sub_list_frozenset
        have f3 : (Value.type "list" == Value.type "dict") = false := by decide
        have at2 : (s.heap.push (eSet w)).IsList p its := ⟨_, at1, rfl, n, rfl⟩
        unfold Builtin.«set.__init__» noKeywords Builtin.Frozenset.updateFrom
        generalize gI : pyIter = PI
        wp_walk
        subst gI
        refine wpAny_pyIter_list at2 (wpAny_bind (wpAny_runValue ?_))
        have lt : p < s.heap.objs.size := Heap.lt_size e1
        have calm3 : A.in1.in1.in1.handled = none := by simp [calm]
        have szp : (s.heap.push (eSet w)).objs.size = s.heap.objs.size + 1 := Heap.size_push ..
        have ne1 : p ≠ (s.heap.push (eSet w)).objs.size := by
          rw [szp]
          exact Nat.ne_of_lt (Nat.lt_succ_of_lt lt)
        have ne2 : s.heap.objs.size ∉ [(s.heap.push (eSet w)).objs.size, p] := by
          rw [szp]
          intro z
          rcases List.mem_cons.mp z with z | z
          · exact absurd z (Nat.ne_of_lt (Nat.lt_succ_self _))
          · rcases List.mem_cons.mp z with z | z
            · exact absurd z (Nat.ne_of_gt lt)
            · exact absurd z List.not_mem_nil
        have each : ∀ (i : Nat) (v : Value), its[i]? = some v → ∃ k t, zs[i]? = some k ∧ v = .int k t := fun i v hv => by
          have hi : i < zs.length := by rw [← sz]; exact (Array.getElem?_eq_some_iff.mp hv).1
          obtain ⟨t, e⟩ := are.int_at i v (by rw [Array.getElem?_toList]; exact hv)
          exact ⟨zs[i], t, List.getElem?_eq_getElem hi, by rw [e, List.getD_eq_getElem?_getD, List.getElem?_eq_getElem hi] <;> rfl⟩
        refine set_update_ints ((Walks.list calm3 _ p ne1 its).toS) s.heap.objs.size ne2 zs sz few each (its.size - 0) 0 _ (by omega) (Nat.zero_le _) ⟨⟨_, Heap.get?_push_size _ rfl, rfl, rfl⟩, at2.push _⟩
          ⟨0, Nat.le_refl 0, setR_new_at (Heap.get?_push_of_some _ at0)⟩ fun t c hm hc hS => ?_
        obtain ⟨h2, g2, d2, k2, o2⟩ := t
        have e1 : g2 = s.gens := hm.gens
        have e2 : d2 = s.drawn := hm.drawn
        have e3 : o2 = s.os := hm.os
        subst e1 e2 e3
        show wpAny _ _ _ _ _ _
        refine wpAny_pure ?_
        show wpAny _ _ (ret Value.none) _ _ _
        refine wpAny_pure ⟨rfl, h2, k2, c, rfl, hS, by rw [← sz]; exact hc, fun b o e => hm.heap b o (fun z => ?_) (Heap.get?_push_of_some _ (Heap.get?_push_of_some _ e))⟩
        have hb := Heap.lt_size e
        rcases List.mem_cons.mp z with z | z
        · exact absurd z (Nat.ne_of_lt hb)
        · rcases List.mem_cons.mp z with z | z
          · rw [szp] at z
            exact absurd z (Nat.ne_of_lt (Nat.lt_succ_of_lt hb))
          · exact absurd z List.not_mem_nil
      · cases r with
        | error e => exact ht
        | ok fl =>
          cases fl with
          | next => exact ht.elim
          | brk => exact ht.elim
          | cont => exact ht.elim
          | ret u =>
            obtain ⟨rfl, h2, k2, c, rfl, a1, a2, a3⟩ := ht
            repeat (any_goals (first | assumption | wp_step))
            exact fin _ _ _ a1 a2 a3
end
end Fz

set_option maxRecDepth 100000
set_option maxHeartbeats 3200000
namespace Fz
open PySem PySem.Spec L2
section
variable {X : Cx} {g : Gd} {x : EX} {a : Expr} {w : WE} {p p2 q pos : Pos}
def tSrtSet (K : PySem.W.Frag) (ta : TE) : TE := fun σ H Q => ta σ H fun x H1 => ∃ (l : Addr) (ns : List Int), x = .ref l ∧ SqL K H1 l (ns.map V.int) ∧ ns.length < 64 ∧
  ∀ (ms : List Int) (p : Addr), ms.Pairwise (· < ·) → (∀ k : Int, k ∈ ms ↔ k ∈ ns) → H1 p = none → Q (.ref p) (upd H1 p (.lst (ms.map V.int)))
theorem pe_srtSet {ta : TE} (hc : X.calm = true) (hg : Gl X "sorted") (hm : X.mg "sorted" = none) (hg2 : Gl X "set") (hm2 : X.mg "set" = none) (ha : PE X a ta) (na : starEach [a] X.env = (false, eval a X.env) :: starEach [] X.env) :
    PE X (.Call (.Name "sorted" p) [.Call (.Name "set" p2) [a] [] q] [] pos) (tSrtSet X.K ta) := by
  refine ⟨fun pins s σ H Q I h => PyProof.Rows.Call_ (ld_blt I hg hm (by first | exact PySem.boot_sorted | rfl | kernel_rfl) ?_)⟩
  refine PyProof.Rows.callWith_builtin1 (PyProof.Rows.args_cons ?_ rfl) rfl rfl
  refine PyProof.Rows.Call_ (ld_blt I hg2 hm2 PyProof.Rows.boot_set (PyProof.Rows.callWith_type1 (PyProof.Rows.args_cons (thn (ha.run pins s σ H _ I h) fun v s1 ⟨y, H1, I1, r1, l, ns, ey, hs, hf, fin⟩ => PyProof.Rows.args_nil ?_) na) na rfl))
  subst ey
  cases r1
  obtain ⟨its, rv, pl, hz⟩ := I1.list hs
  refine set_ints (P := X.prog) (w := X.w) ns (I1.ok.hd hc) pl.isList (by simpa using rv.ints) (by unfold scanBound; omega) fun h2 tk c R hc2 kp => ?_
  have I2 : Inv X pins σ H1 { s1 with heap := h2, toks := tk } := I1.kept kp
  refine PyProof.Rows.args_nil (sorted_set (s := { s1 with heap := h2, toks := tk }) R (I2.ok.hd hc) (by omega) fun s' r out ep ms k gg oo hp hget hi hsrt hm hl => ?_)
  have lm : (ms.map V.int).length ≤ sizeLine := by rw [List.length_map, hl, sizeLine_eq]; omega
  have nr : H1 r = none := I2.hok.fresh hp
  have J : Inv X pins σ (upd H1 r (.lst (ms.map V.int))) { s1 with heap := s'.heap, gens := s'.gens, drawn := s'.drawn, toks := s'.toks } :=
    L2.Inv.call (s := { s1 with heap := h2, toks := tk }) (g' := s'.gens) I2 (ch := []) (Un.laid (h := h2) k hp nr) (I2.hok.laid k hp ⟨lm, out.toList, ep, vals_of_ints hi, hget⟩) (by rw [gg]; exact I2.bare) (fun _ z => nomatch z)
  have e : s' = { s1 with heap := s'.heap, gens := s'.gens, drawn := s'.drawn, toks := s'.toks } := by
    cases s'
    cases s1
    cases oo
    rfl
  rw [e]
  exact ⟨.ref r, _, J, rfl, fin ms r hsrt (fun z => by rw [hm z]; simp) nr⟩
@[simp] def wSrtSetI (w : WE) : WL := fun x ρ P => w x ρ fun d ρ1 => match d with
  | .list ds => match intsOf ds with
    | some ns => ns.length < 64 ∧ ∀ ms : List Int, ms.Pairwise (· < ·) → (∀ k, k ∈ ms ↔ k ∈ ns) → P (ms.map .int) ρ1
    | none => False
  | _ => False
theorem hn_srtSetI (hm : X.mg "sorted" = none) (hm2 : X.mg "set" = none) (ha : PE X a (kP X.K g x w)) (hc : X.calm = true := by rfl) (hg : Gl X "sorted" := by rfl) (hg2 : Gl X "set" := by rfl) (na : starEach [a] X.env = (false, eval a X.env) :: starEach [] X.env := by rfl) :
    PE X (.Call (.Name "sorted" p) [.Call (.Name "set" p2) [a] [] q] [] pos) (kN X.K g x (wSrtSetI w)) :=
  pe_imp (pe_srtSet hc hg hm hg2 hm2 ha na) fun σ H Q ⟨F, ρ, P, k, h, q⟩ => ⟨F, ρ, _, k, h, fun v F2 H2 d ρ2 k2 s2 p2 h2 => by
    cases d with
    | list ds =>
      cases e : intsOf ds with
      | none => simp only [e] at h2
      | some ns =>
        simp only [e] at h2
        obtain ⟨l, xs, rfl, r, pd⟩ := p2.lst k2.fh
        have ex := dts_ints pd e
        subst ex
        exact ⟨l, ns, rfl, r, h2.1, fun ms p h3 h4 hp => q p _ F2 _ _ ρ2 (k2.grow (.lay k2.fh hp)) s2 (k2.new hp) upd_same (dpa_ints ms) (h2.2 ms h3 h4)⟩
    | _ => exact h2.elim⟩
end
end Fz

set_option maxRecDepth 100000
set_option maxHeartbeats 2000000
/-! FA: the law itself. -/
namespace Fz
open PySem PySem.Spec L2
def spLaw (K : PySem.W.Frag) (T : Addr) : Sp := fun vs H Q _ => ∃ (a : Addr) (ns : List Int), vs = [.ref a] ∧ SqL K H a (ns.map V.int) ∧ H T = some (.tbl #[]) ∧ ns.length ≤ 63 ∧ (∀ z ∈ ns, Builtin.Int.intBits z ≤ 1048576) ∧ ∀ H', Q (.bl true) H'
/-- a script -/
def Scr (ns : List Int) : Prop := ns.length ≤ 63 ∧ ∀ z ∈ ns, Builtin.Int.intBits z ≤ 1048576
@[simp] def endL : WEnds := { nx := fun _ => False, rt := fun d _ => d = .bool true }
theorem fn_law {P : Program} {w : World} {K : PySem.W.Frag} {mg : Str → Option Value} {base : Heap} {x qual : Str} {params : Arguments} {body : List Stmt} {scope : Scope} {fd : FuncData} {N : List Str} {k : Nat} {T : Addr} {p : He.Defn}
    (F : FunD K x qual params body scope [] [] (He.fAd K p) fd) (S : FnScope N ["script"] scope) (TB : LamX.TabB base mg (He.codeOf K p) T)
    (hbody : ∀ (cdv : Value) (A : Around) (outer : List PySem.Env) (s : Shared) (H : Hp) (E : XK) (ns : List Int) (g : Gd), Room k (A.deeper (PyProof.Rows.envOfC qual scope s.heap.objs.size (He.fAd K p) cdv)) → Scr ns → LawT (cxOf (L2.CX P w) P w K mg base N qual scope (He.fAd K p) cdv A outer s H E) g →
      ∃ wb, PSs (cxOf (L2.CX P w) P w K mg base N qual scope (He.fAd K p) cdv A outer s H E) body (kS K g exF wb) ∧ wb exF endL (env0 N [.list (ns.map .int)])) :
    FnOk P w K mg base (L2.CX P w) (k + 1) (He.fAd K p) fd ["script"] (spLaw K T) := by
  obtain ⟨oc, od, dV, kV, doc, pm, an, cdv, ct, osl, rfl, lk, hcd, _, _⟩ := F.ex
  obtain ⟨c, rfl⟩ := He.codeIn_ref hcd
  have ec : He.codeOf K p = c := He.codeOf_eq lk rfl
  rw [ec] at TB
  refine fn_of lk hcd S (fun vs H Q E h => ?_) fun A outer s H vs Q E hr h => ?_
  · obtain ⟨a, ns, rfl, _⟩ := h
    rfl
  · obtain ⟨a, ns, rfl, hs, hT, hl, hb, hq⟩ := h
    obtain ⟨F0, eF⟩ : ∃ F0 : Hp, F0 = fun b => if b = a then (match H a with
      | some (.tbl _) => none
      | o => o) else none := ⟨_, rfl⟩
    have sm : Same F0 H := fun b o e => by
      rw [eF] at e
      by_cases z : b = a
      · subst z
        simp only [if_pos] at e
        split at e
        · cases e
        · exact e
      · simp only [if_neg z] at e
        cases e
    have nt : ∀ b ps, F0 b ≠ some (.tbl ps) := fun b ps e => by
      rw [eF] at e
      by_cases z : b = a
      · subst z
        simp only [if_pos] at e
        split at e
        · cases e
        · rename_i h1
          exact h1 ps e
      · simp only [if_neg z] at e
        cases e
    have hs' : SqL K F0 a (ns.map V.int) := by
      rcases hs with (e | ⟨o, e⟩) | e
      · exact .inl (.inl (by rw [eF]; simp only [if_pos]; rw [e]))
      · exact .inl (.inr ⟨o, by rw [eF]; simp only [if_pos]; rw [e]⟩)
      · exact .inr e
    obtain ⟨g, eg⟩ : ∃ g : Gd, g = ⟨F0, fun _ => none, fun _ => False, fun _ => False, 0, [(T, (PyProof.Rows.envOfC qual scope 0 (He.fAd K p) (.ref c)).qual ++ "<lambda>")]⟩ := ⟨_, rfl⟩
    have gt : GT g := by
      rw [eg]
      exact ⟨nt, fun _ _ z => (by cases z), fun _ z => z.elim, fun _ z => z⟩
    have lt : LawT (cxOf (L2.CX P w) P w K mg base N qual scope (He.fAd K p) (.ref c) A outer s H E) g := ⟨⟨c, T, TB, rfl, by rw [eg] <;> rfl⟩, gt⟩
    obtain ⟨wb, hb, hw⟩ := hbody (.ref c) A outer s H E ns g hr ⟨hl, hb⟩ lt
    have k0 : Ok K g F0 H (L2.start N [.ref a]) (env0 N [.list (ns.map .int)]) := by
      have q := start_okT (K := K) (T := []) (g := ⟨F0, H, fun _ => False, fun a => F0 a = none ∧ ∃ o, H a = some o, 0, []⟩) rfl sm (fun _ z => absurd z List.not_mem_nil) N [.ref a] [.list (ns.map .int)] (.cons (.lst hs' (dpa_ints ns)) .nil)
      rw [eg]
      refine ⟨Same.refl _, q.fh, fun _ _ _ _ z => (by cases z), fun _ z => z.elim, fun _ z => z.elim, pd_impI q.sl fun i v s _ e2 h => ?_, q.dis, fun _ _ z => z, fun p hp => ?_⟩
      · cases s with
        | emp => exact trivial
        | dat d => exact h
        | own ds =>
          rcases List.mem_append.mp (List.mem_of_getElem? e2) with z | z
          · obtain ⟨d, _, z⟩ := List.mem_map.mp z
            cases z
          · cases List.eq_of_mem_replicate z
        | bor ds =>
          rcases List.mem_append.mp (List.mem_of_getElem? e2) with z | z
          · obtain ⟨d, _, z⟩ := List.mem_map.mp z
            cases z
          · cases List.eq_of_mem_replicate z
      · rcases List.mem_cons.mp hp with rfl | z
        · exact LamX.TabS.nil hT
        · exact absurd z List.not_mem_nil
    exact ⟨_, hb, F0, _, endL, k0, hw, ⟨fun _ _ _ _ _ _ z => z.elim, fun v F2 H2 σ2 d ρ2 k2 _ p2 h2 => by
      have e : d = .bool true := h2
      subst e
      cases p2
      exact hq H2, fun _ _ _ _ _ _ z => z.elim, fun _ _ _ _ _ _ z => z.elim, fun _ _ _ _ _ _ _ _ _ _ _ _ z => z.elim⟩⟩
end Fz

set_option maxRecDepth 100000
set_option maxHeartbeats 2000000
/-! FH: what the head tells of the program's top. -/
namespace Fz
open PySem PySem.Spec L2
abbrev InitV : Type := Option (Str × Str × Arguments × FuncBody × Scope × Addr × List Str × Addr)
/-- the function __init__ of the class cn -/
def iniAd (K : PySem.W.Frag) (cn : Str) : Addr := He.ma K (He.ga K cn) "__init__"
def initW (K : PySem.W.Frag) (cn : Str) : InitV := match K.lookup (iniAd K cn) with
  | some ⟨_, _, .func fd, _⟩ => some (fd.name, fd.qualname, fd.params, fd.body, fd.scope, fd.globals, fd.closure.map (·.1), fd.builtins)
  | _ => none
def clsB (K : PySem.W.Frag) (C : Addr) : Bool := match K.lookup C with
  | some ⟨.type t, _, .cls cd, sl⟩ => decide (t = "type") && (match cd.mro, sl.toList with
    | .ref C1 :: bm, [_, _, _, _, some (.builtin n), _] => decide (C1 = C) && (decide (n = "ValueError.__new__") && (!cd.hasDel && (cd.hasDict && HandSPX.refsVE bm)))
    | _, _ => false)
  | _ => false
def oB (a b : Option Bool) : Bool := decide (a = b)
def noV : Value → Bool
  | .none => true
  | _ => false
theorem noV_ok {v : Value} (h : noV v = true) : v = .none := by
  cases v <;> first | rfl | cases h
def celB (K : PySem.W.Frag) (C : Addr) : List (Str × Addr) → Bool
  | [(_, cc)] => (match K.lookup cc with
    | some ⟨_, _, .cell (some (.ref D)), _⟩ => decide (D = C)
    | _ => false)
  | _ => false
def codB (K : PySem.W.Frag) (q file : Str) : Value → Bool
  | .ref cd => PySem.W.codeIn K (.ref cd) q && (match K.lookup cd with
    | some ⟨_, _, .fields vs, _⟩ => (match (vs[2]? : Option Value) with
      | some (.str f _) => file == f
      | _ => false)
    | _ => false)
  | _ => false
def fdB (K : PySem.W.Frag) (C : Addr) (file : Str) (fd : FuncData) : Bool := noV fd.defaults && (noV fd.kwdefaults && (celB K C fd.closure && codB K fd.qualname file fd.code))
theorem celB_ok {K : PySem.W.Frag} {C : Addr} {l : List (Str × Addr)} (h : celB K C l = true) : ∃ n cc, l = [(n, cc)] ∧ ∃ cl cld csl, K.lookup cc = some ⟨cl, cld, .cell (some (.ref C)), csl⟩ := by
  unfold celB at h
  split at h
  · rename_i n cc
    split at h
    · rename_i a b D c lk
      have e := of_decide_eq_true h
      subst e
      exact ⟨n, cc, rfl, _, _, _, lk⟩
    · cases h
  · cases h
theorem codB_ok {K : PySem.W.Frag} {q file : Str} {v : Value} (h : codB K q file v = true) : ∃ cd, v = .ref cd ∧ PySem.W.codeIn K (.ref cd) q = true ∧ ∃ ccl cdd vs ccs f tf, K.lookup cd = some ⟨ccl, cdd, .fields vs, ccs⟩ ∧ vs[2]? = some (.str f tf) ∧ (file == f) = true := by
  unfold codB at h
  split at h
  · rename_i cd
    obtain ⟨h1, h2⟩ := He.ba h
    clear h
    split at h2
    · rename_i a b vs c lk
      split at h2
      · rename_i f tf hf
        exact ⟨cd, rfl, h1, _, _, _, _, _, _, lk, hf, h2⟩
      · cases h2
    · cases h2
  · cases h
/-- the facts of an error's class -/
def errB (K : PySem.W.Frag) (cn file : Str) : Bool :=
  clsB K (He.ga K cn) && (He.eqO (PySem.W.findIn K (.ref (He.ga K cn)) "__setattr__") (some (some (.builtin "object.__setattr__"))) && (He.eqO (PySem.W.findIn K (.ref (He.ga K cn)) "__getattribute__") (some (some (.builtin "BaseException.__getattribute__"))) &&
  (He.eqO (PySem.W.findIn K (.ref (He.ga K cn)) "__getattr__") (some none) && (He.eqO (PySem.W.findIn K (.ref (He.ga K cn)) (fldOf cn)) (some none) && (He.eqO (PySem.W.findIn K (.ref (He.ga K cn)) "__init__") (some (some (.ref (iniAd K cn)))) &&
  (decide (PySem.W.typeIn K (.ref (iniAd K cn)) = some (.type "function")) && (PySem.W.keepIn K (.ref (He.ga K cn)) && (oB (PySem.W.subIn K (.ref (He.ga K cn)) (.type "BaseException")) (some true) && (oB (PySem.W.subIn K (.ref (He.ga K cn)) (.type "ValueError")) (some true) &&
  (decide (PySem.W.typeIn K (.ref (He.ga K cn)) = some (.type "type")) && (PySem.W.hasDictIn K (He.ga K cn) && (oB (PySem.W.exmOne K (.ref (He.ga K cn)) (.ref (He.ga K cn))) (some true) && (He.eqO (PySem.W.nsIn K cStatics "thirdparty.any") (some none) &&
  (He.eqO (PySem.W.ks_superIn K (He.ga K cn) (He.ga K cn) "__init__") (some (some (.builtin "ValueError.__init__"))) && (PySem.W.excInitIn K (He.ga K cn) [.type "ValueError", .type "Exception", .type "BaseException", .type "object"] "ValueError.__new__" &&
  (oB (PySem.W.mroIn K (He.ga K cn) (.ref (He.ga K cn))) (some true) && (match K.lookup (iniAd K cn) with
    | some ⟨_, _, .func fd, _⟩ => fdB K (He.ga K cn) file fd
    | _ => false)))))))))))))))))
theorem clsB_ok {K : PySem.W.Frag} {C : Addr} (h : clsB K C = true) : ∃ nm q N bs bm sn sub ab col dd k0 k1 k2 k3 k5, K.lookup C = some (excClassObj nm q C N bs bm true sn sub ab col dd k0 k1 k2 k3 k5 "ValueError.__new__") ∧ HandSPX.refsVE bm = true := by
  unfold clsB at h
  split at h
  · rename_i t dd cd sl lk
    obtain ⟨h0, h6⟩ := He.ba h
    clear h
    have e0 := of_decide_eq_true h0
    subst e0
    split at h6
    · rename_i C1 bm k0 k1 k2 k3 n k5 hm hs
      obtain ⟨h1, h7⟩ := He.ba h6
      obtain ⟨h2, h8⟩ := He.ba h7
      obtain ⟨h3, h9⟩ := He.ba h8
      obtain ⟨h4, h5⟩ := He.ba h9
      clear h6 h7 h8 h9
      have e1 := of_decide_eq_true h1
      have e2 := of_decide_eq_true h2
      subst e1 e2
      obtain ⟨n1, n2, n3, n4, n5, n6, n7, n8, n9, n10, n11⟩ := cd
      simp only [Bool.not_eq_true'] at hm h3 h4
      subst hm h3 h4
      have es : sl = #[k0, k1, k2, k3, some (.builtin "ValueError.__new__"), k5] := by
        obtain ⟨l⟩ := sl
        have hs' : l = _ := hs
        rw [hs']
      subst es
      exact ⟨_, _, _, _, bm, _, _, _, _, _, _, _, _, _, _, lk, h5⟩
    · cases h6
  · cases h
/-- the text of an error's __init__, as it stands in the program -/
structure InitT (P : Program) (cn : Str) where
  q : Str
  sn : List (Str × NameKind)
  p1 : Pos
  p2 : Pos
  q1 : Pos
  q2 : Pos
  q3 : Pos
  q4 : Pos
  q5 : Pos
  q6 : Pos
  r1 : Pos
  r2 : Pos
  r3 : Pos
  r4 : Pos
def InitT.val {P : Program} {cn : Str} (t : InitT P cn) : InitV := some ("__init__", t.q, initA t.p1 t.p2 (fldOf cn), .stmts (initB t.q1 t.q2 t.q3 t.q4 t.q5 t.q6 t.r1 t.r2 t.r3 t.r4 (fldOf cn)), scI t.sn, mainGlobals, ["__class__"], builtinsNs)
structure InitT.Ok {P : Program} {cn : Str} (t : InitT P cn) : Prop where
  l1 : t.sn.lookup ("super" : Str) = some .globalImplicit
  l2 : t.sn.lookup ("__class__" : Str) = some .free
  l3 : t.sn.lookup ("self" : Str) = some .local
  l4 : t.sn.lookup (fldOf cn) = some .local
  nc : ∀ z ∈ t.sn, z.2 ≠ .cell
  call : ∃ pl : Sem Bool, ∀ L fI cda cc : Addr, SupCall t.q (scI t.sn) L fI cda cc t.q1 t.q2 t.q3 t.q4 t.q5 (fldOf cn) pl
  top : (P.main.scope.names.lookup ("super" : Str)).isSome = false
theorem errTxt_of {P : Program} {K : PySem.W.Frag} {mg : Str → Option Value} {h : Heap} {cn : Str} {t : InitT P cn} (X : K.In h) (G : h.Ns mainGlobals mg) (ok : t.Ok) (g1 : (He.Fa.glo cn).ok K = true) (g2 : (He.Fa.free "super").ok K = true) (hv : initW K cn = t.val) (hb : errB K cn P.main.file = true) :
    ∃ C fI cc cda, ErrTxt P K mg cn C fI cc cda := by
  unfold errB at hb
  obtain ⟨b1, hb⟩ := He.ba hb
  obtain ⟨b2, hb⟩ := He.ba hb
  obtain ⟨b3, hb⟩ := He.ba hb
  obtain ⟨b4, hb⟩ := He.ba hb
  obtain ⟨b5, hb⟩ := He.ba hb
  obtain ⟨b6, hb⟩ := He.ba hb
  obtain ⟨b7, hb⟩ := He.ba hb
  obtain ⟨b8, hb⟩ := He.ba hb
  obtain ⟨b9, hb⟩ := He.ba hb
  obtain ⟨b10, hb⟩ := He.ba hb
  obtain ⟨b11, hb⟩ := He.ba hb
  obtain ⟨b12, hb⟩ := He.ba hb
  obtain ⟨b13, hb⟩ := He.ba hb
  obtain ⟨b14, hb⟩ := He.ba hb
  obtain ⟨b15, hb⟩ := He.ba hb
  obtain ⟨b16, hb⟩ := He.ba hb
  obtain ⟨b17, hb⟩ := He.ba hb
  unfold initW at hv
  cases lk : K.lookup (iniAd K cn) with
  | none => rw [lk] at hv; cases hv
  | some o =>
    obtain ⟨oc, od, dt, osl⟩ := o
    rw [lk] at hv hb
    cases dt with
    | func fd =>
      obtain ⟨n1, n2, n3, n4, n5, n6, n7, n8, n9, n10, n11, n12, n13, n14, n15⟩ := fd
      have e : (some (n1, n2, n3, n4, n5, n6, n7.map (·.1), n15) : InitV) = t.val := hv
      unfold InitT.val at e
      simp only [Option.some.injEq, Prod.mk.injEq] at e
      obtain ⟨e1, e2, e3, e4, e5, e6, e7, e8⟩ := e
      subst e1 e2 e3 e4 e5 e6 e8
      obtain ⟨z1, z2⟩ := He.ba (show (noV n8 && (noV n9 && (celB K (He.ga K cn) n7 && codB K t.q P.main.file n13))) = true from hb)
      obtain ⟨z3, z4⟩ := He.ba z2
      obtain ⟨z5, z6⟩ := He.ba z4
      have y1 := noV_ok z1
      have y2 := noV_ok z3
      obtain ⟨nm, cc, y3, cel⟩ := celB_ok z5
      obtain ⟨cd, y4, d1, cod⟩ := codB_ok z6
      subst y1 y2 y3 y4
      have enm : nm = "__class__" := by
        have z : [nm] = [("__class__" : Str)] := e7
        exact (List.cons.inj z).1
      subst enm
      obtain ⟨pl, hpl⟩ := ok.call
      exact ⟨He.ga K cn, iniAd K cn, cc, cd, He.glo_ok X G g1, He.free_ok X G g2, clsB_ok b1, He.eqO_ok b2, He.eqO_ok b3, He.eqO_ok b4, He.eqO_ok b5, He.eqO_ok b6, of_decide_eq_true b7, b8, of_decide_eq_true b9, of_decide_eq_true b10, of_decide_eq_true b11, b12, of_decide_eq_true b13, He.eqO_ok b14, He.eqO_ok b15, b16, of_decide_eq_true b17, cel, cod, ok.top,
        t.q, t.sn, oc, od, n10, n11, n12, n14, osl, _, _, _, _, _, _, _, _, _, _, _, _, lk, d1, ok.l1, ok.l2, ok.l3, ok.l4, ok.nc, pl, fun L => hpl L _ _ _⟩
    | _ => cases hv
/-! ### the Hook: the written part reaches the statics too -/
abbrev AlZ : Type := He.AlX × List InitV
/-- an error's class: its name, its __init__ -/
abbrev ErrD (P : Program) : Type := (cn : Str) × InitT P cn
def zK (g : Addr → Option Obj) (n : Nat) : PySem.W.Frag := He.frT g (cStatics :: He.asD g n)
def obsZ {P : Program} (n : Nat) (fa : List He.Fa) (fn : List He.DefD) (es : List (ErrD P)) (g : Addr → Option Obj) : AlZ :=
  ((He.obsT fa fn [] (zK g n), (es.all fun e => errB (zK g n) e.1 P.main.file) && He.tabsB g [("law", none)] (zK g n)), es.map fun e => initW (zK g n) e.1)
def valZ {P : Program} (fn : List He.DefD) (es : List (ErrD P)) (w : World) : AlZ := ((He.valT fn [] w, true), es.map fun e => e.2.val)
structure SaysZ {P : Program} (fa : List He.Fa) (fn : List He.DefD) (es : List (ErrD P)) (w : World) (h : Heap) (K : PySem.W.Frag) : Prop where
  d : He.SaysD fa fn K
  er : ∀ e ∈ es, errB K e.1 P.main.file = true ∧ initW K e.1 = e.2.val
  hd : PySem.W.codeHdIn K (He.cT K ("law", none)).1 (He.cT K ("law", none)).2 = true
  out : K.lookup (He.cT K ("law", none)).2 = none
  empty : h.get? (He.cT K ("law", none)).2 = some { cls := .none, data := .fields #[] }
theorem map_each {α β : Type} {f g : α → β} : ∀ {l : List α}, l.map f = l.map g → ∀ e ∈ l, f e = g e
  | a :: l, h, e, he => by
    rw [List.map_cons, List.map_cons] at h
    obtain ⟨h1, h2⟩ := List.cons.inj h
    rcases List.mem_cons.mp he with rfl | he
    · exact h1
    · exact map_each h2 e he
theorem saysZ_of {P : Program} {n : Nat} {fa : List He.Fa} {fn : List He.DefD} {es : List (ErrD P)} {w : World} {h : Heap} (e : obsZ n fa fn es h.get? = valZ fn es w) : SaysZ fa fn es w h (zK h.get? n) := by
  have e1 : He.obsT fa fn [] (zK h.get? n) = He.valT fn [] w := congrArg (fun z : AlZ => z.1.1) e
  have e2 : ((es.all fun e => errB (zK h.get? n) e.1 P.main.file) && He.tabsB h.get? [("law", none)] (zK h.get? n)) = true := congrArg (fun z : AlZ => z.1.2) e
  have e3 : es.map (fun e => initW (zK h.get? n) e.1) = es.map fun e => e.2.val := congrArg (fun z : AlZ => z.2) e
  obtain ⟨a1, a2⟩ := He.ba e2
  obtain ⟨a3, a4⟩ := He.ba (List.all_eq_true.mp a2 ("law", none) List.mem_cons_self)
  have hit : ∃ o, h.get? (He.cT (zK h.get? n) ("law", none)).2 = some o ∧ He.emptyTab o = true := by
    cases q : h.get? (He.cT (zK h.get? n) ("law", none)).2 with
    | none => rw [q] at a4; cases a4
    | some o => rw [q] at a4; exact ⟨o, rfl, a4⟩
  obtain ⟨o, q, z⟩ := hit
  exact ⟨congrArg (fun z : He.AlT => z.1) e1, fun e he => ⟨List.all_eq_true.mp a1 e he, map_each e3 e he⟩, a3, He.frT_none q z, by rw [q, He.emptyTab_eq z]⟩
def hookZ {P : Program} (n : Nat) (fa : List He.Fa) (fn : List He.DefD) (es : List (ErrD P)) : PySem.W.Hook where
  α := AlZ
  obs := fun s => obsZ n fa fn es s.heap.get?
  val := fun w => valZ fn es w
  says := fun w h => ∃ K : PySem.W.Frag, K.In h ∧ SaysZ fa fn es w h K
  of := fun _ _ e => ⟨_, He.frT_in, saysZ_of e⟩
  keeps := fun _ _ _ ⟨K, hK, c⟩ k => ⟨K, PySem.W.Frag.In.keeps hK k, ⟨c.d, c.er, c.hd, c.out, k _ _ c.empty⟩⟩
theorem obsZ_eq {P : Program} {n : Nat} {fa : List He.Fa} {fn : List He.DefD} {es : List (ErrD P)} {g : Addr → Option Obj} {s : Shared} (h : ∀ a, g a = s.heap.get? a) : obsZ n fa fn es g = (hookZ n fa fn es).obs s := by
  have e : g = s.heap.get? := funext h
  rw [e] <;> rfl
section
variable {P : Program} {fa : List He.Fa} {fn : List He.DefD} {es : List (ErrD P)} {w : World} {h : Heap} {K : PySem.W.Frag} {mg : Str → Option Value}
def defOf (x : Str) (st : Stmt) : He.DefD := ⟨(x, none), x, x, defArgs st, defBody st, defScope st, [], []⟩
theorem SaysZ.fact (c : SaysZ fa fn es w h K) (f : He.Fa) (hf : f ∈ fa) : f.ok K = true := c.d.facts hf
theorem SaysZ.top (c : SaysZ fa fn es w h K) (X : K.In h) (G : h.Ns mainGlobals mg) {x : Str} {st : Stmt} (hd : defOf x st ∈ fn) (hg : He.Fa.glo x ∈ fa) : TopD K mg x st := by
  obtain ⟨fd, F⟩ := c.d.defs hd
  exact ⟨He.fAd K (x, none), fd, F, He.glo_ok X G (c.fact _ hg)⟩
theorem SaysZ.err (c : SaysZ fa fn es w h K) (X : K.In h) (G : h.Ns mainGlobals mg) {cn : Str} {t : InitT P cn} (ok : t.Ok) (he : (⟨cn, t⟩ : ErrD P) ∈ es) (g1 : He.Fa.glo cn ∈ fa) (g2 : He.Fa.free "super" ∈ fa) : ∃ C fI cc cda, ErrTxt P K mg cn C fI cc cda :=
  errTxt_of X G ok (c.fact _ g1) (c.fact _ g2) (c.er _ he).2 (c.er _ he).1
end
/-- the law's promise at the head's heap -/
theorem lawAt_of {l : PySem.W.OpenLaw} {w : World} {K : PySem.W.Frag} {mg : Str → Option Value} {h : Heap} {k : Nat} {fa : List He.Fa} {fn : List He.DefD} {es : List (ErrD l.prog)} {st : Stmt} (X : K.In h) (c : SaysZ fa fn es w h K) (hd : defOf "law" st ∈ fn)
    (hb : ∀ (kV doc pm : Value) (an : Option Addr) (cdv ct : Value) (us : List Value), us.length = (["script"] : List Str).length → bindArgs (PySem.W.fnOf "law" "law" (defArgs st) (defBody st) (defScope st) .none kV doc pm an cdv ct) ⟨us, []⟩ = pure ((["script"] : List Str).zip us))
    (hF : ∀ {fd : FuncData} {Tb : Addr} {base : Heap}, FunD K "law" "law" (defArgs st) (defBody st) (defScope st) [] [] (He.fAd K ("law", none)) fd → LamX.TabB base mg (He.codeOf K ("law", none)) Tb → FnOk l.prog w K mg base (L2.CX l.prog w) k (He.fAd K ("law", none)) fd ["script"] (spLaw K Tb)) :
    LamX.LawAtS l w K (L2.CX l.prog w) k 63 "script" mg (He.fAd K ("law", none)) h := by
  obtain ⟨fd, F⟩ := c.d.defs hd
  refine ⟨fd, [He.cT K ("law", none)], spLaw K (He.cT K ("law", none)).2, fun p hp => ?_, fun p hp => ?_, fun p hp => ?_, fun s u => ?_, fun H a ns hl hbt hT hS => ?_, fun base _ _ hT => hF F (hT _ List.mem_cons_self)⟩
  · rcases List.mem_cons.mp hp with rfl | z
    · exact c.empty
    · exact absurd z List.not_mem_nil
  · rcases List.mem_cons.mp hp with rfl | z
    · exact c.out
    · exact absurd z List.not_mem_nil
  · rcases List.mem_cons.mp hp with rfl | z
    · exact PySem.W.codeHd_of_K X c.hd
    · exact absurd z List.not_mem_nil
  · exact F.bindsA hb s [u] rfl
  · exact ⟨a, ns, rfl, hS, hT _ List.mem_cons_self, hl, hbt, fun _ => rfl⟩
theorem cx_false {P : Program} {w : World} {H : Hp} {s : Shared} {e : Value} {s' : Shared} (h : L2.CX P w [] H s (fun _ _ _ => False) e s') : False := by
  obtain ⟨_, _, _, _, _, _, _, _, _, _, _, _, z⟩ := h
  exact z
end Fz

set_option maxRecDepth 100000
set_option maxHeartbeats 2000000
/-! FW: the readings laid open; loops and comprehensions by words of one's own. -/
namespace Fz
open PySem PySem.Spec L2
theorem forL_inv {wg : WG} {wb : WS} {x : EX} {E : WEnds} {ds : List D} (I : Nat → Env → Prop) {ρ : Env} (h0 : I 0 ρ)
    (hs : ∀ i d ρ, ds[i]? = some d → I i ρ → ∀ N : Env → Prop, (∀ ρ2, I (i + 1) ρ2 → N ρ2) → wg d ρ fun ρ1 => wb x { nx := N, rt := E.rt, bk := E.nx, ct := N, rn := E.rn } ρ1)
    (hd : ∀ ρ, I ds.length ρ → E.nx ρ) : forL wg wb x E ds ρ := by
  have key : ∀ (n i : Nat) (ρ : Env), i + n = ds.length → I i ρ → forL wg wb x E (ds.drop i) ρ := by
    intro n
    induction n with
    | zero =>
      intro i ρ e h
      have ei : i = ds.length := by omega
      subst ei
      rw [List.drop_length]
      exact hd ρ h
    | succ n ih =>
      intro i ρ e h
      have hi : i < ds.length := by omega
      rw [List.drop_eq_getElem_cons hi]
      exact hs i _ ρ (List.getElem?_eq_getElem hi) h _ fun ρ2 h2 => ih (i + 1) ρ2 (by omega) h2
  exact key ds.length 0 ρ (by omega) h0
theorem lcL_inv {wg : WG} {wt : WT} {we : WE} {vs : List Nat} {ds : List D} {P : List D → Env → Prop} (I : Nat → List D → Env → Prop) {ρ : Env} (h0 : I 0 [] ρ)
    (hs : ∀ i acc d ρ, ds[i]? = some d → I i acc ρ → ∀ N : List D → Env → Prop, (∀ a ρ2, I (i + 1) a ρ2 → N a ρ2) → wg d ρ fun ρ1 => wt exF ρ1 fun b ρ2 => if b = true then we exF ρ2 fun r ρ3 => acc.length < 100000 ∧ N (acc ++ [r]) (wipeE ρ3 vs) else N acc (wipeE ρ2 vs))
    (hd : ∀ acc ρ, I ds.length acc ρ → P acc (wipeE ρ vs)) : lcL wg wt we vs ds [] ρ P := by
  have key : ∀ (n i : Nat) (acc : List D) (ρ : Env), i + n = ds.length → I i acc ρ → lcL wg wt we vs (ds.drop i) acc ρ P := by
    intro n
    induction n with
    | zero =>
      intro i acc ρ e h
      have ei : i = ds.length := by omega
      subst ei
      rw [List.drop_length]
      exact hd acc ρ h
    | succ n ih =>
      intro i acc ρ e h
      have hi : i < ds.length := by omega
      rw [List.drop_eq_getElem_cons hi]
      exact hs i acc _ ρ (List.getElem?_eq_getElem hi) h _ fun a ρ2 h2 => ih (i + 1) a ρ2 (by omega) h2
  exact key ds.length 0 [] ρ (by omega) h0
/-- [f d for d in ds if keep d], nothing else touched -/
theorem lcL_map {wg : WG} {wt : WT} {we : WE} {vs : List Nat} {ds : List D} {P : List D → Env → Prop} {ρ : Env} (keep : D → Bool) (f : D → D) (hl : ds.length ≤ 100000) (hw : wipeE ρ vs = ρ)
    (hs : ∀ d ∈ ds, ∀ (acc : List D) (N : List D → Env → Prop), acc.length < 100000 → N (if keep d = true then acc ++ [f d] else acc) ρ → wg d ρ fun ρ1 => wt exF ρ1 fun b ρ2 => if b = true then we exF ρ2 fun r ρ3 => acc.length < 100000 ∧ N (acc ++ [r]) (wipeE ρ3 vs) else N acc (wipeE ρ2 vs))
    (hd : P ((ds.filter keep).map f) ρ) : lcL wg wt we vs ds [] ρ P := by
  have key : ∀ (l : List D) (acc : List D), (∀ d ∈ l, d ∈ ds) → acc.length + l.length ≤ 100000 → P (acc ++ (l.filter keep).map f) ρ → lcL wg wt we vs l acc ρ P := by
    intro l
    induction l with
    | nil =>
      intro acc _ _ h
      show P acc (wipeE ρ vs)
      rw [hw]
      simpa using h
    | cons d l ih =>
      intro acc hm hl h
      rw [List.length_cons] at hl
      refine hs d (hm d List.mem_cons_self) acc (fun a ρ => lcL wg wt we vs l a ρ P) (by omega) (ih _ (fun e he => hm e (List.mem_cons_of_mem _ he)) ?_ ?_)
      · split
        · rw [List.length_append, List.length_singleton]; omega
        · omega
      · cases k : keep d with
        | true => simpa [List.filter_cons, k] using h
        | false => simpa [List.filter_cons, k] using h
  exact key ds [] (fun _ h => h) (by simpa using hl) (by simpa using hd)

/-! ### small defs -/
def isIn (v : D) (l h : Int) : Bool := match v with
  | .int i => decide (l ≤ i) && decide (i ≤ h)
  | _ => false
def isInt (v : D) : Bool := match v with
  | .int _ => true
  | _ => false
def isTup (v : D) (a b : Int) : Bool := match v with
  | .tuple ds => decide (a ≤ (ds.length : Int)) && decide ((ds.length : Int) ≤ b)
  | _ => false
def sp_demand : PSp := fun ds P x => match ds with
  | [.bool b, .str s] => (b = true → P .none) ∧ (b = false → x "BadArgument" s)
  | _ => False
def sp_is_in : PSp := fun ds P _ => match ds with
  | [v, .int l, .int h] => P (.bool (isIn v l h))
  | _ => False
def sp_is_integer : PSp := fun ds P _ => match ds with
  | [v] => P (.bool (isInt v))
  | _ => False
def sp_is_tuple : PSp := fun ds P _ => match ds with
  | [v, .int a, .int b] => P (.bool (isTup v a b))
  | _ => False
def sp_divisor_of : PSp := fun ds P _ => match ds with
  | [.int a, .int b] => P (.int (Int.gcd a b))
  | _ => False
def w_demand : WS := wIf (wNotT (wTru (wVar 0))) (wRaise "BadArgument" (wVar 1)) (wNext)
def w_is_in : WS := wRet (wAndV (wIsi "int" (wVar 0)) (wAndV (wNotV (wIsi "bool" (wVar 0))) (wBl (wChT oLe oLe (wVar 1) (wVar 0) (wVar 2)))))
def w_is_integer : WS := wRet (wAndV (wIsi "int" (wVar 0)) (wNotV (wIsi "bool" (wVar 0))))
def w_is_tuple : WS := wRet (wAndV (wIsi "tuple" (wVar 0)) (wBl (wChT oLe oLe (wVar 1) (wFn oLen (wVar 0)) (wVar 2))))
def w_divisor_of : WS := wSeq (wPar 0 1 (wCons (wFn oAbs (wVar 0)) (wCons (wFn oAbs (wVar 1)) (wNil))))
  (wSeq (wWhile (wCmT oNe (wVar 1) (wC (.int 0))) (wPar 0 1 (wCons (wVar 1) (wCons (wOp oMod (wVar 0) (wVar 1)) (wNil)))))
  (wRet (wVar 0)))
theorem len_demand : ∀ ds P ex, sp_demand ds P ex → ds.length = 2 := by
  intro ds P ex h
  unfold sp_demand at h
  split at h <;> first | rfl | exact h.elim
theorem ok_demand {ds : List D} {P : D → Prop} {ex : EX} (h : sp_demand ds P ex) : w_demand ex (endF P) (env0 ["is_good", "name"] ds) := by
  unfold sp_demand at h
  split at h
  · rename_i b s
    cases b <;> simp_all [w_demand]
  · exact h.elim
theorem ok_is_in {ds : List D} {P : D → Prop} {ex : EX} (h : sp_is_in ds P ex) : w_is_in ex (endF P) (env0 ["value", "low", "high"] ds) := by
  unfold sp_is_in at h
  split at h
  · rename_i v l k
    cases v <;> simp_all [w_is_in, isIn]
    rename_i i
    by_cases c : l ≤ i
    · simp_all
    · rw [decide_eq_false c] at h
      simp_all
      intro z
      omega
  · exact h.elim
theorem len_is_in : ∀ ds P ex, sp_is_in ds P ex → ds.length = 3 := by
  intro ds P ex h
  unfold sp_is_in at h
  split at h <;> first | rfl | exact h.elim
theorem len_is_integer : ∀ ds P ex, sp_is_integer ds P ex → ds.length = 1 := by
  intro ds P ex h
  unfold sp_is_integer at h
  split at h <;> first | rfl | exact h.elim
theorem ok_is_integer {ds : List D} {P : D → Prop} {ex : EX} (h : sp_is_integer ds P ex) : w_is_integer ex (endF P) (env0 ["value"] ds) := by
  unfold sp_is_integer at h
  split at h
  · rename_i v
    cases v <;> simp_all [w_is_integer, isInt]
  · exact h.elim
theorem len_is_tuple : ∀ ds P ex, sp_is_tuple ds P ex → ds.length = 3 := by
  intro ds P ex h
  unfold sp_is_tuple at h
  split at h <;> first | rfl | exact h.elim
theorem ok_is_tuple {ds : List D} {P : D → Prop} {ex : EX} (h : sp_is_tuple ds P ex) : w_is_tuple ex (endF P) (env0 ["value", "least", "most"] ds) := by
  unfold sp_is_tuple at h
  split at h
  · rename_i v a b
    cases v <;> simp_all [w_is_tuple, isTup]
    rename_i es
    by_cases c : a ≤ (es.length : Int)
    · simp_all
    · rw [decide_eq_false c] at h
      simp_all
      intro z
      omega
  · exact h.elim
theorem len_divisor_of : ∀ ds P ex, sp_divisor_of ds P ex → ds.length = 2 := by
  intro ds P ex h
  unfold sp_divisor_of at h
  split at h <;> first | rfl | exact h.elim
theorem ok_divisor_of {ds : List D} {P : D → Prop} {ex : EX} (h : sp_divisor_of ds P ex) : w_divisor_of ex (endF P) (env0 ["one", "other"] ds) := by
  unfold sp_divisor_of at h
  split at h
  · rename_i a b
    simp [w_divisor_of]
    refine ⟨fun m ρ => ∃ i j : Nat, ρ = [.dat (.int i), .dat (.int j)] ∧ m = j ∧ Nat.gcd i j = Int.gcd a b, ⟨b.natAbs, a.natAbs, b.natAbs, ?_, rfl, rfl⟩, ?_⟩
    · have e : ∀ z : Int, (if z < 0 then -z else z) = (z.natAbs : Int) := fun z => by
        split <;> omega
      rw [e, e]
    · rintro j ρ ⟨i, _, rfl, rfl, hg⟩
      simp
      by_cases hj : j = 0
      · subst hj
        simp at hg ⊢
        rw [hg]
        exact h
      · have hz : ¬ ((j : Int) = 0) := by omega
        rw [if_neg hj]
        refine ⟨by omega, i % j, Nat.mod_lt _ (by omega), j, i % j, ⟨rfl, by simp⟩, rfl, ?_⟩
        rw [← hg, Nat.gcd_comm i j, Nat.gcd_rec j i, Nat.gcd_comm]
  · exact h.elim
end Fz

set_option maxRecDepth 100000
set_option maxHeartbeats 2000000
/-! FC: defs that all laws share. -/
namespace Fz
open PySem PySem.Spec L2
theorem Sz.of {i : Int} {n : Nat} (h : i.natAbs < 2 ^ n) (hn : n ≤ 400000) : Sz i := Nat.lt_of_lt_of_le h (Nat.pow_le_pow_right (by omega) hn)
theorem Sz.small {i : Int} (h1 : -1000000000000000000000000000000 ≤ i) (h2 : i ≤ 1000000000000000000000000000000) : Sz i := .of (n := 200) (by
  have : (1000000000000000000000000000000 : Nat) < 2 ^ 200 := by decide
  omega) (by omega)
theorem lt_2_8999 {i : Int} (h1 : -1000000000000000000000000000000 ≤ i) (h2 : i ≤ 1000000000000000000000000000000) : i.natAbs < 2 ^ 8999 := by
  have a : (1000000000000000000000000000000 : Nat) < 2 ^ 200 := by decide
  have b : (2 : Nat) ^ 200 ≤ 2 ^ 8999 := Nat.pow_le_pow_right (by omega) (by omega)
  omega
/-! ### dice -/
def Dc (n : Nat) (cs : List D) : Prop := ∃ a b c : Int, cs = [.int a, .int b, .int c] ∧ 0 ≤ a ∧ 0 ≤ b ∧ b < 2147480009 ∧ 0 ≤ c ∧ c ≤ n
theorem Dc.mono {n m : Nat} {cs : List D} (h : Dc n cs) (hn : n ≤ m) : Dc m cs := by
  obtain ⟨a, b, c, e, h1, h2, h3, h4, h5⟩ := h
  exact ⟨a, b, c, e, h1, h2, h3, h4, by omega⟩
def sp__law_roll : BSp := fun cs ds P => match ds with
  | [.int t] => ∃ n, Dc n cs ∧ n < 1000000 ∧ 0 < t ∧ t < 1000000000000 ∧ ∀ r cs', 0 ≤ r → r < t → Dc (n + 1) cs' → P (.int r) cs'
  | _ => False
def sp__law_pick : BSp := fun cs ds P => match ds with
  | [.list xs] => ∃ n, Dc n cs ∧ n < 1000000 ∧ 0 < xs.length ∧ xs.length < 100000 ∧ ∀ d cs', d ∈ xs → Dc (n + 1) cs' → P d cs'
  | _ => False
def sp__law_dice : NSp := fun ds P => match ds with
  | [.list xs, .int spot] => (∃ ns : List Int, xs = ns.map .int ∧ ns.length ≤ 63) ∧ 0 ≤ spot ∧ spot ≤ 1000 ∧ ∀ cs, Dc 0 cs → P cs
  | _ => False
def w__law_dice : WS := wSeq (wAsg 2 (wIfE (wCmT oLt (wVar 1) (wFn oLen (wVar 0))) (wOp oIx (wVar 0) (wVar 1)) (wOp oAdd (wOp oMul (wC (.int 811)) (wVar 1)) (wC (.int 37)))))
  (wSeq (wAsg 3 (wOp oAdd (wC (.int 700001)) (wOp oMul (wC (.int 6947)) (wVar 1))))
  (wSeq (wFor (wIt (wFrz (wOpN oCat (wFrz (wSlL (wVar 0) (wNo) (wEnd (wC (.int 6))))) (wFrz (wLst (wCons (wVar 2) (wNil))))))) (wgName 4) (wAsg 3 (wOp oMod (wFn oInt (wOp oAdd (wOp oMul (wVar 3) (wC (.int 69621))) (wOp oMod (wFn oInt (wVar 4)) (wC (.int 2147480009))))) (wC (.int 2147480009)))))
  (wRetL (wLst (wCons (wIfE (wOrT (wCmT oLt (wVar 2) (wC (.int 0))) (wCmT oGe (wVar 2) (wOp oPow (wC (.int 10)) (wC (.int 16))))) (wFn oAbs (wVar 2)) (wC (.int 0))) (wCons (wVar 3) (wCons (wC (.int 0)) (wNil))))))))
def w__law_roll : WS := wSeq (wIf (wCmT oGt (wIxO 0 (wC (.int 0))) (wC (.int 0))) (wSeq (wAsg 2 (wOp oMod (wFn oInt (wIxO 0 (wC (.int 0)))) (wVar 1)))
  (wSeq (wSetI 0 (wC (.int 0)) (wOp oDiv (wIxO 0 (wC (.int 0))) (wVar 1)))
  (wRet (wVar 2)))) (wNext))
  (wSeq (wSetI 0 (wC (.int 2)) (wOp oAdd (wIxO 0 (wC (.int 2))) (wC (.int 1))))
  (wSeq (wSetI 0 (wC (.int 1)) (wOp oMod (wFn oInt (wOp oAdd (wOp oAdd (wOp oMul (wIxO 0 (wC (.int 1))) (wC (.int 48271))) (wOp oMul (wOp oMul (wIxO 0 (wC (.int 2))) (wIxO 0 (wC (.int 2)))) (wC (.int 2003)))) (wC (.int 91)))) (wC (.int 2147480009))))
  (wRet (wOp oMod (wFn oInt (wOp oDiv (wIxO 0 (wC (.int 1))) (wC (.int 197)))) (wVar 1)))))
def w__law_pick : WS := wRet (wOp oIx (wVar 1) (wCallB sp__law_roll 0 (wCons (wFn oLen (wVar 1)) (wNil))))
theorem len__law_roll : ∀ cs ds P, sp__law_roll cs ds P → ds.length + 1 = 2 := by
  intro cs ds P h
  unfold sp__law_roll at h
  split at h <;> first | rfl | exact h.elim
theorem len__law_pick : ∀ cs ds P, sp__law_pick cs ds P → ds.length + 1 = 2 := by
  intro cs ds P h
  unfold sp__law_pick at h
  split at h <;> first | rfl | exact h.elim
theorem len__law_dice : ∀ ds P, sp__law_dice ds P → ds.length = 2 := by
  intro ds P h
  unfold sp__law_dice at h
  split at h <;> first | rfl | exact h.elim
theorem ixN_0 (n : Nat) (h : 0 < n) : ixN n 0 = some 0 := by unfold ixN; simp [h]
theorem ixN_nat (n k : Nat) (h : k < n) : ixN n (k : Int) = some k := by
  unfold ixN
  rw [if_pos (by omega), if_pos (by omega)]
  simp
theorem atI_nat {α : Type} (ds : List α) (k : Nat) (h : k < ds.length) : atI ds (k : Int) = ds[k]? := by
  unfold atI
  rw [ixN_nat _ _ h]
  rfl
theorem ix3 : ixN 3 0 = some 0 ∧ ixN 3 1 = some 1 ∧ ixN 3 2 = some 2 := by decide
theorem at30 {α : Type} (a b c : α) : atI [a, b, c] 0 = some a ∧ atI [a, b, c] 1 = some b ∧ atI [a, b, c] 2 = some c := by
  obtain ⟨h1, h2, h3⟩ := ix3
  refine ⟨?_, ?_, ?_⟩ <;> (unfold atI; simp only [List.length_cons, List.length_nil]; first | (rw [h1]; rfl) | (rw [h2]; rfl) | (rw [h3]; rfl))
theorem ok__law_roll {cs ds : List D} {P : D → List D → Prop} (h : sp__law_roll cs ds P) : w__law_roll exF (endB P) (envB ["dice", "total", "found"] cs ds) := by
  unfold sp__law_roll at h
  split at h
  · rename_i t
    obtain ⟨n, ⟨a, b, c, rfl, h1, h2, h3, h4, h5⟩, hn, t1, t2, hP⟩ := h
    simp [w__law_roll, at30, ix3]
    by_cases ha : 0 < a
    · simp [ha, at30, ix3]
      refine ⟨by omega, ⟨by omega, lt_2_8999 (by omega) (by omega)⟩, ?_⟩
      exact hP _ _ (Int.emod_nonneg _ (by omega)) (Int.emod_lt_of_pos _ (by omega)) ⟨_, _, _, rfl, Int.ediv_nonneg (by omega) (by omega), h2, h3, h4, by omega⟩
    · simp [ha, at30, ix3]
      have q1 := Int.emod_nonneg (b * 48271 + (c + 1) * (c + 1) * 2003 + 91) (b := 2147480009) (by omega)
      have q2 := Int.emod_lt_of_pos (b * 48271 + (c + 1) * (c + 1) * 2003 + 91) (b := 2147480009) (by omega)
      have q3 : (c + 1) * (c + 1) ≤ 1000001 * 1000001 := Int.mul_le_mul (by omega) (by omega) (by omega) (by omega)
      have q4 : 0 ≤ (c + 1) * (c + 1) := Int.mul_nonneg (by omega) (by omega)
      refine ⟨⟨.small (by omega) (by omega), .small (by omega) (by omega)⟩, .small (by omega) (by omega), ⟨.small (by omega) (by omega), .small (by omega) (by omega)⟩, show (197 : Nat) < 2 ^ 8999 from lt_2_8999 (i := 197) (by omega) (by omega), t1, ?_⟩
      exact hP _ _ (Int.emod_nonneg _ (by omega)) (Int.emod_lt_of_pos _ (by omega)) ⟨_, _, _, rfl, h1, q1, q2, by omega, by omega⟩
  · exact h.elim
theorem ok__law_pick {cs ds : List D} {P : D → List D → Prop} (h : sp__law_pick cs ds P) : w__law_pick exF (endB P) (envB ["dice", "things"] cs ds) := by
  unfold sp__law_pick at h
  split at h
  · rename_i xs
    obtain ⟨n, hd, hn, l1, l2, hP⟩ := h
    simp [w__law_pick, sp__law_roll]
    refine ⟨n, hd, hn, by omega, by omega, fun r cs' r0 r1 hd' => ?_⟩
    obtain ⟨k, rfl⟩ : ∃ k : Nat, r = k := ⟨r.toNat, by omega⟩
    have hk : k < xs.length := by omega
    rw [atI_nat xs k hk, List.getElem?_eq_getElem hk]
    exact hP _ _ (List.getElem_mem hk) hd'
  · exact h.elim
theorem ok__law_dice {ds : List D} {P : List D → Prop} (h : sp__law_dice ds P) : w__law_dice exF { nx := fun _ => False, rt := fun _ _ => False, rn := fun es _ => P es } (env0 ["script", "spot", "own", "mixed", "cell"] ds) := by
  unfold sp__law_dice at h
  split at h
  · rename_i xs spot
    obtain ⟨⟨ns, rfl, hl⟩, h0, h1, hP⟩ := h
    -- the own cell
    have key : ∀ own : Int, (wSeq (wAsg 3 (wOp oAdd (wC (.int 700001)) (wOp oMul (wC (.int 6947)) (wVar 1))))
  (wSeq (wFor (wIt (wFrz (wOpN oCat (wFrz (wSlL (wVar 0) (wNo) (wEnd (wC (.int 6))))) (wFrz (wLst (wCons (wVar 2) (wNil))))))) (wgName 4) (wAsg 3 (wOp oMod (wFn oInt (wOp oAdd (wOp oMul (wVar 3) (wC (.int 69621))) (wOp oMod (wFn oInt (wVar 4)) (wC (.int 2147480009))))) (wC (.int 2147480009)))))
  (wRetL (wLst (wCons (wIfE (wOrT (wCmT oLt (wVar 2) (wC (.int 0))) (wCmT oGe (wVar 2) (wOp oPow (wC (.int 10)) (wC (.int 16))))) (wFn oAbs (wVar 2)) (wC (.int 0))) (wCons (wVar 3) (wCons (wC (.int 0)) (wNil)))))))) exF { nx := fun _ => False, rt := fun _ _ => False, rn := fun es _ => P es } [.dat (.list (ns.map .int)), .dat (.int spot), .dat (.int own), .emp, .emp] := by
      intro own
      simp [wFor]
      refine ⟨⟨.small (by omega) (by omega), .small (by omega) (by omega)⟩, ?_, ?_⟩
      · unfold cutD
        simp
        omega
      · refine forL_inv (fun i ρ => ∃ (m : Int) (c : Slot), ρ = [.dat (.list (ns.map .int)), .dat (.int spot), .dat (.int own), .dat (.int m), c] ∧ 0 ≤ m ∧ m < 10000000000 ∧ (0 < i → m < 2147480009)) ⟨_, _, rfl, by omega, by omega, by omega⟩ ?_ ?_
        · rintro i d ρ hd ⟨m, c, rfl, m0, m1, _⟩ N hN
          have hm : ∃ z : Int, d = .int z := by
            have hm := List.mem_of_getElem? hd
            rcases List.mem_append.mp hm with q | q
            · unfold cutD at q
              have q2 := List.mem_of_mem_drop (List.mem_of_mem_take q)
              obtain ⟨z, _, e⟩ := List.mem_map.mp q2
              exact ⟨z, e.symm⟩
            · rcases List.mem_cons.mp q with q | q
              · exact ⟨own, q⟩
              · exact absurd q List.not_mem_nil
          obtain ⟨z, rfl⟩ := hm
          simp
          refine ⟨⟨.small (by omega) (by omega), .small (by omega) (by omega)⟩, hN _ ⟨_, _, rfl, Int.emod_nonneg _ (by omega), ?_, fun _ => Int.emod_lt_of_pos _ (by omega)⟩⟩
          have := Int.emod_lt_of_pos (m * 69621 + z % 2147480009) (b := 2147480009) (by omega)
          omega
        · rintro ρ ⟨m, c, rfl, m0, m1, m2⟩
          have m3 : m < 2147480009 := m2 (by simp)
          simp
          by_cases c1 : own < 0
          · simp [c1]
            exact hP _ ⟨_, _, _, rfl, by omega, m0, m3, by omega, by omega⟩
          · simp [c1]
            by_cases c2 : (10000000000000000 : Int) ≤ own
            · simp [c2]
              exact hP _ ⟨_, _, _, rfl, by omega, m0, m3, by omega, by omega⟩
            · simp [c2]
              exact hP _ ⟨_, _, _, rfl, by omega, m0, m3, by omega, by omega⟩
    simp [w__law_dice]
    by_cases c : spot < ns.length
    · obtain ⟨k, rfl⟩ : ∃ k : Nat, spot = k := ⟨spot.toNat, by omega⟩
      have hk : k < (ns.map PyData.int).length := by simp; omega
      rw [atI_nat _ k hk]
      have hk2 : k < ns.length := by omega
      simp [hk2]
      have := key ns[k]
      simpa using this
    · have c' : ¬ spot < (ns.length : Int) := c
      rw [if_neg c']
      refine ⟨⟨.small (by omega) (by omega), .small (by omega) (by omega)⟩, ?_⟩
      have := key (811 * spot + 37)
      simpa using this
  · exact h.elim
end Fz

set_option maxRecDepth 100000
set_option maxHeartbeats 2000000
/-! FR: fractions. -/
namespace Fz
open PySem PySem.Spec L2
abbrev Fr := Int × Int
def frD (x : Fr) : D := .tuple [.int x.1, .int x.2]
@[simp] theorem frD_mk (a b : Int) : frD (a, b) = .tuple [.int a, .int b] := rfl
/-- p / q in lowest terms, 0 < q -/
def frac (p q : Int) : Fr := (p / (Int.gcd p q : Int), q / (Int.gcd p q : Int))
def addF (x y : Fr) : Fr := frac (x.1 * y.2 + y.1 * x.2) (x.2 * y.2)
def cmpF (x y : Fr) : Int := (if x.1 * y.2 - y.1 * x.2 > 0 then 1 else 0) - (if x.1 * y.2 - y.1 * x.2 < 0 then 1 else 0)
def isFrac (v : D) : Bool := match v with
  | .tuple [.int a, .int b] => decide (0 < b) && decide (Int.gcd a b = 1)
  | _ => false
/-- a divisor that is not too great -/
def Dv (q : Int) : Prop := 0 < q ∧ q.natAbs < 2 ^ 8999
def sp_fraction : PSp := fun ds P _ => match ds with
  | [.int p, .int q] => Dv q ∧ P (frD (frac p q))
  | _ => False
def sp_is_fraction : PSp := fun ds P _ => match ds with
  | [v] => P (.bool (isFrac v))
  | _ => False
def sp_plus : PSp := fun ds P _ => match ds with
  | [.tuple [.int a, .int b], .tuple [.int c, .int d]] => (Sz a ∧ Sz b ∧ Sz c ∧ Sz d ∧ Dv (b * d)) ∧ P (frD (addF (a, b) (c, d)))
  | _ => False
def sp_compare : PSp := fun ds P _ => match ds with
  | [.tuple [.int a, .int b], .tuple [.int c, .int d]] => (Sz a ∧ Sz b ∧ Sz c ∧ Sz d) ∧ P (.int (cmpF (a, b) (c, d)))
  | _ => False
def w_fraction : WS := wSeq (wAsg 2 (wCall sp_divisor_of (wCons (wVar 0) (wCons (wVar 1) (wNil)))))
  (wSeq (wIf (wCmT oLt (wVar 1) (wC (.int 0))) (wAsg 2 (wUn oNeg (wVar 2))) (wNext))
  (wRet (wTup (wCons (wOp oDiv (wVar 0) (wVar 2)) (wCons (wOp oDiv (wVar 1) (wVar 2)) (wNil))))))
def w_is_fraction : WS := wSeq (wIf (wOrT (wNotT (wTru (wCall sp_is_tuple (wCons (wVar 0) (wCons (wC (.int 2)) (wCons (wC (.int 2)) (wNil))))))) (wNotT (wTru (wFn oAll (wFrz (wLc (wIt (wVar 0)) (wgName 1) (wYes) (wCall sp_is_integer (wCons (wVar 1) (wNil))) [1])))))) (wRet (wC (.bool false))) (wNext))
  (wRet (wAndV (wBl (wCmT oGt (wOp oIx (wVar 0) (wC (.int 1))) (wC (.int 0)))) (wBl (wCmT oEq (wCall sp_divisor_of (wCons (wOp oIx (wVar 0) (wC (.int 0))) (wCons (wOp oIx (wVar 0) (wC (.int 1))) (wNil)))) (wC (.int 1))))))
def w_plus : WS := wRet (wCall sp_fraction (wCons (wOp oAdd (wOp oMul (wOp oIx (wVar 0) (wC (.int 0))) (wOp oIx (wVar 1) (wC (.int 1)))) (wOp oMul (wOp oIx (wVar 1) (wC (.int 0))) (wOp oIx (wVar 0) (wC (.int 1))))) (wCons (wOp oMul (wOp oIx (wVar 0) (wC (.int 1))) (wOp oIx (wVar 1) (wC (.int 1)))) (wNil))))
def w_compare : WS := wSeq (wAsg 2 (wOp oSub (wOp oMul (wOp oIx (wVar 0) (wC (.int 0))) (wOp oIx (wVar 1) (wC (.int 1)))) (wOp oMul (wOp oIx (wVar 1) (wC (.int 0))) (wOp oIx (wVar 0) (wC (.int 1))))))
  (wRet (wOp oSub (wFn oInt (wBl (wCmT oGt (wVar 2) (wC (.int 0))))) (wFn oInt (wBl (wCmT oLt (wVar 2) (wC (.int 0)))))))
theorem len_fraction : ∀ ds P ex, sp_fraction ds P ex → ds.length = 2 := by
  intro ds P ex h
  unfold sp_fraction at h
  split at h <;> first | rfl | exact h.elim
theorem len_is_fraction : ∀ ds P ex, sp_is_fraction ds P ex → ds.length = 1 := by
  intro ds P ex h
  unfold sp_is_fraction at h
  split at h <;> first | rfl | exact h.elim
theorem len_plus : ∀ ds P ex, sp_plus ds P ex → ds.length = 2 := by
  intro ds P ex h
  unfold sp_plus at h
  split at h <;> first | rfl | exact h.elim
theorem len_compare : ∀ ds P ex, sp_compare ds P ex → ds.length = 2 := by
  intro ds P ex h
  unfold sp_compare at h
  split at h <;> first | rfl | exact h.elim
theorem at20 {α : Type} (a b : α) : atI [a, b] 0 = some a ∧ atI [a, b] 1 = some b := by
  have h1 : ixN 2 0 = some 0 := by decide
  have h2 : ixN 2 1 = some 1 := by decide
  refine ⟨?_, ?_⟩ <;> (unfold atI; simp only [List.length_cons, List.length_nil]; first | (rw [h1]; rfl) | (rw [h2]; rfl))
theorem gcd_pos {p q : Int} (h : 0 < q) : 0 < (Int.gcd p q : Int) := by
  have : 0 < Int.gcd p q := Nat.gcd_pos_of_pos_right _ (by omega)
  omega
theorem gcd_le {p q : Int} (h : 0 < q) : (Int.gcd p q : Int) ≤ q := by
  have : Int.gcd p q ≤ q.natAbs := Nat.gcd_le_right _ (by omega)
  omega
theorem ok_fraction {ds : List D} {P : D → Prop} {ex : EX} (h : sp_fraction ds P ex) : w_fraction ex (endF P) (env0 ["part", "whole", "divisor"] ds) := by
  unfold sp_fraction at h
  split at h
  · rename_i p q
    obtain ⟨⟨h1, h2⟩, hP⟩ := h
    have g1 := gcd_pos (p := p) h1
    have g2 := gcd_le (p := p) h1
    have g3 : Int.gcd p q < 2 ^ 8999 := Nat.lt_of_le_of_lt (by omega) h2
    have c : ¬ q < 0 := by omega
    simp [w_fraction, sp_divisor_of, endF, c]
    exact ⟨⟨by omega, g3⟩, hP⟩
  · exact h.elim
theorem ok_plus {ds : List D} {P : D → Prop} {ex : EX} (h : sp_plus ds P ex) : w_plus ex (endF P) (env0 ["one", "other"] ds) := by
  unfold sp_plus at h
  split at h
  · rename_i a b c d
    obtain ⟨⟨h1, h2, h3, h4, h5⟩, hP⟩ := h
    simp [w_plus, sp_fraction, endF, at20]
    exact ⟨⟨h1, h4⟩, ⟨h3, h2⟩, ⟨h2, h4⟩, h5, hP⟩
  · exact h.elim
theorem ok_compare {ds : List D} {P : D → Prop} {ex : EX} (h : sp_compare ds P ex) : w_compare ex (endF P) (env0 ["one", "other", "off"] ds) := by
  unfold sp_compare at h
  split at h
  · rename_i a b c d
    obtain ⟨⟨h1, h2, h3, h4⟩, hP⟩ := h
    simp [w_compare, endF, at20]
    refine ⟨⟨h1, h4⟩, ⟨h3, h2⟩, ?_⟩
    simpa [cmpF] using hP
  · exact h.elim
theorem isInt_all (ds : List D) : boolsOf (ds.map fun d => .bool (isInt d)) = some (ds.map isInt) := by
  have := boolsOf_map (ds.map isInt)
  rwa [List.map_map] at this
theorem ok_is_fraction {ds : List D} {P : D → Prop} {ex : EX} (h : sp_is_fraction ds P ex) : w_is_fraction ex (endF P) (env0 ["value", "one"] ds) := by
  unfold sp_is_fraction at h
  split at h
  · rename_i v
    by_cases ht : isTup v 2 2 = true
    · unfold isTup at ht
      split at ht
      · rename_i es
        have l2 : es.length = 2 := by
          simp at ht
          omega
        match es, l2 with
        | [a, b], _ =>
          have e1 : isTup (.tuple [a, b]) 2 2 = true := by unfold isTup; simp
          simp [w_is_fraction, sp_is_tuple, e1, wLc]
          refine lcL_map (fun _ => true) (fun d => .bool (isInt d)) (by simp) (by simp) ?_ ?_
          · intro d hd acc N hl hN
            simp [sp_is_integer]
            exact ⟨hl, by simpa using hN⟩
          · rw [show ([a, b] : List D).filter (fun _ => true) = [a, b] from rfl]
            simp only [isInt_all]
            simp
            cases a <;> simp_all [isInt, isFrac, endF]
            cases b <;> simp_all [isInt, isFrac, endF, at20, sp_divisor_of]
            rename_i i j
            by_cases c : 0 < j
            · simp_all
              rw [show decide ((Int.gcd i j : Int) = 1) = decide (Int.gcd i j = 1) from decide_eq_decide.mpr (by omega)]
              exact h
            · rw [decide_eq_false c] at h
              simp_all
              intro z
              omega
      · cases ht
    · have e1 : isTup v 2 2 = false := by simpa using ht
      have e2 : isFrac v = false := by
        unfold isFrac
        split
        · unfold isTup at e1
          simp at e1
        · rfl
      simp [w_is_fraction, sp_is_tuple, e1, endF]
      rwa [e2] at h
  · exact h.elim
end Fz

set_option maxRecDepth 100000
set_option maxHeartbeats 2000000
/-! Q28: beams over the rationals. -/
namespace Fz
open PySem PySem.Spec L2
/-! ### fractions and rationals -/
def val (x : Fr) : Rat := (x.1 : Rat) / (x.2 : Rat)
def Red (x : Fr) : Prop := 0 < x.2 ∧ Int.gcd x.1 x.2 = 1
theorem ratPos {q : Int} (h : 0 < q) : (0 : Rat) < (q : Rat) := by exact_mod_cast h
theorem frac_red {p q : Int} (h : 0 < q) : Red (frac p q) := by
  have g1 := gcd_pos (p := p) h
  have d2 : (Int.gcd p q : Int) ∣ q := Int.gcd_dvd_right ..
  refine ⟨Int.ediv_pos_of_pos_of_dvd h (by omega) d2, ?_⟩
  show Int.gcd (p / _) (q / _) = 1
  have g0 : 0 < Int.gcd p q := by omega
  exact Int.gcd_ediv_gcd_ediv_gcd g0
theorem frac_mul {p q : Int} (h : 0 < q) : (frac p q).1 * (Int.gcd p q : Int) = p ∧ (frac p q).2 * (Int.gcd p q : Int) = q :=
  ⟨Int.ediv_mul_cancel (Int.gcd_dvd_left ..), Int.ediv_mul_cancel (Int.gcd_dvd_right ..)⟩
theorem val_frac {p q : Int} (h : 0 < q) : val (frac p q) = (p : Rat) / (q : Rat) := by
  obtain ⟨e1, e2⟩ := frac_mul (p := p) h
  have g1 := ratPos (gcd_pos (p := p) h)
  have r1 := ratPos (frac_red (p := p) h).1
  have c1 : ((frac p q).1 : Rat) * ((Int.gcd p q : Int) : Rat) = (p : Rat) := by exact_mod_cast e1
  have c2 : ((frac p q).2 : Rat) * ((Int.gcd p q : Int) : Rat) = (q : Rat) := by exact_mod_cast e2
  unfold val
  rw [← c1, ← c2]
  generalize ((Int.gcd p q : Int) : Rat) = g at *
  generalize ((frac p q).1 : Rat) = a at *
  generalize ((frac p q).2 : Rat) = b at *
  grind
theorem val_add {x y : Fr} (hx : 0 < x.2) (hy : 0 < y.2) : val (addF x y) = val x + val y := by
  unfold addF
  rw [val_frac (Int.mul_pos hx hy)]
  unfold val
  have h1 := ratPos hx
  have h2 := ratPos hy
  push_cast
  generalize (x.1 : Rat) = a at *
  generalize (x.2 : Rat) = b at *
  generalize (y.1 : Rat) = c at *
  generalize (y.2 : Rat) = d at *
  grind
theorem add_red {x y : Fr} (hx : 0 < x.2) (hy : 0 < y.2) : Red (addF x y) := frac_red (Int.mul_pos hx hy)
theorem val_eq {x y : Fr} (hx : 0 < x.2) (hy : 0 < y.2) : val x = val y ↔ x.1 * y.2 = y.1 * x.2 := by
  have h1 := ratPos hx
  have h2 := ratPos hy
  have e : ((x.1 * y.2 : Int) : Rat) = ((y.1 * x.2 : Int) : Rat) ↔ x.1 * y.2 = y.1 * x.2 := by norm_cast
  rw [← e]
  unfold val
  push_cast
  generalize (x.1 : Rat) = a at *
  generalize (x.2 : Rat) = b at *
  generalize (y.1 : Rat) = c at *
  generalize (y.2 : Rat) = d at *
  constructor <;> intro h <;> grind
theorem val_le {x y : Fr} (hx : 0 < x.2) (hy : 0 < y.2) : val x ≤ val y ↔ x.1 * y.2 ≤ y.1 * x.2 := by
  have h1 := ratPos hx
  have h2 := ratPos hy
  have e : ((x.1 * y.2 : Int) : Rat) ≤ ((y.1 * x.2 : Int) : Rat) ↔ x.1 * y.2 ≤ y.1 * x.2 := by norm_cast
  rw [← e]
  unfold val
  push_cast
  generalize (x.1 : Rat) = a at *
  generalize (x.2 : Rat) = b at *
  generalize (y.1 : Rat) = c at *
  generalize (y.2 : Rat) = d at *
  have h3 : (0 : Rat) < b * d := Rat.mul_pos h1 h2
  have e1 : (a / b) * (b * d) = a * d := by grind
  have e2 : (c / d) * (b * d) = c * b := by grind
  constructor
  · intro h
    rw [← e1, ← e2]
    exact Rat.mul_le_mul_of_nonneg_right h (Rat.le_of_lt h3)
  · intro h
    rw [← e1, ← e2] at h
    exact Rat.le_of_mul_le_mul_right h h3
theorem val_lt {x y : Fr} (hx : 0 < x.2) (hy : 0 < y.2) : val x < val y ↔ x.1 * y.2 < y.1 * x.2 := by
  rw [← Rat.not_le, val_le hy hx]
  omega
theorem val_int (k : Int) : val (k, 1) = (k : Rat) := by
  unfold val
  show (k : Rat) / ((1 : Int) : Rat) = k
  have : ((1 : Int) : Rat) = 1 := rfl
  rw [this]
  grind
theorem cmp_le {x y : Fr} (hx : 0 < x.2) (hy : 0 < y.2) : cmpF x y ≤ 0 ↔ val x ≤ val y := by
  rw [val_le hx hy]
  unfold cmpF
  split <;> split <;> omega
theorem cmp_lt {x y : Fr} (hx : 0 < x.2) (hy : 0 < y.2) : cmpF x y < 0 ↔ val x < val y := by
  rw [val_lt hx hy]
  unfold cmpF
  split <;> split <;> omega
/-- the divisor of a sum goes into what both divisors go into -/
theorem frac_dvd {p q : Int} (h : 0 < q) : (frac p q).2 ∣ q := ⟨_, (frac_mul (p := p) h).2.symm⟩
theorem add_dvd {x y : Fr} (hx : 0 < x.2) (hy : 0 < y.2) {m : Int} (h1 : x.2 ∣ m) (h2 : y.2 ∣ m) : (addF x y).2 ∣ m := by
  obtain ⟨a, ha⟩ := h1
  obtain ⟨b, hb⟩ := h2
  have hq := Int.mul_pos hx hy
  obtain ⟨_, e2⟩ := frac_mul (p := x.1 * y.2 + y.1 * x.2) hq
  have g1 := gcd_pos (p := x.1 * y.2 + y.1 * x.2) hq
  have d1 : x.2 * y.2 ∣ m * (x.1 * y.2 + y.1 * x.2) := ⟨a * x.1 + b * y.1, by
    have : m * (x.1 * y.2 + y.1 * x.2) = (x.2 * a) * (x.1 * y.2) + (y.2 * b) * (y.1 * x.2) := by rw [← ha, ← hb, Int.mul_add]
    rw [this]
    grind⟩
  have d2 : x.2 * y.2 ∣ m * (x.2 * y.2) := ⟨m, Int.mul_comm ..⟩
  have d3 : x.2 * y.2 ∣ m * (Int.gcd (x.1 * y.2 + y.1 * x.2) (x.2 * y.2) : Int) := by
    have z : (x.2 * y.2) ∣ (Int.gcd (m * (x.1 * y.2 + y.1 * x.2)) (m * (x.2 * y.2)) : Int) := Int.dvd_coe_gcd d1 d2
    rw [Int.gcd_mul_left] at z
    have w : ((m.natAbs * Int.gcd (x.1 * y.2 + y.1 * x.2) (x.2 * y.2) : Nat) : Int) ∣ m * (Int.gcd (x.1 * y.2 + y.1 * x.2) (x.2 * y.2) : Int) := by
      rw [Int.natCast_mul]
      exact Int.mul_dvd_mul (Int.natAbs_dvd.mpr (Int.dvd_refl _)) (Int.dvd_refl _)
    exact Int.dvd_trans z w
  have d4 : (addF x y).2 * (Int.gcd (x.1 * y.2 + y.1 * x.2) (x.2 * y.2) : Int) ∣ m * (Int.gcd (x.1 * y.2 + y.1 * x.2) (x.2 * y.2) : Int) := by
    unfold addF
    rw [e2]
    exact d3
  exact Int.dvd_of_mul_dvd_mul_right (by omega) d4
/-! ### beams -/
structure Ld where
  b : Int
  e : Int
  w : Int
def ldD (l : Ld) : D := .tuple [.int l.b, .int l.e, .int l.w]
structure Vl (L : Int) (l : Ld) : Prop where
  b0 : 0 ≤ l.b
  be : l.b + 1 ≤ l.e
  eL : l.e ≤ L
  w1 : 1 ≤ l.w
  w2 : l.w ≤ 1000
structure Vb (L : Int) (ls : List Ld) : Prop where
  l1 : 1 ≤ L
  l2 : L ≤ 240
  few : ls.length ≤ 6
  each : ∀ l ∈ ls, Vl L l
def clipQ (l : Ld) (x : Rat) : Rat := if x ≤ (l.b : Rat) then (l.b : Rat) else if x < (l.e : Rat) then x else (l.e : Rat)
def gQ (l : Ld) (x : Rat) : Rat := (l.w : Rat) * (clipQ l x - (l.b : Rat)) / ((l.e : Rat) - (l.b : Rat))
def fQ (l : Ld) (x : Rat) : Rat := gQ l x * (x - (clipQ l x + (l.b : Rat)) / 2)
def rQ (L : Int) (l : Ld) : Rat := (l.w : Rat) * (1 - ((l.b : Rat) + (l.e : Rat)) / (2 * (L : Rat)))
def sumQ (f : Ld → Rat) : List Ld → Rat
  | [] => 0
  | l :: r => f l + sumQ f r
def cutR (L : Int) (ls : List Ld) (x : Rat) : Rat := sumQ (fun l => rQ L l - gQ l x) ls
def bendR (L : Int) (ls : List Ld) (x : Rat) : Rat := sumQ (fun l => rQ L l * x - fQ l x) ls
theorem sumQ_le {f g : Ld → Rat} : ∀ {ls : List Ld}, (∀ l ∈ ls, f l ≤ g l) → sumQ f ls ≤ sumQ g ls
  | [], _ => by show (0 : Rat) ≤ 0; grind
  | l :: r, h => by
    have a := h l List.mem_cons_self
    have b := sumQ_le (ls := r) fun k hk => h k (List.mem_cons_of_mem _ hk)
    show f l + sumQ f r ≤ g l + sumQ g r
    grind
theorem sumQ_eq {f g : Ld → Rat} : ∀ {ls : List Ld}, (∀ l ∈ ls, f l = g l) → sumQ f ls = sumQ g ls
  | [], _ => rfl
  | l :: r, h => by
    have a := h l List.mem_cons_self
    have b := sumQ_eq (ls := r) fun k hk => h k (List.mem_cons_of_mem _ hk)
    show f l + sumQ f r = g l + sumQ g r
    rw [a, b]
theorem sumQ_add (f g : Ld → Rat) : ∀ ls : List Ld, sumQ (fun l => f l + g l) ls = sumQ f ls + sumQ g ls
  | [] => by show (0 : Rat) = 0 + 0; grind
  | l :: r => by
    have b := sumQ_add f g r
    show f l + g l + sumQ (fun l => f l + g l) r = (f l + sumQ f r) + (g l + sumQ g r)
    rw [b]
    grind
theorem sumQ_mul (f : Ld → Rat) (k : Rat) : ∀ ls : List Ld, sumQ (fun l => f l * k) ls = sumQ f ls * k
  | [] => by show (0 : Rat) = 0 * k; grind
  | l :: r => by
    have b := sumQ_mul f k r
    show f l * k + sumQ (fun l => f l * k) r = (f l + sumQ f r) * k
    rw [b]
    grind
theorem sumQ_pos {f : Ld → Rat} {ls : List Ld} (hn : ls ≠ []) (h : ∀ l ∈ ls, 0 < f l) : 0 < sumQ f ls := by
  cases ls with
  | nil => exact absurd rfl hn
  | cons l r =>
    have a := h l List.mem_cons_self
    have b : sumQ (fun _ => 0) r ≤ sumQ f r := sumQ_le fun k hk => Rat.le_of_lt (h k (List.mem_cons_of_mem _ hk))
    have c : sumQ (fun _ => 0) r = 0 := by
      clear a b h hn
      induction r with
      | nil => rfl
      | cons k r ih =>
        show (0 : Rat) + sumQ (fun _ => 0) r = 0
        rw [ih]
        grind
    show 0 < f l + sumQ f r
    grind
theorem Vl.ed {L : Int} {l : Ld} (v : Vl L l) : (l.b : Rat) < (l.e : Rat) := by
  have := v.be
  exact_mod_cast (by omega : l.b < l.e)
theorem Vl.wp {L : Int} {l : Ld} (v : Vl L l) : (0 : Rat) < (l.w : Rat) := by
  have := v.w1
  exact_mod_cast (by omega : 0 < l.w)
/-- bending lies below each of its lines -/
theorem f_above {L : Int} {l : Ld} (v : Vl L l) (x p : Rat) : fQ l p + gQ l p * (x - p) ≤ fQ l x := by
  have h1 := v.ed
  have h2 := v.wp
  have h3 : (0 : Rat) < (l.e : Rat) - (l.b : Rat) := by grind
  unfold fQ gQ
  generalize (l.w : Rat) = w at *
  obtain ⟨c, hc⟩ : ∃ c, c = clipQ l x := ⟨_, rfl⟩
  obtain ⟨d, hd⟩ : ∃ d, d = clipQ l p := ⟨_, rfl⟩
  rw [← hc, ← hd]
  unfold clipQ at hc hd
  generalize (l.e : Rat) = e at *
  generalize (l.b : Rat) = b at *
  obtain ⟨u, hu⟩ : ∃ u, u = w / (e - b) := ⟨_, rfl⟩
  have u0 : 0 < u := by
    rw [hu, Rat.div_def]
    exact Rat.mul_pos h2 (Rat.inv_pos.mpr h3)
  have e1 : w * (c - b) / (e - b) = u * (c - b) := by rw [hu]; grind
  have e2 : w * (d - b) / (e - b) = u * (d - b) := by rw [hu]; grind
  rw [e1, e2]
  -- u * ((c - b) * (x - (c + b) / 2)) - u * ((d - b) * (p - (d + b) / 2 + x - p))
  have key : 0 ≤ (c - b) * (x - (c + b) / 2) - (d - b) * (x - (d + b) / 2) := by
    have kk : (c - b) * (x - (c + b) / 2) - (d - b) * (x - (d + b) / 2) = (c - d) * (x - (c + d) / 2) := by grind
    rw [kk]
    have d1 : b ≤ d := by
      rw [hd]
      split
      · grind
      · split <;> grind
    have d2 : d ≤ e := by
      rw [hd]
      split
      · grind
      · split <;> grind
    by_cases q1 : x ≤ b
    · rw [if_pos q1] at hc
      have z : (c - d) * (x - (c + d) / 2) = (d - c) * ((c + d) / 2 - x) := by grind
      rw [z]
      exact Rat.mul_nonneg (by grind) (by grind)
    · rw [if_neg q1] at hc
      by_cases q2 : x < e
      · rw [if_pos q2] at hc
        have z : (c - d) * (x - (c + d) / 2) = (c - d) * (c - d) / 2 := by grind
        rw [z]
        have sq : 0 ≤ (c - d) * (c - d) := by
          rcases (Rat.le_total : c ≤ d ∨ d ≤ c) with q | q
          · have z2 : (c - d) * (c - d) = (d - c) * (d - c) := by grind
            rw [z2]
            exact Rat.mul_nonneg (by grind) (by grind)
          · exact Rat.mul_nonneg (by grind) (by grind)
        grind
      · rw [if_neg q2] at hc
        exact Rat.mul_nonneg (by grind) (by grind)
  have := Rat.mul_nonneg (Rat.le_of_lt u0) key
  grind
/-- where the cut force is nothing, bending is greatest -/
theorem bend_max {L : Int} {ls : List Ld} (v : Vb L ls) {p : Rat} (h : cutR L ls p = 0) (x : Rat) : bendR L ls x ≤ bendR L ls p := by
  have a : bendR L ls x ≤ sumQ (fun l => (rQ L l * p - fQ l p) + (rQ L l - gQ l p) * (x - p)) ls := sumQ_le fun l hl => by
    have := f_above (v.each l hl) x p
    grind
  rw [sumQ_add (fun l => rQ L l * p - fQ l p) (fun l => (rQ L l - gQ l p) * (x - p)), sumQ_mul (fun l => rQ L l - gQ l p)] at a
  have e : sumQ (fun l => rQ L l - gQ l p) ls = 0 := h
  have e2 : sumQ (fun l => rQ L l * p - fQ l p) ls = bendR L ls p := rfl
  rw [e, e2] at a
  grind
/-- between two marks the cut force is a line -/
theorem g_line {L : Int} {l : Ld} (v : Vl L l) {a c t : Rat} (h1 : a < c) (hb : (l.b : Rat) ≤ a ∨ c ≤ (l.b : Rat)) (he : (l.e : Rat) ≤ a ∨ c ≤ (l.e : Rat)) (t1 : a ≤ t) (t2 : t ≤ c) :
    gQ l t = gQ l a + (gQ l c - gQ l a) * ((t - a) / (c - a)) := by
  have h2 := v.ed
  unfold gQ
  generalize (l.w : Rat) = w at *
  obtain ⟨x, hx⟩ : ∃ x, x = clipQ l a := ⟨_, rfl⟩
  obtain ⟨y, hy⟩ : ∃ y, y = clipQ l c := ⟨_, rfl⟩
  obtain ⟨z, hz⟩ : ∃ z, z = clipQ l t := ⟨_, rfl⟩
  rw [← hx, ← hy, ← hz]
  unfold clipQ at hx hy hz
  generalize (l.e : Rat) = e at *
  generalize (l.b : Rat) = b at *
  have key : z = x + (y - x) * ((t - a) / (c - a)) := by
    have n : c - a ≠ 0 := by grind
    rcases hb with q | q
    · rcases he with r | r
      · -- both behind
        have ex : x = e := by rw [hx]; split <;> (try split) <;> grind
        have ey : y = e := by rw [hy]; split <;> (try split) <;> grind
        have ez : z = e := by rw [hz]; split <;> (try split) <;> grind
        rw [ex, ey, ez]; grind
      · have ex : x = a := by rw [hx]; split <;> (try split) <;> grind
        have ey : y = c := by rw [hy]; split <;> (try split) <;> grind
        have ez : z = t := by rw [hz]; split <;> (try split) <;> grind
        rw [ex, ey, ez]; grind
    · have ex : x = b := by rw [hx]; split <;> (try split) <;> grind
      have ey : y = b := by rw [hy]; split <;> (try split) <;> grind
      have ez : z = b := by rw [hz]; split <;> (try split) <;> grind
      rw [ex, ey, ez]; grind
  rw [key]
  generalize (t - a) / (c - a) = k
  have : e - b ≠ 0 := by grind
  grind
theorem cut_line {L : Int} {ls : List Ld} (v : Vb L ls) {a c t : Rat} (h1 : a < c) (hm : ∀ l ∈ ls, ((l.b : Rat) ≤ a ∨ c ≤ (l.b : Rat)) ∧ ((l.e : Rat) ≤ a ∨ c ≤ (l.e : Rat))) (t1 : a ≤ t) (t2 : t ≤ c) :
    cutR L ls t = cutR L ls a + (cutR L ls c - cutR L ls a) * ((t - a) / (c - a)) := by
  generalize hk : (t - a) / (c - a) = k
  have e : sumQ (fun l => rQ L l - gQ l t) ls = sumQ (fun l => (rQ L l - gQ l a) * (1 - k) + (rQ L l - gQ l c) * k) ls := sumQ_eq fun l hl => by
    have := g_line (v.each l hl) h1 (hm l hl).1 (hm l hl).2 t1 t2
    rw [hk] at this
    rw [this]
    grind
  show sumQ _ ls = _
  rw [e, sumQ_add (fun l => (rQ L l - gQ l a) * (1 - k)) (fun l => (rQ L l - gQ l c) * k), sumQ_mul (fun l => rQ L l - gQ l a), sumQ_mul (fun l => rQ L l - gQ l c)]
  show cutR L ls a * (1 - k) + cutR L ls c * k = _
  grind
theorem r_pos {L : Int} {l : Ld} (v : Vl L l) (hL : 1 ≤ L) : 0 < rQ L l ∧ rQ L l < (l.w : Rat) := by
  have h1 := v.ed
  have h2 := v.wp
  have h3 : (0 : Rat) ≤ (l.b : Rat) := by exact_mod_cast v.b0
  have h4 : (l.e : Rat) ≤ (L : Rat) := by exact_mod_cast v.eL
  have h5 : (0 : Rat) < (L : Rat) := by exact_mod_cast (by omega : 0 < L)
  unfold rQ
  generalize (l.w : Rat) = w at *
  generalize (l.e : Rat) = e at *
  generalize (l.b : Rat) = b at *
  generalize (L : Rat) = L at *
  have k1 : 0 < (b + e) / (2 * L) := by
    rw [Rat.div_def]
    exact Rat.mul_pos (by grind) (Rat.inv_pos.mpr (by grind))
  have k2 : (b + e) / (2 * L) < 1 := (Rat.div_lt_iff (by grind)).mpr (by grind)
  refine ⟨Rat.mul_pos h2 (by grind), ?_⟩
  have := Rat.mul_pos h2 k1
  grind
theorem cut_0 {L : Int} {ls : List Ld} (v : Vb L ls) (hn : ls ≠ []) : 0 < cutR L ls 0 := sumQ_pos hn fun l hl => by
  have vl := v.each l hl
  have a := (r_pos vl v.l1).1
  have h3 : (0 : Rat) ≤ (l.b : Rat) := by exact_mod_cast vl.b0
  have e : clipQ l 0 = (l.b : Rat) := if_pos h3
  unfold gQ
  rw [e]
  grind
theorem cut_L {L : Int} {ls : List Ld} (v : Vb L ls) (hn : ls ≠ []) : cutR L ls (L : Rat) < 0 := by
  have k : 0 < sumQ (fun l => (rQ L l - gQ l (L : Rat)) * (-1)) ls := sumQ_pos hn fun l hl => by
    have vl := v.each l hl
    have a := (r_pos vl v.l1).2
    have h1 := vl.ed
    have h4 : (l.e : Rat) ≤ (L : Rat) := by exact_mod_cast vl.eL
    have e : clipQ l (L : Rat) = (l.e : Rat) := by
      unfold clipQ
      split
      · grind
      · split <;> grind
    have e2 : gQ l (L : Rat) = (l.w : Rat) := by
      unfold gQ
      rw [e]
      grind
    rw [e2]
    grind
  rw [sumQ_mul (fun l => rQ L l - gQ l (L : Rat))] at k
  show sumQ (fun l => rQ L l - gQ l (L : Rat)) ls < 0
  grind
/-- a place cut to a load, in whole numbers -/
def cutI (l : Ld) (p q : Int) : Int := if (if l.b * q > p then l.b * q else p) > l.e * q then l.e * q else (if l.b * q > p then l.b * q else p)
theorem clip_int {L : Int} {l : Ld} (v : Vl L l) {p q : Int} (hq : 0 < q) : ((cutI l p q : Int) : Rat) = clipQ l ((p : Rat) / (q : Rat)) * (q : Rat) := by
  have h1 := ratPos hq
  have be := v.be
  have beq : l.b * q ≤ l.e * q := Int.mul_le_mul_of_nonneg_right (by omega) (by omega)
  have r1 : (p : Rat) / (q : Rat) ≤ (l.b : Rat) ↔ p ≤ l.b * q := by
    have := val_le (x := (p, q)) (y := (l.b, 1)) hq (by omega)
    rw [val_int] at this
    unfold val at this
    rw [this]
    show p * 1 ≤ l.b * q ↔ _
    rw [Int.mul_one]
  have r2 : (p : Rat) / (q : Rat) < (l.e : Rat) ↔ p < l.e * q := by
    have := val_lt (x := (p, q)) (y := (l.e, 1)) hq (by omega)
    rw [val_int] at this
    unfold val at this
    rw [this]
    show p * 1 < l.e * q ↔ _
    rw [Int.mul_one]
  unfold clipQ cutI
  by_cases c1 : p ≤ l.b * q
  · rw [if_pos (r1.mpr c1)]
    have e : (if l.b * q > p then l.b * q else p) = l.b * q := by split <;> omega
    rw [e, if_neg (by omega)]
    push_cast
    rfl
  · rw [if_neg (fun z => c1 (r1.mp z))]
    have e : (if l.b * q > p then l.b * q else p) = p := if_neg (by omega)
    rw [e]
    by_cases c2 : p < l.e * q
    · rw [if_pos (r2.mpr c2), if_neg (by omega)]
      grind
    · rw [if_neg (fun z => c2 (r2.mp z))]
      have e2 : (if p > l.e * q then l.e * q else p) = l.e * q := by split <;> omega
      rw [e2]
      push_cast
      rfl
theorem mulNe {a b : Rat} (h : a ≠ 0) (k : b ≠ 0) : a * b ≠ 0 := fun z => by
  have : a * b * b⁻¹ = a := by grind
  rw [z] at this
  grind
/-- the law's two parts of a load's cut force -/
theorem cut_parts {L : Int} {l : Ld} (v : Vl L l) (hL : 1 ≤ L) {p q : Int} (hq : 0 < q) :
    val (-l.w * (l.e * l.e - l.b * l.b), (l.e - l.b) * 2 * L) + val (l.w * (l.e * q - cutI l p q), (l.e - l.b) * q) = rQ L l - gQ l ((p : Rat) / (q : Rat)) := by
  have c := clip_int v (p := p) hq
  have h1 := v.ed
  have h2 := ratPos hq
  have h5 : (0 : Rat) < (L : Rat) := by exact_mod_cast (by omega : 0 < L)
  unfold val rQ gQ
  generalize clipQ l ((p : Rat) / (q : Rat)) = z at *
  push_cast
  rw [c]
  generalize (l.w : Rat) = w at *
  generalize (l.e : Rat) = e at *
  generalize (l.b : Rat) = b at *
  generalize (L : Rat) = L at *
  generalize (q : Rat) = q at *
  have n1 : e - b ≠ 0 := by grind
  have n2 : L ≠ 0 := by grind
  have n3 : q ≠ 0 := by grind
  grind
/-- .. of its bending -/
theorem bend_parts {L : Int} {l : Ld} (v : Vl L l) (hL : 1 ≤ L) {p q : Int} (hq : 0 < q) :
    val (l.w * (cutI l p q * cutI l p q - l.b * l.b * q * q) * (L * q - p), (l.e - l.b) * (2 * q * q) * L * q) +
      val (l.w * (2 * L * (l.e * q - cutI l p q) * q - (l.e * l.e * q * q - cutI l p q * cutI l p q)) * p, (l.e - l.b) * (2 * q * q) * L * q) = rQ L l * ((p : Rat) / (q : Rat)) - fQ l ((p : Rat) / (q : Rat)) := by
  have c := clip_int v (p := p) hq
  have h1 := v.ed
  have h2 := ratPos hq
  have h5 : (0 : Rat) < (L : Rat) := by exact_mod_cast (by omega : 0 < L)
  have cl : clipQ l ((p : Rat) / (q : Rat)) = (l.b : Rat) ∨ clipQ l ((p : Rat) / (q : Rat)) = (p : Rat) / (q : Rat) ∨ clipQ l ((p : Rat) / (q : Rat)) = (l.e : Rat) := by
    unfold clipQ
    split
    · exact .inl rfl
    · split
      · exact .inr (.inl rfl)
      · exact .inr (.inr rfl)
  have ep : (p : Rat) = ((p : Rat) / (q : Rat)) * (q : Rat) := by grind
  unfold val rQ fQ gQ
  generalize clipQ l ((p : Rat) / (q : Rat)) = z at *
  push_cast
  rw [c]
  generalize ((p : Rat) / (q : Rat)) = x at *
  rw [ep]
  generalize (l.w : Rat) = w at *
  generalize (l.e : Rat) = e at *
  generalize (l.b : Rat) = b at *
  generalize (L : Rat) = L at *
  generalize (q : Rat) = q at *
  have n1 : e - b ≠ 0 := by grind
  have n2 : L ≠ 0 := by grind
  have n3 : q ≠ 0 := by grind
  have n4 : (e - b) * (2 * q * q) * L * q ≠ 0 := by
    have a1 : 2 * q * q ≠ 0 := mulNe (mulNe (by grind) n3) n3
    exact mulNe (mulNe (mulNe n1 a1) n2) n3
  obtain ⟨u, hu⟩ : ∃ u, u = 1 / (e - b) := ⟨_, rfl⟩
  obtain ⟨v, hv⟩ : ∃ v, v = 1 / L := ⟨_, rfl⟩
  obtain ⟨r, hr⟩ : ∃ r, r = 1 / q := ⟨_, rfl⟩
  have u1 : u * (e - b) = 1 := by rw [hu]; grind
  have v1 : v * L = 1 := by rw [hv]; grind
  have r1 : r * q = 1 := by rw [hr]; grind
  have d1 : ∀ k : Rat, k / ((e - b) * (2 * q * q) * L * q) = k * (u * v * r * r * r) / 2 := fun k => by
    have : ((e - b) * (2 * q * q) * L * q) * (u * v * r * r * r) = 2 := by
      have : ((e - b) * (2 * q * q) * L * q) * (u * v * r * r * r) = 2 * (u * (e - b)) * (v * L) * (r * q) * (r * q) * (r * q) := by grind
      rw [this, u1, v1, r1]
      grind
    generalize (e - b) * (2 * q * q) * L * q = m at *
    generalize u * v * r * r * r = n at *
    grind
  have d2 : ∀ k : Rat, k / (2 * L) = k * v / 2 := fun k => by grind
  have d3 : ∀ k : Rat, k / (e - b) = k * u := fun k => by rw [hu]; grind
  rw [d1, d1, d2, d3]
  clear d1 d2 d3 hu hv hr n4 n1 n2 n3 h1 h2 h5 c ep
  rcases cl with rfl | rfl | rfl <;> grind
end Fz

set_option maxRecDepth 100000
set_option maxHeartbeats 4000000
/-! M28: beams: the defs' promises. -/
namespace Fz
open PySem PySem.Spec L2
/-! ### sizes -/
def Bq (n d : Nat) (x : Fr) : Prop := x.1.natAbs < 2 ^ n ∧ 0 < x.2 ∧ x.2.natAbs < 2 ^ d
theorem Bq.mono {n d m e : Nat} {x : Fr} (h : Bq n d x) (h1 : n ≤ m) (h2 : d ≤ e) : Bq m e x :=
  ⟨Nat.lt_of_lt_of_le h.1 (Nat.pow_le_pow_right (by omega) h1), h.2.1, Nat.lt_of_lt_of_le h.2.2 (Nat.pow_le_pow_right (by omega) h2)⟩
theorem Bq.neg {n d : Nat} {x : Fr} (h : Bq n d x) : Bq n d (-x.1, x.2) := ⟨by rw [Int.natAbs_neg]; exact h.1, h.2⟩
theorem abs_mul_lt {a b : Int} {n m : Nat} (h1 : a.natAbs < 2 ^ n) (h2 : b.natAbs < 2 ^ m) : (a * b).natAbs < 2 ^ (n + m) := by
  rw [Int.natAbs_mul, Nat.pow_add]
  exact Nat.mul_lt_mul'' h1 h2
theorem abs_add_lt {a b : Int} {n : Nat} (h1 : a.natAbs < 2 ^ n) (h2 : b.natAbs < 2 ^ n) : (a + b).natAbs < 2 ^ (n + 1) := by
  rw [Nat.pow_succ]
  have := Int.natAbs_add_le a b
  omega
theorem abs_sub_lt {a b : Int} {n : Nat} (h1 : a.natAbs < 2 ^ n) (h2 : b.natAbs < 2 ^ n) : (a - b).natAbs < 2 ^ (n + 1) := by
  rw [Nat.pow_succ]
  have := Int.natAbs_sub_le a b
  omega
theorem abs_mono {a : Int} {n m : Nat} (h : a.natAbs < 2 ^ n) (k : n ≤ m) : a.natAbs < 2 ^ m := Nat.lt_of_lt_of_le h (Nat.pow_le_pow_right (by omega) k)
theorem ediv_abs_le {p g : Int} (hg : 0 < g) : (p / g).natAbs ≤ p.natAbs := by
  by_cases h : 0 ≤ p
  · have h1 : p / g ≤ p := Int.ediv_le_self _ h
    have h2 : 0 ≤ p / g := Int.ediv_nonneg h (by omega)
    omega
  · have h1 : p ≤ p / g := by
      refine Int.le_ediv_of_mul_le hg ?_
      have : p * g ≤ p * 1 := Int.mul_le_mul_of_nonpos_left (by omega) (by omega)
      omega
    have h2 : p / g ≤ 0 := by
      have := Int.ediv_neg_of_neg_of_pos (a := p) (b := g) (by omega) hg
      omega
    omega
theorem Bq.frac {p q : Int} {n d : Nat} (h1 : p.natAbs < 2 ^ n) (h2 : 0 < q) (h3 : q.natAbs < 2 ^ d) : Bq n d (frac p q) := by
  have g1 := gcd_pos (p := p) h2
  refine ⟨Nat.lt_of_le_of_lt (ediv_abs_le g1) h1, (frac_red h2).1, Nat.lt_of_le_of_lt (ediv_abs_le g1) h3⟩
theorem Bq.add {n d m e k : Nat} {x y : Fr} (hx : Bq n d x) (hy : Bq m e y) (h1 : n + e ≤ k) (h2 : m + d ≤ k) : Bq (k + 1) (d + e) (addF x y) :=
  .frac (abs_add_lt (abs_mono (abs_mul_lt hx.1 hy.2.2) h1) (abs_mono (abs_mul_lt hy.1 hx.2.2) h2)) (Int.mul_pos hx.2.1 hy.2.1) (abs_mul_lt hx.2.2 hy.2.2)
theorem Bq.dv {n d m e : Nat} {x y : Fr} (hx : Bq n d x) (hy : Bq m e y) (h : d + e ≤ 8999) : Dv (x.2 * y.2) := ⟨Int.mul_pos hx.2.1 hy.2.1, abs_mono (abs_mul_lt hx.2.2 hy.2.2) h⟩
theorem Bq.s1 {n d : Nat} {x : Fr} (h : Bq n d x) (k : n ≤ 400000) : Sz x.1 := .of h.1 k
theorem Bq.s2 {n d : Nat} {x : Fr} (h : Bq n d x) (k : d ≤ 400000) : Sz x.2 := .of h.2.2 k
/-- plus keeps to its sizes -/
theorem sp_plus_of {x y : Fr} {n d m e : Nat} (hx : Bq n d x) (hy : Bq m e y) (hn : n ≤ 400000) (hm : m ≤ 400000) (h : d + e ≤ 8999) {P : D → Prop} {ex : EX} (hP : P (frD (addF x y))) : sp_plus [frD x, frD y] P ex :=
  ⟨⟨hx.s1 hn, hx.s2 (by omega), hy.s1 hm, hy.s2 (by omega), hx.dv hy h⟩, hP⟩
/-! ### wrong arguments -/
def goodL (l : D) : Bool := isIn l 1 240
def ly2 (a b : D) (L : Int) : Bool := match a with
  | .int i => isIn b (i + 1) L
  | _ => false
def isLy (v : D) (L : Int) : Bool := match v with
  | .tuple [a, b, c] => isIn a 0 (L - 1) && (ly2 a b L && isIn c 1 1000)
  | _ => false
def goodY (y : D) (L : Int) : Bool := match y with
  | .tuple ds => decide (ds.length ≤ 6) && ds.all fun d => isLy d L
  | _ => false
theorem isIn_inv {v : D} {l h : Int} (k : isIn v l h = true) : ∃ i, v = .int i ∧ l ≤ i ∧ i ≤ h := by
  unfold isIn at k
  split at k
  · rename_i i
    rw [Bool.and_eq_true, decide_eq_true_eq, decide_eq_true_eq] at k
    exact ⟨i, rfl, k⟩
  · cases k
theorem isIn_int {i l h : Int} (h1 : l ≤ i) (h2 : i ≤ h) : isIn (.int i) l h = true := by
  unfold isIn
  simp [h1, h2]
theorem isLy_inv {v : D} {L : Int} (k : isLy v L = true) : ∃ l : Ld, v = ldD l ∧ Vl L l := by
  unfold isLy at k
  split at k
  · rename_i a b c
    obtain ⟨k1, k2⟩ := He.ba k
    obtain ⟨k3, k4⟩ := He.ba k2
    obtain ⟨i, rfl, a1, a2⟩ := isIn_inv k1
    obtain ⟨j, rfl, a3, a4⟩ := isIn_inv (show isIn b (i + 1) L = true from k3)
    obtain ⟨w, rfl, a5, a6⟩ := isIn_inv k4
    exact ⟨⟨i, j, w⟩, rfl, a1, a3, a4, a5, a6⟩
  · cases k
theorem isLy_of {l : Ld} {L : Int} (v : Vl L l) : isLy (ldD l) L = true := by
  obtain ⟨h1, h2, h3, h4, h5⟩ := v
  have a : isIn (.int l.b) 0 (L - 1) = true := isIn_int h1 (by omega)
  have b : isIn (.int l.e) (l.b + 1) L = true := isIn_int h2 h3
  have c : isIn (.int l.w) 1 1000 = true := isIn_int h4 h5
  show (isIn (.int l.b) 0 (L - 1) && (isIn (.int l.e) (l.b + 1) L && isIn (.int l.w) 1 1000)) = true
  rw [a, b, c]
  rfl
theorem goodY_inv {l : D} {L : Int} {y : D} (hl : goodL (.int L) = true) (h : goodY y L = true) : ∃ ls : List Ld, y = .tuple (ls.map ldD) ∧ Vb L ls := by
  unfold goodY at h
  split at h
  · rename_i ds
    obtain ⟨h1, h2⟩ := He.ba h
    obtain ⟨i, e, b1, b2⟩ := isIn_inv hl
    cases e
    have key : ∀ ds : List D, (ds.all fun d => isLy d L) = true → ∃ ls : List Ld, ds = ls.map ldD ∧ ∀ l ∈ ls, Vl L l := by
      intro ds
      induction ds with
      | nil => exact fun _ => ⟨[], rfl, fun _ h => absurd h List.not_mem_nil⟩
      | cons d r ih =>
        intro hh
        rw [List.all_cons] at hh
        obtain ⟨k1, k2⟩ := He.ba hh
        obtain ⟨l, rfl, v⟩ := isLy_inv k1
        obtain ⟨ls, rfl, vs⟩ := ih k2
        refine ⟨l :: ls, rfl, fun k hk => ?_⟩
        rcases List.mem_cons.mp hk with rfl | hk
        · exact v
        · exact vs k hk
    obtain ⟨ls, rfl, vs⟩ := key ds h2
    have few := of_decide_eq_true h1
    rw [List.length_map] at few
    exact ⟨ls, rfl, b1, b2, few, vs⟩
  · cases h
theorem goodY_of {L : Int} {ls : List Ld} (v : Vb L ls) : goodL (.int L) = true ∧ goodY (.tuple (ls.map ldD)) L = true := by
  refine ⟨isIn_int v.l1 v.l2, ?_⟩
  show (decide ((ls.map ldD).length ≤ 6) && (ls.map ldD).all fun d => isLy d L) = true
  rw [List.length_map, decide_eq_true v.few, Bool.true_and, List.all_eq_true]
  intro d hd
  obtain ⟨l, hl, rfl⟩ := List.mem_map.mp hd
  exact isLy_of (v.each l hl)
def beamOr (l y : D) (x : EX) (k : Int → List Ld → Prop) : Prop := (goodL l = false → x "BadArgument" "length") ∧ ∀ L, l = .int L → goodL l = true → (goodY y L = false → x "BadArgument" "lying") ∧ ∀ ls, y = .tuple (ls.map ldD) → Vb L ls → k L ls
theorem beamOr.imp {l y : D} {x : EX} {k k' : Int → List Ld → Prop} (h : beamOr l y x k) (f : ∀ L ls, l = .int L → y = .tuple (ls.map ldD) → Vb L ls → k L ls → k' L ls) : beamOr l y x k' :=
  ⟨h.1, fun L e g => ⟨(h.2 L e g).1, fun ls e2 v => f L ls e e2 v ((h.2 L e g).2 ls e2 v)⟩⟩
theorem ldD_inj {ls ms : List Ld} (h : ls.map ldD = ms.map ldD) : ls = ms := by
  induction ls generalizing ms with
  | nil => cases ms with
    | nil => rfl
    | cons _ _ => cases h
  | cons l r ih => cases ms with
    | nil => cases h
    | cons m s =>
      rw [List.map_cons, List.map_cons] at h
      obtain ⟨h1, h2⟩ := List.cons.inj h
      rw [ih h2]
      obtain ⟨a, b, c⟩ := l
      obtain ⟨a', b', c'⟩ := m
      cases h1
      rfl
theorem beamOr_ok {L : Int} {ls : List Ld} (v : Vb L ls) {x : EX} {k : Int → List Ld → Prop} (h : k L ls) : beamOr (.int L) (.tuple (ls.map ldD)) x k := by
  obtain ⟨g1, g2⟩ := goodY_of v
  refine ⟨fun z => ?_, fun L' e _ => ?_⟩
  · rw [g1] at z; cases z
  · cases e
    refine ⟨fun z => ?_, fun ms e _ => ?_⟩
    · rw [g2] at z; cases z
    · have e' : ls.map ldD = ms.map ldD := by
        injection e
      rw [← ldD_inj e']
      exact h
def goodP (L : Int) (p : D) : Bool := match p with
  | .tuple [.int a, .int b] => (decide (0 < b) && decide (Int.gcd a b = 1)) && (decide (0 ≤ a) && decide (a ≤ L * b))
  | _ => false
structure Vp (L : Int) (p : Fr) : Prop where
  red : Red p
  p0 : 0 ≤ p.1
  pL : p.1 ≤ L * p.2
def placeOr (L : Int) (p : D) (x : EX) (k : Fr → Prop) : Prop := (goodP L p = false → x "BadArgument" "place") ∧ ∀ q : Fr, p = frD q → Vp L q → k q
theorem goodP_inv {L : Int} {p : D} (h : goodP L p = true) : ∃ q : Fr, p = frD q ∧ Vp L q := by
  unfold goodP at h
  split at h
  · rename_i a b
    simp only [Bool.and_eq_true, decide_eq_true_eq] at h
    exact ⟨(a, b), rfl, ⟨h.1.1, h.1.2⟩, h.2.1, h.2.2⟩
  · cases h
theorem goodP_of {L : Int} {q : Fr} (v : Vp L q) : goodP L (frD q) = true := by
  show ((decide (0 < q.2) && decide (Int.gcd q.1 q.2 = 1)) && (decide (0 ≤ q.1) && decide (q.1 ≤ L * q.2))) = true
  rw [decide_eq_true v.red.1, decide_eq_true v.red.2, decide_eq_true v.p0, decide_eq_true v.pL]
  rfl
theorem placeOr_ok {L : Int} {q : Fr} (v : Vp L q) {x : EX} {k : Fr → Prop} (h : k q) : placeOr L (frD q) x k := by
  refine ⟨fun z => ?_, fun r e _ => ?_⟩
  · rw [goodP_of v] at z; cases z
  · have : q = r := by
      obtain ⟨a, b⟩ := q
      obtain ⟨c, d⟩ := r
      cases e
      rfl
    rw [← this]
    exact h
/-! ### promises -/
def sp_is_lying : PSp := fun ds P _ => match ds with
  | [v, .int L] => P (.bool (isLy v L))
  | _ => False
def sp_demand_beam : PSp := fun ds P x => match ds with
  | [l, y] => beamOr l y x fun _ _ => P .none
  | _ => False
def sp_demand_place : PSp := fun ds P x => match ds with
  | [.int L, p] => Sz L ∧ (∀ a b, p = .tuple [.int a, .int b] → Sz b) ∧ placeOr L p x fun _ => P .none
  | _ => False
def w_is_lying : WS := wSeq (wIf (wOrT (wNotT (wTru (wCall sp_is_tuple (wCons (wVar 0) (wCons (wC (.int 3)) (wCons (wC (.int 3)) (wNil))))))) (wOrT (wNotT (wTru (wCall sp_is_in (wCons (wOp oIx (wVar 0) (wC (.int 0))) (wCons (wC (.int 0)) (wCons (wOp oSub (wVar 1) (wC (.int 1))) (wNil))))))) (wNotT (wTru (wCall sp_is_in (wCons (wOp oIx (wVar 0) (wC (.int 1))) (wCons (wOp oAdd (wOp oIx (wVar 0) (wC (.int 0))) (wC (.int 1))) (wCons (wVar 1) (wNil))))))))) (wRet (wC (.bool false))) (wNext))
  (wRet (wCall sp_is_in (wCons (wOp oIx (wVar 0) (wC (.int 2))) (wCons (wC (.int 1)) (wCons (wC (.int 1000)) (wNil))))))
def w_demand_beam : WS := wSeq (wDrop (wCall sp_demand (wCons (wCall sp_is_in (wCons (wVar 0) (wCons (wC (.int 1)) (wCons (wC (.int 240)) (wNil))))) (wCons (wC (.str "length")) (wNil)))))
  (wDrop (wCall sp_demand (wCons (wAndV (wCall sp_is_tuple (wCons (wVar 1) (wCons (wC (.int 0)) (wCons (wC (.int 6)) (wNil))))) (wFn oAll (wFrz (wLc (wIt (wVar 1)) (wgName 2) (wYes) (wCall sp_is_lying (wCons (wVar 2) (wCons (wVar 0) (wNil)))) [2])))) (wCons (wC (.str "lying")) (wNil)))))
def w_demand_place : WS := wDrop (wCall sp_demand (wCons (wAndV (wCall sp_is_fraction (wCons (wVar 1) (wNil))) (wAndV (wBl (wCmT oGe (wOp oIx (wVar 1) (wC (.int 0))) (wC (.int 0)))) (wBl (wCmT oLe (wOp oIx (wVar 1) (wC (.int 0))) (wOp oMul (wVar 0) (wOp oIx (wVar 1) (wC (.int 1)))))))) (wCons (wC (.str "place")) (wNil))))
theorem len_is_lying : ∀ ds P ex, sp_is_lying ds P ex → ds.length = 2 := by
  intro ds P ex h
  unfold sp_is_lying at h
  split at h <;> first | rfl | exact h.elim
theorem len_demand_beam : ∀ ds P ex, sp_demand_beam ds P ex → ds.length = 2 := by
  intro ds P ex h
  unfold sp_demand_beam at h
  split at h <;> first | rfl | exact h.elim
theorem len_demand_place : ∀ ds P ex, sp_demand_place ds P ex → ds.length = 2 := by
  intro ds P ex h
  unfold sp_demand_place at h
  split at h <;> first | rfl | exact h.elim
theorem isTup_inv {v : D} {a b : Int} (h : isTup v a b = true) : ∃ ds, v = .tuple ds ∧ a ≤ (ds.length : Int) ∧ (ds.length : Int) ≤ b := by
  unfold isTup at h
  split at h
  · rename_i ds
    rw [Bool.and_eq_true, decide_eq_true_eq, decide_eq_true_eq] at h
    exact ⟨ds, rfl, h⟩
  · cases h
theorem ok_is_lying {ds : List D} {P : D → Prop} {ex : EX} (h : sp_is_lying ds P ex) : w_is_lying ex (endF P) (env0 ["value", "length"] ds) := by
  unfold sp_is_lying at h
  split at h
  · rename_i v L
    by_cases ht : isTup v 3 3 = true
    · obtain ⟨es, rfl, l1, l2⟩ := isTup_inv ht
      have l3 : es.length = 3 := by omega
      match es, l3 with
      | [a, b, c], _ =>
        simp [w_is_lying, sp_is_tuple, sp_is_in, ht, at30, endF]
        have e0 : isLy (.tuple [a, b, c]) L = (isIn a 0 (L - 1) && (ly2 a b L && isIn c 1 1000)) := rfl
        rw [e0] at h
        by_cases h1 : isIn a 0 (L - 1) = true
        · obtain ⟨i, rfl, _, _⟩ := isIn_inv h1
          simp [h1, ly2] at h ⊢
          by_cases h2 : isIn b (i + 1) L = true
          · simp [h2] at h ⊢
            exact h
          · simp [h2] at h ⊢
            exact h
        · simp [h1] at h ⊢
          exact h
    · have e : isLy v L = false := by
        unfold isLy
        split
        · exact absurd (by unfold isTup; simp) ht
        · rfl
      rw [e] at h
      simp [w_is_lying, sp_is_tuple, ht, endF]
      exact h
  · exact h.elim
theorem ok_demand_beam {ds : List D} {P : D → Prop} {ex : EX} (h : sp_demand_beam ds P ex) : w_demand_beam ex (endF P) (env0 ["length", "lying", "one"] ds) := by
  unfold sp_demand_beam at h
  split at h
  · rename_i l y
    obtain ⟨h1, h2⟩ := h
    simp [w_demand_beam, sp_is_in, sp_demand, endF]
    show (isIn l 1 240 = true → _) ∧ _
    refine ⟨fun hl => ?_, fun hl => h1 hl⟩
    obtain ⟨L, rfl, l1, l2⟩ := isIn_inv hl
    obtain ⟨h3, h4⟩ := h2 L rfl hl
    by_cases ht : isTup y 0 6 = true
    · obtain ⟨es, rfl, l3, l4⟩ := isTup_inv ht
      simp [sp_is_tuple, ht, wLc]
      refine lcL_map (fun _ => true) (fun d => .bool (isLy d L)) (by omega) (by simp) ?_ ?_
      · intro d hd acc N hl hN
        simp [sp_is_lying]
        exact ⟨hl, by simpa using hN⟩
      · have e1 : (es.filter fun _ => true) = es := List.filter_eq_self.mpr fun _ _ => rfl
        rw [e1]
        have e2 : boolsOf (es.map fun d => .bool (isLy d L)) = some (es.map fun d => isLy d L) := by
          have := boolsOf_map (es.map fun d => isLy d L)
          rwa [List.map_map] at this
        have e3 : goodY (.tuple es) L = (es.map fun d => isLy d L).all id := by
          show (decide (es.length ≤ 6) && es.all fun d => isLy d L) = _
          rw [decide_eq_true (by omega : es.length ≤ 6), List.all_map]
          simp
        simp only [e2]
        refine ⟨fun g => ?_, fun g => h3 (by rw [e3]; exact List.all_eq_false.mpr ⟨false, g, by simp⟩)⟩
        have g : goodY (.tuple es) L = true := by
          rw [e3]
          refine List.all_eq_true.mpr fun b hb => ?_
          cases b
          · exact absurd hb g
          · rfl
        obtain ⟨ls, e, v⟩ := goodY_inv (l := .none) hl g
        exact h4 ls e v
    · have e : goodY y L = false := by
        unfold goodY
        split
        · rename_i es
          have : ¬ es.length ≤ 6 := fun z => ht (by unfold isTup; simp; omega)
          simp [this]
        · rfl
      simp [sp_is_tuple, ht]
      exact h3 e
  · exact h.elim
theorem ok_demand_place {ds : List D} {P : D → Prop} {ex : EX} (h : sp_demand_place ds P ex) : w_demand_place ex (endF P) (env0 ["length", "place"] ds) := by
  unfold sp_demand_place at h
  split at h
  · rename_i L p
    obtain ⟨s1, s2, h1, h2⟩ := h
    by_cases hf : isFrac p = true
    · have hf' := hf
      unfold isFrac at hf
      split at hf
      · rename_i a b
        have s3 := s2 a b rfl
        simp [w_demand_place, sp_is_fraction, hf', sp_demand, endF, at20]
        have fin : goodP L (.tuple [.int a, .int b]) = (decide (0 ≤ a) && decide (a ≤ L * b)) := by
          show ((decide (0 < b) && decide (Int.gcd a b = 1)) && (decide (0 ≤ a) && decide (a ≤ L * b))) = _
          rw [hf, Bool.true_and]
        rw [fin] at h1
        by_cases c1 : 0 ≤ a
        · simp [c1] at h1 ⊢
          refine ⟨⟨s1, s3⟩, fun c2 => ?_, fun c2 => h1 (by omega)⟩
          simp only [Bool.and_eq_true, decide_eq_true_eq] at hf
          exact h2 (a, b) rfl ⟨hf, c1, c2⟩
        · simp [c1] at h1 ⊢
          exact fun _ => h1
      · cases hf
    · have e : goodP L p = false := by
        unfold goodP
        split
        · rename_i a b
          unfold isFrac at hf
          simp only [Bool.not_eq_true] at hf
          rw [hf]
          rfl
        · rfl
      simp [w_demand_place, sp_is_fraction, hf, sp_demand, endF]
      exact h1 e
  · exact h.elim
end Fz

set_option maxRecDepth 100000
set_option maxHeartbeats 4000000
/-! N28: forces and bending. -/
namespace Fz
open PySem PySem.Spec L2
def lf (g : Ld → Int) (d : D) : D := match d with
  | .tuple [.int b, .int e, .int w] => .int (g ⟨b, e, w⟩)
  | _ => .none
theorem lf_map (g : Ld → Int) (ls : List Ld) : ((ls.map ldD).filter fun _ => true).map (lf g) = (ls.map g).map .int := by
  rw [List.filter_eq_self.mpr fun _ _ => rfl, List.map_map, List.map_map]
  rfl
theorem sum_cast (g : Ld → Int) : ∀ ls : List Ld, (((ls.map g).sum : Int) : Rat) = sumQ (fun l => ((g l : Int) : Rat)) ls
  | [] => rfl
  | l :: r => by
    rw [List.map_cons, List.sum_cons]
    push_cast
    rw [sum_cast g r]
    rfl
theorem sum_le (g : Ld → Int) (m : Int) : ∀ ls : List Ld, (∀ l ∈ ls, 0 ≤ g l ∧ g l ≤ m) → 0 ≤ (ls.map g).sum ∧ (ls.map g).sum ≤ m * ls.length
  | [], _ => by simp
  | l :: r, h => by
    obtain ⟨a, b⟩ := sum_le g m r fun k hk => h k (List.mem_cons_of_mem _ hk)
    have c := h l List.mem_cons_self
    rw [List.map_cons, List.sum_cons, List.length_cons]
    push_cast
    rw [Int.mul_add, Int.mul_one]
    omega
def sQ (L : Int) (l : Ld) : Rat := (l.w : Rat) * ((l.b : Rat) + (l.e : Rat)) / (2 * (L : Rat))
def farI (ls : List Ld) : Int := (ls.map fun l => l.w * (l.b + l.e)).sum
def wholeI (ls : List Ld) : Int := (ls.map fun l => l.w).sum
theorem far_bd {L : Int} {ls : List Ld} (v : Vb L ls) : 0 ≤ farI ls ∧ farI ls ≤ 2880000 := by
  have h := sum_le (fun l => l.w * (l.b + l.e)) 480000 ls fun l hl => by
    obtain ⟨h1, h2, h3, h4, h5⟩ := v.each l hl
    have := v.l2
    exact ⟨Int.mul_nonneg (by omega) (by omega), Int.le_trans (Int.mul_le_mul h5 (show l.b + l.e ≤ 480 by omega) (by omega) (by omega)) (by omega)⟩
  have := v.few
  unfold farI
  omega
theorem whole_bd {L : Int} {ls : List Ld} (v : Vb L ls) : 0 ≤ wholeI ls ∧ wholeI ls ≤ 6000 := by
  have h := sum_le (fun l => l.w) 1000 ls fun l hl => by
    obtain ⟨h1, h2, h3, h4, h5⟩ := v.each l hl
    omega
  have := v.few
  unfold wholeI
  omega
def sp_end_forces : PSp := fun ds P x => match ds with
  | [l, y] => beamOr l y x fun L ls => ∀ a b : Fr, Red a → Red b → Bq 24 10 a → Bq 24 10 b → a.2 ∣ 2 * L → b.2 ∣ 2 * L → val a = sumQ (rQ L) ls → val b = sumQ (sQ L) ls → P (.tuple [frD a, frD b])
  | _ => False
def w_end_forces : WS := wSeq (wDrop (wCall sp_demand_beam (wCons (wVar 0) (wCons (wVar 1) (wNil)))))
  (wSeq (wAsg 2 (wFn oSum (wFrz (wLc (wIt (wVar 1)) (wgTup 3 (wgCons (wgName 3) (wgCons (wgName 4) (wgCons (wgName 5) (wgNil))))) (wYes) (wOp oMul (wVar 5) (wOp oAdd (wVar 3) (wVar 4))) [3, 4, 5]))))
  (wSeq (wAsg 6 (wFn oSum (wFrz (wLc (wIt (wVar 1)) (wgTup 3 (wgCons (wgName 3) (wgCons (wgName 4) (wgCons (wgName 5) (wgNil))))) (wYes) (wVar 5) [3, 4, 5]))))
  (wRet (wTup (wCons (wCall sp_fraction (wCons (wOp oSub (wOp oMul (wOp oMul (wC (.int 2)) (wVar 0)) (wVar 6)) (wVar 2)) (wCons (wOp oMul (wC (.int 2)) (wVar 0)) (wNil)))) (wCons (wCall sp_fraction (wCons (wVar 2) (wCons (wOp oMul (wC (.int 2)) (wVar 0)) (wNil)))) (wNil)))))))
theorem len_end_forces : ∀ ds P ex, sp_end_forces ds P ex → ds.length = 2 := by
  intro ds P ex h
  unfold sp_end_forces at h
  split at h <;> first | rfl | exact h.elim
theorem ok_end_forces {ds : List D} {P : D → Prop} {ex : EX} (h : sp_end_forces ds P ex) : w_end_forces ex (endF P) (env0 ["length", "lying", "far", "begin", "end", "weight", "whole"] ds) := by
  unfold sp_end_forces at h
  split at h
  · rename_i l y
    simp [w_end_forces, sp_demand_beam, endF]
    refine h.imp fun L ls el ey v hP => ?_
    subst el ey
    simp [wLc]
    have b1 := v.l1
    have b2 := v.l2
    have few := v.few
    refine lcL_map (fun _ => true) (lf fun l => l.w * (l.b + l.e)) (by simp; omega) (by simp) ?_ ?_
    · intro d hd acc N hl hN
      obtain ⟨k, hk, rfl⟩ := List.mem_map.mp hd
      obtain ⟨h1, h2, h3, h4, h5⟩ := v.each k hk
      simp [ldD]
      exact ⟨⟨.small (by omega) (by omega), .small (by omega) (by omega)⟩, hl, by simpa [lf, ldD] using hN⟩
    · rw [lf_map]
      simp only [intsOf_map]
      refine lcL_map (fun _ => true) (lf fun l => l.w) (by simp; omega) (by simp) ?_ ?_
      · intro d hd acc N hl hN
        obtain ⟨k, hk, rfl⟩ := List.mem_map.mp hd
        simp [ldD]
        exact ⟨hl, by simpa [lf, ldD] using hN⟩
      · rw [lf_map]
        simp only [intsOf_map]
        show (_ : Prop)
        have f1 := far_bd v
        have f2 := whole_bd v
        have e1 : (ls.map fun l => l.w * (l.b + l.e)).sum = farI ls := rfl
        have e2 : (ls.map fun l => l.w).sum = wholeI ls := rfl
        rw [e1, e2]
        have m1 : 0 ≤ 2 * L * wholeI ls := Int.mul_nonneg (by omega) (by omega)
        have m2 : 2 * L * wholeI ls ≤ 480 * 6000 := Int.mul_le_mul (by omega) (by omega) (by omega) (by omega)
        have dv : Dv (2 * L) := ⟨by omega, lt_2_8999 (by omega) (by omega)⟩
        simp [sp_fraction]
        have s2 : Sz 2 ∧ Sz L := ⟨.small (by omega) (by omega), .small (by omega) (by omega)⟩
        refine ⟨s2, ⟨.small (by omega) (by omega), .small (by omega) (by omega)⟩, s2, dv, s2, dv, ?_⟩
        have p1 : (2 * L * wholeI ls - farI ls).natAbs < 2 ^ 24 := by
          have : (2 : Nat) ^ 24 = 16777216 := by decide
          omega
        have p2 : (farI ls).natAbs < 2 ^ 24 := by
          have : (2 : Nat) ^ 24 = 16777216 := by decide
          omega
        have p3 : (2 * L).natAbs < 2 ^ 10 := by
          have : (2 : Nat) ^ 10 = 1024 := by decide
          omega
        have hL : (0 : Rat) < (L : Rat) := by exact_mod_cast (by omega : 0 < L)
        refine hP _ _ (frac_red (by omega)) (frac_red (by omega)) (.frac p1 (by omega) p3) (.frac p2 (by omega) p3) (frac_dvd (by omega)) (frac_dvd (by omega)) ?_ ?_
        · rw [val_frac (by omega)]
          have k : sumQ (rQ L) ls = sumQ (fun l => ((l.w : Int) : Rat) + (((l.w * (l.b + l.e) : Int)) : Rat) * (-1 / (2 * (L : Rat)))) ls := sumQ_eq fun l _ => by
            unfold rQ
            push_cast
            grind
          rw [k, sumQ_add (fun l => ((l.w : Int) : Rat)), sumQ_mul (fun l => (((l.w * (l.b + l.e) : Int)) : Rat)), ← sum_cast, ← sum_cast]
          show _ = ((wholeI ls : Int) : Rat) + ((farI ls : Int) : Rat) * _
          push_cast
          grind
        · rw [val_frac (by omega)]
          have k : sumQ (sQ L) ls = sumQ (fun l => (((l.w * (l.b + l.e) : Int)) : Rat) * (1 / (2 * (L : Rat)))) ls := sumQ_eq fun l _ => by
            unfold sQ
            push_cast
            grind
          rw [k, sumQ_mul (fun l => (((l.w * (l.b + l.e) : Int)) : Rat)), ← sum_cast]
          show _ = ((farI ls : Int) : Rat) * _
          push_cast
          grind
  · exact h.elim
/-! ### a load's part ahead of a place -/
def sp_part_before : PSp := fun ds P _ => match ds with
  | [.tuple [.int b, .int e, .int w], .tuple [.int p, .int q]] => ∃ n d : Nat, (Bq n d (p, q) ∧ d + 8 ≤ n ∧ n ≤ 400 ∧ Vl 240 ⟨b, e, w⟩) ∧
    ∀ a m : Fr, Red a → Red m → Bq (n + 11) (d + 8) a → Bq (2 * n + d + 14) (3 * d + 10) m → a.2 ∣ (e - b) * q → m.2 ∣ (e - b) * q * (2 * q) → val a = gQ ⟨b, e, w⟩ (val (p, q)) → val m = fQ ⟨b, e, w⟩ (val (p, q)) → P (.tuple [frD a, frD m])
  | _ => False
def w_part_before : WS := wSeq (wAsgG (wVar 0) (wgTup 3 (wgCons (wgName 2) (wgCons (wgName 3) (wgCons (wgName 4) (wgNil))))))
  (wSeq (wIf (wCmT oLe (wCall sp_compare (wCons (wVar 1) (wCons (wTup (wCons (wVar 2) (wCons (wC (.int 1)) (wNil)))) (wNil)))) (wC (.int 0))) (wRet (wTup (wCons (wTup (wCons (wC (.int 0)) (wCons (wC (.int 1)) (wNil)))) (wCons (wTup (wCons (wC (.int 0)) (wCons (wC (.int 1)) (wNil)))) (wNil))))) (wNext))
  (wSeq (wAsg 5 (wIfE (wCmT oLt (wCall sp_compare (wCons (wVar 1) (wCons (wTup (wCons (wVar 3) (wCons (wC (.int 1)) (wNil)))) (wNil)))) (wC (.int 0))) (wVar 1) (wTup (wCons (wVar 3) (wCons (wC (.int 1)) (wNil))))))
  (wSeq (wPar 6 7 (wCons (wOp oSub (wOp oIx (wVar 5) (wC (.int 0))) (wOp oMul (wVar 2) (wOp oIx (wVar 5) (wC (.int 1))))) (wCons (wOp oIx (wVar 5) (wC (.int 1))) (wNil))))
  (wSeq (wAsg 8 (wCall sp_fraction (wCons (wOp oMul (wVar 4) (wVar 6)) (wCons (wOp oMul (wOp oSub (wVar 3) (wVar 2)) (wVar 7)) (wNil)))))
  (wSeq (wAsg 9 (wCall sp_plus (wCons (wVar 1) (wCons (wCall sp_fraction (wCons (wUn oNeg (wOp oAdd (wOp oIx (wVar 5) (wC (.int 0))) (wOp oMul (wVar 2) (wOp oIx (wVar 5) (wC (.int 1)))))) (wCons (wOp oMul (wC (.int 2)) (wOp oIx (wVar 5) (wC (.int 1)))) (wNil)))) (wNil)))))
  (wRet (wTup (wCons (wVar 8) (wCons (wCall sp_fraction (wCons (wOp oMul (wOp oIx (wVar 8) (wC (.int 0))) (wOp oIx (wVar 9) (wC (.int 0)))) (wCons (wOp oMul (wOp oIx (wVar 8) (wC (.int 1))) (wOp oIx (wVar 9) (wC (.int 1)))) (wNil)))) (wNil))))))))))
theorem len_part_before : ∀ ds P ex, sp_part_before ds P ex → ds.length = 2 := by
  intro ds P ex h
  unfold sp_part_before at h
  split at h <;> first | rfl | exact h.elim
theorem pow_lit (n : Nat) : (0 : Nat) < 2 ^ n := Nat.pow_pos (by omega)
theorem lt_pow_of {a k n : Nat} (h : a < 2 ^ k) (hk : k ≤ n) : a < 2 ^ n := Nat.lt_of_lt_of_le h (Nat.pow_le_pow_right (by omega) hk)
/-- what is left behind the place's own part: last is the place or the load's end -/
theorem part_rest {b e w p q l1 l2 : Int} {n d : Nat} (hb : Bq n d (p, q)) (h8 : d + 8 ≤ n) (hn : n ≤ 400) (v : Vl 240 ⟨b, e, w⟩) (hl : Bq n d (l1, l2)) (hd : l2 = q ∨ l2 = 1) (hc : val (l1, l2) = clipQ ⟨b, e, w⟩ (val (p, q))) {P : D → Prop}
    (hP : ∀ a m : Fr, Red a → Red m → Bq (n + 11) (d + 8) a → Bq (2 * n + d + 14) (3 * d + 10) m → a.2 ∣ (e - b) * q → m.2 ∣ (e - b) * q * (2 * q) → val a = gQ ⟨b, e, w⟩ (val (p, q)) → val m = fQ ⟨b, e, w⟩ (val (p, q)) → P (.tuple [frD a, frD m])) :
    ∃ (own mid : Fr), own = frac (w * (l1 - b * l2)) ((e - b) * l2) ∧ mid = addF (p, q) (frac (-(l1 + b * l2)) (2 * l2)) ∧ (Sz b ∧ Sz l2) ∧ (Sz w ∧ Sz (l1 - b * l2)) ∧ (Sz (e - b) ∧ Sz l2) ∧ Dv ((e - b) * l2) ∧ (Sz 2 ∧ Sz l2) ∧ Dv (2 * l2) ∧
      (Sz p ∧ Sz q ∧ Sz (frac (-(l1 + b * l2)) (2 * l2)).1 ∧ Sz (frac (-(l1 + b * l2)) (2 * l2)).2 ∧ Dv (q * (frac (-(l1 + b * l2)) (2 * l2)).2)) ∧ (Sz own.1 ∧ Sz mid.1) ∧ (Sz own.2 ∧ Sz mid.2) ∧ Dv (own.2 * mid.2) ∧ P (.tuple [frD own, frD (frac (own.1 * mid.1) (own.2 * mid.2))]) := by
  obtain ⟨v1, v2, v3, v4, v5⟩ := id v
  simp only at v1 v2 v3 v4 v5
  have l20 : 0 < l2 := hl.2.1
  have q0 : 0 < q := hb.2.1
  have b8 : b.natAbs < 2 ^ 8 := by
    have : (2 : Nat) ^ 8 = 256 := by decide
    omega
  have eb8 : (e - b).natAbs < 2 ^ 8 := by
    have : (2 : Nat) ^ 8 = 256 := by decide
    omega
  have w10 : w.natAbs < 2 ^ 10 := by
    have : (2 : Nat) ^ 10 = 1024 := by decide
    omega
  have t2 : (2 : Int).natAbs < 2 ^ 2 := by decide
  have bl : (b * l2).natAbs < 2 ^ n := abs_mono (abs_mul_lt b8 hl.2.2) (by omega)
  have top := abs_sub_lt (n := n) hl.1 bl
  have sm := abs_add_lt (n := n) hl.1 bl
  have wt := abs_mul_lt w10 top
  have ebl := abs_mul_lt eb8 hl.2.2
  have l22 := abs_mul_lt t2 hl.2.2
  have p1 : 0 < (e - b) * l2 := Int.mul_pos (by omega) l20
  have p2 : 0 < 2 * l2 := by omega
  have own : Bq (n + 11) (d + 8) (frac (w * (l1 - b * l2)) ((e - b) * l2)) := (Bq.frac wt p1 ebl).mono (by omega) (by omega)
  have fr : Bq (n + 1) (d + 2) (frac (-(l1 + b * l2)) (2 * l2)) := (Bq.frac (by rw [Int.natAbs_neg]; exact sm) p2 l22).mono (by omega) (by omega)
  have mid := hb.add fr (k := n + d + 2) (by omega) (by omega)
  obtain ⟨⟨m1, m2⟩, em⟩ : ∃ m : Fr, addF (p, q) (frac (-(l1 + b * l2)) (2 * l2)) = m := ⟨_, rfl⟩
  refine ⟨_, _, rfl, rfl, ⟨.of b8 (by omega), .of hl.2.2 (by omega)⟩, ⟨.of w10 (by omega), .of top (by omega)⟩, ⟨.of eb8 (by omega), .of hl.2.2 (by omega)⟩, ⟨p1, abs_mono ebl (by omega)⟩, ⟨.of t2 (by omega), .of hl.2.2 (by omega)⟩, ⟨p2, abs_mono l22 (by omega)⟩, ⟨hb.s1 (by omega), hb.s2 (by omega), fr.s1 (by omega), fr.s2 (by omega), hb.dv fr (by omega)⟩, ?_⟩
  rw [em]
  rw [em] at mid
  have m20 : 0 < m2 := mid.2.1
  have o20 := own.2.1
  have k1 := abs_mul_lt own.1 mid.1
  have k2 := abs_mul_lt own.2.2 mid.2.2
  refine ⟨⟨own.s1 (by omega), mid.s1 (by omega)⟩, ⟨own.s2 (by omega), mid.s2 (by omega)⟩, ⟨Int.mul_pos o20 m20, abs_mono k2 (by omega)⟩, ?_⟩
  have lq : l2 ∣ q := by
    rcases hd with rfl | rfl
    · exact Int.dvd_refl _
    · exact Int.one_dvd _
  have dm : m2 ∣ 2 * q := by
    have z := add_dvd (x := (p, q)) (y := frac (-(l1 + b * l2)) (2 * l2)) hb.2.1 fr.2.1 (m := 2 * q) ⟨2, Int.mul_comm ..⟩ (Int.dvd_trans (frac_dvd p2) (Int.mul_dvd_mul (Int.dvd_refl _) lq))
    rw [em] at z
    exact z
  have do_ : (frac (w * (l1 - b * l2)) ((e - b) * l2)).2 ∣ (e - b) * q := Int.dvd_trans (frac_dvd p1) (Int.mul_dvd_mul (Int.dvd_refl _) lq)
  have vo : val (frac (w * (l1 - b * l2)) ((e - b) * l2)) = gQ ⟨b, e, w⟩ (val (p, q)) := by
    rw [val_frac p1]
    unfold gQ
    rw [← hc]
    unfold val
    have h1 := v.ed
    simp only at h1 ⊢
    have h2 := ratPos l20
    push_cast
    generalize (l1 : Rat) = l1 at *
    generalize (l2 : Rat) = l2 at *
    generalize (e : Rat) = e at *
    generalize (b : Rat) = b at *
    generalize (w : Rat) = w at *
    have n1 : e - b ≠ 0 := by grind
    have n2 : l2 ≠ 0 := by grind
    have n3 : (e - b) * l2 ≠ 0 := mulNe n1 n2
    grind
  have vm : val (m1, m2) = val (p, q) - (clipQ ⟨b, e, w⟩ (val (p, q)) + (b : Rat)) / 2 := by
    rw [← em, val_add hb.2.1 fr.2.1, val_frac p2, ← hc]
    have h2 := ratPos l20
    have : (((-(l1 + b * l2) : Int)) : Rat) / ((2 * l2 : Int) : Rat) = -((val (l1, l2) + (b : Rat)) / 2) := by
      unfold val
      push_cast
      generalize (l1 : Rat) = l1 at *
      generalize (l2 : Rat) = l2 at *
      generalize (b : Rat) = b at *
      have n2 : l2 ≠ 0 := by grind
      grind
    rw [this]
    grind
  refine hP _ _ (frac_red p1) (frac_red (Int.mul_pos o20 m20)) own ((Bq.frac k1 (Int.mul_pos o20 m20) k2).mono (by omega) (by omega)) do_ (Int.dvd_trans (frac_dvd (Int.mul_pos o20 m20)) (Int.mul_dvd_mul do_ dm)) vo ?_
  rw [val_frac (Int.mul_pos o20 m20)]
  unfold fQ
  rw [← vo, ← vm]
  unfold val
  have h1 := ratPos o20
  have h2 := ratPos m20
  push_cast
  generalize ((frac (w * (l1 - b * l2)) ((e - b) * l2)).1 : Rat) = x1 at *
  generalize ((frac (w * (l1 - b * l2)) ((e - b) * l2)).2 : Rat) = x2 at *
  generalize (m1 : Rat) = y1 at *
  generalize (m2 : Rat) = y2 at *
  grind
end Fz

set_option maxRecDepth 100000
set_option maxHeartbeats 4000000
namespace Fz
open PySem PySem.Spec L2
theorem ok_part_before {ds : List D} {P : D → Prop} {ex : EX} (h : sp_part_before ds P ex) : w_part_before ex (endF P) (env0 ["one", "place", "begin", "end", "weight", "last", "top", "bottom", "own", "middle"] ds) := by
  unfold sp_part_before at h
  split at h
  · rename_i b e w p q
    obtain ⟨n, d, ⟨hb, h8, hn, v⟩, hP⟩ := h
    obtain ⟨v1, v2, v3, v4, v5⟩ := id v
    simp only at v1 v2 v3 v4 v5
    have sp : Sz p ∧ Sz q := ⟨hb.s1 (by omega), hb.s2 (by omega)⟩
    have s1 : Sz 1 := .small (by omega) (by omega)
    have sb : Sz b := .small (by omega) (by omega)
    have se : Sz e := .small (by omega) (by omega)
    have q0 : 0 < q := hb.2.1
    have cb := cmp_le (x := (p, q)) (y := (b, 1)) q0 (by omega)
    have ce := cmp_lt (x := (p, q)) (y := (e, 1)) q0 (by omega)
    rw [val_int] at cb ce
    simp [w_part_before, sp_compare, endF]
    refine ⟨⟨sp.1, sp.2, sb, s1⟩, ?_⟩
    by_cases c1 : cmpF (p, q) (b, 1) ≤ 0
    · rw [if_pos c1]
      have cl : clipQ ⟨b, e, w⟩ (val (p, q)) = (b : Rat) := if_pos (cb.mp c1)
      have g0 : gQ ⟨b, e, w⟩ (val (p, q)) = 0 := by
        unfold gQ
        rw [cl]
        grind
      refine hP (0, 1) (0, 1) ⟨by omega, by decide⟩ ⟨by omega, by decide⟩ ⟨pow_lit _, by omega, ?_⟩ ⟨pow_lit _, by omega, ?_⟩ (Int.one_dvd _) (Int.one_dvd _) ?_ ?_
      · exact Nat.one_lt_two_pow (by omega)
      · exact Nat.one_lt_two_pow (by omega)
      · rw [g0, val_int]; rfl
      · unfold fQ
        rw [g0, val_int]
        show (0 : Rat) = _
        grind
    · rw [if_neg c1]
      have nb : ¬ val (p, q) ≤ (b : Rat) := fun z => c1 (cb.mpr z)
      refine ⟨⟨sp.1, sp.2, se, s1⟩, ?_⟩
      by_cases c2 : cmpF (p, q) (e, 1) < 0
      · rw [if_pos c2]
        have cl : clipQ ⟨b, e, w⟩ (val (p, q)) = val (p, q) := by
          unfold clipQ
          rw [if_neg nb]
          exact if_pos (ce.mp c2)
        obtain ⟨own, mid, eo, em, a1, a2, a3, a4, a5, a6, a7, a8, a9, a10, a11⟩ := part_rest (P := P) hb h8 hn v hb (.inl rfl) cl.symm hP
        simp [at20, sp_fraction, sp_plus, frD, ← eo, ← em]
        exact ⟨a1, a2, a3, a4, a1, a5, a6, a7, a8, a9, a10, a11⟩
      · rw [if_neg c2]
        have cl : clipQ ⟨b, e, w⟩ (val (p, q)) = (e : Rat) := by
          unfold clipQ
          rw [if_neg nb]
          exact if_neg fun z => c2 (ce.mpr z)
        have hd1 : 1 ≤ d := by
          have := hb.2.2
          rcases Nat.eq_zero_or_pos d with z | z
          · subst z
            have : q.natAbs < 1 := this
            omega
          · exact z
        have he : Bq n d (e, 1) := ⟨lt_pow_of (k := 8) (by have : (2 : Nat) ^ 8 = 256 := by decide
                                                           show e.natAbs < 2 ^ 8
                                                           omega) (by omega), by omega, Nat.one_lt_two_pow (by omega)⟩
        obtain ⟨own, mid, eo, em, a1, a2, a3, a4, a5, a6, a7, a8, a9, a10, a11⟩ := part_rest (P := P) hb h8 hn v he (.inr rfl) (by rw [val_int, cl]) hP
        simp only [Int.mul_one] at eo em a1 a2 a3 a4 a5 a6 a7
        simp [at20, sp_fraction, sp_plus, frD, ← eo, ← em]
        exact ⟨a1, a2, a3, a4, a1, a5, a6, a7, a8, a9, a10, a11⟩
  · exact h.elim
end Fz

set_option maxRecDepth 100000
set_option maxHeartbeats 4000000
/-! P28: cut forces, bending. -/
namespace Fz
open PySem PySem.Spec L2
theorem sumQ_app (f : Ld → Rat) : ∀ (a b : List Ld), sumQ f (a ++ b) = sumQ f a + sumQ f b
  | [], b => by show sumQ f b = 0 + sumQ f b; grind
  | l :: r, b => by
    have := sumQ_app f r b
    show f l + sumQ f (r ++ b) = (f l + sumQ f r) + sumQ f b
    rw [this]
    grind
theorem sumQ_take (f : Ld → Rat) {ls : List Ld} {i : Nat} {l : Ld} (h : ls[i]? = some l) : sumQ f (ls.take (i + 1)) = sumQ f (ls.take i) + f l := by
  rw [List.take_add_one, h, sumQ_app]
  show sumQ f (ls.take i) + (f l + 0) = _
  grind
theorem sumQ_sub (f g : Ld → Rat) : ∀ ls : List Ld, sumQ (fun l => f l - g l) ls = sumQ f ls - sumQ g ls
  | [] => by show (0 : Rat) = 0 - 0; grind
  | l :: r => by
    have b := sumQ_sub f g r
    show f l - g l + sumQ (fun l => f l - g l) r = (f l + sumQ f r) - (g l + sumQ g r)
    rw [b]
    grind
theorem ldD_get {ls : List Ld} {i : Nat} {d : D} (h : (ls.map ldD)[i]? = some d) : ∃ l, ls[i]? = some l ∧ d = ldD l ∧ i < ls.length ∧ l ∈ ls := by
  rw [List.getElem?_map] at h
  cases e : ls[i]? with
  | none => rw [e] at h; cases h
  | some l =>
    rw [e] at h
    exact ⟨l, rfl, (Option.some.inj h).symm, (List.getElem?_eq_some_iff.mp e).1, List.mem_of_getElem? e⟩
theorem Vl.wide {L : Int} {l : Ld} (v : Vl L l) (h : L ≤ 240) : Vl 240 l := ⟨v.b0, v.be, Int.le_trans v.eL h, v.w1, v.w2⟩
def sp_cut_force : PSp := fun ds P x => match ds with
  | [l, y, p] => beamOr l y x fun L ls => (∀ a b, p = .tuple [.int a, .int b] → Sz b) ∧ placeOr L p x fun q => ∃ n d : Nat, (Bq n d q ∧ d + 8 ≤ n ∧ n ≤ 400) ∧
    ∀ z : Fr, Red z → Bq (24 + n + (d + 9) * 6) (10 + (d + 8) * 6) z → val z = cutR L ls (val q) → P (frD z)
  | _ => False
def w_cut_force : WS := wSeq (wDrop (wCall sp_demand_beam (wCons (wVar 0) (wCons (wVar 1) (wNil)))))
  (wSeq (wDrop (wCall sp_demand_place (wCons (wVar 0) (wCons (wVar 2) (wNil)))))
  (wSeq (wAsg 3 (wOp oIx (wCall sp_end_forces (wCons (wVar 0) (wCons (wVar 1) (wNil)))) (wC (.int 0))))
  (wSeq (wFor (wIt (wVar 1)) (wgName 4) (wSeq (wAsg 5 (wOp oIx (wCall sp_part_before (wCons (wVar 4) (wCons (wVar 2) (wNil)))) (wC (.int 0))))
  (wAsg 3 (wCall sp_plus (wCons (wVar 3) (wCons (wTup (wCons (wUn oNeg (wOp oIx (wVar 5) (wC (.int 0)))) (wCons (wOp oIx (wVar 5) (wC (.int 1))) (wNil)))) (wNil)))))))
  (wRet (wVar 3)))))
theorem len_cut_force : ∀ ds P ex, sp_cut_force ds P ex → ds.length = 3 := by
  intro ds P ex h
  unfold sp_cut_force at h
  split at h <;> first | rfl | exact h.elim
theorem placeOr.imp {L : Int} {p : D} {x : EX} {k k' : Fr → Prop} (h : placeOr L p x k) (f : ∀ q : Fr, p = frD q → Vp L q → k q → k' q) : placeOr L p x k' := ⟨h.1, fun q e v => f q e v (h.2 q e v)⟩
theorem ok_cut_force {ds : List D} {P : D → Prop} {ex : EX} (h : sp_cut_force ds P ex) : w_cut_force ex (endF P) (env0 ["length", "lying", "place", "found", "one", "own"] ds) := by
  unfold sp_cut_force at h
  split at h
  · rename_i l y p
    simp [-Prod.forall, -Prod.exists, w_cut_force, sp_demand_beam, sp_demand_place, endF]
    refine h.imp fun L ls el ey v ⟨hs, hp⟩ => ?_
    subst el ey
    have b1 := v.l1
    have b2 := v.l2
    have few := v.few
    refine ⟨.small (by omega) (by omega), hs, hp.imp fun q ep vp ⟨n, d, ⟨hb, h8, hn⟩, hP⟩ => ?_⟩
    obtain ⟨q1, q2⟩ := q
    subst ep
    simp [-Prod.forall, -Prod.exists, sp_end_forces]
    refine beamOr_ok v ?_
    intro a b ra rb ba bb da db va vb
    simp [-Prod.forall, -Prod.exists, at20, wFor]
    refine forL_inv (fun i ρ => ∃ (f : Fr) (c4 c5 : Slot), ρ = [.dat (.int L), .dat (.tuple (ls.map ldD)), .dat (.tuple [.int q1, .int q2]), .dat (frD f), c4, c5] ∧ Red f ∧ Bq (24 + n + (d + 9) * i) (10 + (d + 8) * i) f ∧ val f = sumQ (rQ L) ls - sumQ (fun l => gQ l (val (q1, q2))) (ls.take i))
      ⟨a, _, _, rfl, ra, ba.mono (by omega) (by omega), by rw [va]; show _ = _ - (0 : Rat); grind⟩ ?_ ?_
    · rintro i dd ρ hd ⟨f, c4, c5, rfl, rf, bf, vf⟩ N hN
      obtain ⟨l, hl, rfl, hi, hm⟩ := ldD_get hd
      have vl := (v.each l hm).wide b2
      simp [-Prod.forall, -Prod.exists, ldD, sp_part_before]
      refine ⟨n, d, ⟨hb, h8, hn, vl⟩, ?_⟩
      intro a m ra rm ba bm da dm va vm
      simp [-Prod.forall, -Prod.exists, at20, frD]
      have hi6 : (d + 8) * i ≤ (d + 8) * 5 := Nat.mul_le_mul (Nat.le_refl _) (by omega)
      have hi7 : (d + 9) * i = (d + 8) * i + i := by rw [show d + 9 = (d + 8) + 1 from rfl, Nat.add_mul, Nat.one_mul]
      have hi8 : (d + 9) * (i + 1) = (d + 9) * i + (d + 9) := Nat.mul_succ ..
      have hi9 : (d + 8) * (i + 1) = (d + 8) * i + (d + 8) := Nat.mul_succ ..
      refine sp_plus_of (x := f) (y := (-a.1, a.2)) bf ba.neg (by omega) (by omega) (by omega) ?_
      refine hN _ ⟨_, _, _, rfl, add_red rf.1 ra.1, (bf.add ba.neg (k := 23 + n + (d + 9) * (i + 1)) (by omega) (by omega)).mono (by omega) (by omega), ?_⟩
      rw [val_add rf.1 (show 0 < (-a.1, a.2).2 from ra.1), vf, sumQ_take _ hl, ← va]
      have : val (-a.1, a.2) = - val a := by
        unfold val
        push_cast
        generalize (a.1 : Rat) = x
        generalize (a.2 : Rat) = y
        rw [Rat.div_def, Rat.div_def]
        grind
      rw [this]
      grind
    · rintro ρ ⟨f, c4, c5, rfl, rf, bf, vf⟩
      rw [List.length_map] at bf vf
      simp [-Prod.forall, -Prod.exists]
      have hi6 : (d + 8) * ls.length ≤ (d + 8) * 6 := Nat.mul_le_mul (Nat.le_refl _) few
      have hi7 : (d + 9) * ls.length ≤ (d + 9) * 6 := Nat.mul_le_mul (Nat.le_refl _) few
      refine hP f rf (bf.mono (by omega) (by omega)) ?_
      rw [vf, List.take_length]
      unfold cutR
      rw [sumQ_sub]
  · exact h.elim
/-! ### bending -/
def prodE : List Ld → Int
  | [] => 1
  | l :: r => (l.e - l.b) * prodE r
def Qd (L : Int) (ls : List Ld) (q : Fr) : Int := 2 * L * q.2 * (2 * q.2) * prodE ls
theorem prodE_dvd {l : Ld} : ∀ {ls : List Ld}, l ∈ ls → (l.e - l.b) ∣ prodE ls
  | k :: r, h => by
    rcases List.mem_cons.mp h with rfl | h
    · exact ⟨prodE r, rfl⟩
    · exact Int.dvd_trans (prodE_dvd h) ⟨k.e - k.b, Int.mul_comm ..⟩
theorem prodE_bd {L : Int} (hL : L ≤ 240) : ∀ {ls : List Ld}, (∀ l ∈ ls, Vl L l) → 0 < prodE ls ∧ (prodE ls).natAbs < 2 ^ (8 * ls.length + 1)
  | [], _ => by simp [-Prod.forall, -Prod.exists, prodE]
  | l :: r, h => by
    obtain ⟨a, b⟩ := prodE_bd hL (ls := r) fun k hk => h k (List.mem_cons_of_mem _ hk)
    obtain ⟨h1, h2, h3, h4, h5⟩ := h l List.mem_cons_self
    have e8 : (l.e - l.b).natAbs < 2 ^ 8 := by
      have : (2 : Nat) ^ 8 = 256 := by decide
      omega
    refine ⟨Int.mul_pos (by omega) a, ?_⟩
    have := abs_mul_lt e8 b
    rw [List.length_cons, show 8 * (r.length + 1) + 1 = 8 + (8 * r.length + 1) from by omega]
    exact this
def sp_bending : PSp := fun ds P x => match ds with
  | [l, y, p] => beamOr l y x fun L ls => (∀ a b, p = .tuple [.int a, .int b] → Sz b) ∧ placeOr L p x fun q => ∃ n d : Nat, (Bq n d q ∧ d + 8 ≤ n ∧ n ≤ 400) ∧
    ∀ z : Fr, Red z → Bq (24 + 2 * n + 2 * d + (3 * d + 11) * 6) (10 + d + (3 * d + 10) * 6) z → z.2 ∣ Qd L ls q → val z = bendR L ls (val q) → P (frD z)
  | _ => False
def w_bending : WS := wSeq (wDrop (wCall sp_demand_beam (wCons (wVar 0) (wCons (wVar 1) (wNil)))))
  (wSeq (wDrop (wCall sp_demand_place (wCons (wVar 0) (wCons (wVar 2) (wNil)))))
  (wSeq (wAsg 3 (wOp oIx (wCall sp_end_forces (wCons (wVar 0) (wCons (wVar 1) (wNil)))) (wC (.int 0))))
  (wSeq (wAsg 4 (wCall sp_fraction (wCons (wOp oMul (wOp oIx (wVar 3) (wC (.int 0))) (wOp oIx (wVar 2) (wC (.int 0)))) (wCons (wOp oMul (wOp oIx (wVar 3) (wC (.int 1))) (wOp oIx (wVar 2) (wC (.int 1)))) (wNil)))))
  (wSeq (wFor (wIt (wVar 1)) (wgName 5) (wSeq (wAsg 6 (wOp oIx (wCall sp_part_before (wCons (wVar 5) (wCons (wVar 2) (wNil)))) (wC (.int 1))))
  (wAsg 4 (wCall sp_plus (wCons (wVar 4) (wCons (wTup (wCons (wUn oNeg (wOp oIx (wVar 6) (wC (.int 0)))) (wCons (wOp oIx (wVar 6) (wC (.int 1))) (wNil)))) (wNil)))))))
  (wRet (wVar 4))))))
theorem len_bending : ∀ ds P ex, sp_bending ds P ex → ds.length = 3 := by
  intro ds P ex h
  unfold sp_bending at h
  split at h <;> first | rfl | exact h.elim
theorem val_neg {a : Fr} : val (-a.1, a.2) = - val a := by
  unfold val
  push_cast
  generalize (a.1 : Rat) = x
  generalize (a.2 : Rat) = y
  rw [Rat.div_def, Rat.div_def]
  grind
theorem ok_bending {ds : List D} {P : D → Prop} {ex : EX} (h : sp_bending ds P ex) : w_bending ex (endF P) (env0 ["length", "lying", "place", "first", "found", "one", "own"] ds) := by
  unfold sp_bending at h
  split at h
  · rename_i l y p
    simp [-Prod.forall, -Prod.exists, w_bending, sp_demand_beam, sp_demand_place, endF]
    refine h.imp fun L ls el ey v ⟨hs, hp⟩ => ?_
    subst el ey
    have b1 := v.l1
    have b2 := v.l2
    have few := v.few
    refine ⟨.small (by omega) (by omega), hs, hp.imp fun q ep vp ⟨n, d, ⟨hb, h8, hn⟩, hP⟩ => ?_⟩
    obtain ⟨q1, q2⟩ := q
    subst ep
    simp [-Prod.forall, -Prod.exists, sp_end_forces]
    refine beamOr_ok v ?_
    intro a b ra rb ba bb da db va vb
    have q20 : 0 < q2 := hb.2.1
    have a20 := ra.1
    have start : Bq (24 + n) (10 + d) (frac (a.1 * q1) (a.2 * q2)) := .frac (abs_mul_lt ba.1 hb.1) (Int.mul_pos a20 q20) (abs_mul_lt ba.2.2 hb.2.2)
    have sd : (frac (a.1 * q1) (a.2 * q2)).2 ∣ Qd L ls (q1, q2) := by
      refine Int.dvd_trans (frac_dvd (Int.mul_pos a20 q20)) ?_
      refine Int.dvd_trans (Int.mul_dvd_mul da (Int.dvd_refl q2)) ?_
      exact ⟨2 * q2 * prodE ls, by unfold Qd; simp only; grind⟩
    have sv : val (frac (a.1 * q1) (a.2 * q2)) = sumQ (rQ L) ls * val (q1, q2) := by
      rw [val_frac (Int.mul_pos a20 q20), ← va]
      unfold val
      have h1 := ratPos a20
      have h2 := ratPos q20
      push_cast
      generalize (a.1 : Rat) = x1 at *
      generalize (a.2 : Rat) = x2 at *
      generalize (q1 : Rat) = y1 at *
      generalize (q2 : Rat) = y2 at *
      grind
    simp [-Prod.forall, -Prod.exists, at20, wFor, frD, sp_fraction]
    refine ⟨⟨ba.s1 (by omega), hb.s1 (by omega)⟩, ⟨ba.s2 (by omega), hb.s2 (by omega)⟩, ⟨Int.mul_pos a20 q20, abs_mono (abs_mul_lt ba.2.2 hb.2.2) (by omega)⟩, ?_⟩
    refine forL_inv (fun i ρ => ∃ (f : Fr) (c5 c6 : Slot), ρ = [.dat (.int L), .dat (.tuple (ls.map ldD)), .dat (.tuple [.int q1, .int q2]), .dat (frD a), .dat (frD f), c5, c6] ∧ Red f ∧ Bq (24 + 2 * n + 2 * d + (3 * d + 11) * i) (10 + d + (3 * d + 10) * i) f ∧ f.2 ∣ Qd L ls (q1, q2) ∧
        val f = sumQ (rQ L) ls * val (q1, q2) - sumQ (fun l => fQ l (val (q1, q2))) (ls.take i))
      ⟨_, _, _, rfl, frac_red (Int.mul_pos a20 q20), start.mono (by omega) (by omega), sd, by rw [sv]; show _ = _ - (0 : Rat); grind⟩ ?_ ?_
    · rintro i dd ρ hd ⟨f, c5, c6, rfl, rf, bf, df, vf⟩ N hN
      obtain ⟨l, hl, rfl, hi, hm⟩ := ldD_get hd
      have vl := (v.each l hm).wide b2
      simp [-Prod.forall, -Prod.exists, ldD, sp_part_before]
      refine ⟨n, d, ⟨hb, h8, hn, vl⟩, ?_⟩
      intro a m ra rm ba bm da dm va vm
      simp [-Prod.forall, -Prod.exists, at20, frD]
      have hi6 : (3 * d + 10) * i ≤ (3 * d + 10) * 5 := Nat.mul_le_mul (Nat.le_refl _) (by omega)
      have hi7 : (3 * d + 11) * i = (3 * d + 10) * i + i := by rw [show 3 * d + 11 = (3 * d + 10) + 1 from rfl, Nat.add_mul, Nat.one_mul]
      have hi8 : (3 * d + 11) * (i + 1) = (3 * d + 11) * i + (3 * d + 11) := Nat.mul_succ ..
      have hi9 : (3 * d + 10) * (i + 1) = (3 * d + 10) * i + (3 * d + 10) := Nat.mul_succ ..
      refine sp_plus_of (x := f) (y := (-m.1, m.2)) bf bm.neg (by omega) (by omega) (by omega) ?_
      refine hN _ ⟨_, _, _, rfl, add_red rf.1 rm.1, (bf.add bm.neg (k := 23 + 2 * n + 2 * d + (3 * d + 11) * (i + 1)) (by omega) (by omega)).mono (by omega) (by omega), add_dvd (y := (-m.1, m.2)) rf.1 rm.1 df (show m.2 ∣ _ from ?_), ?_⟩
      · refine Int.dvd_trans dm ?_
        obtain ⟨c, hc⟩ := prodE_dvd hm
        exact ⟨2 * L * c, by unfold Qd; simp only; rw [hc]; grind⟩
      · rw [val_add rf.1 (show 0 < (-m.1, m.2).2 from rm.1), vf, sumQ_take _ hl, ← vm, val_neg]
        grind
    · rintro ρ ⟨f, c5, c6, rfl, rf, bf, df, vf⟩
      rw [List.length_map] at bf vf
      simp [-Prod.forall, -Prod.exists]
      have hi6 : (3 * d + 10) * ls.length ≤ (3 * d + 10) * 6 := Nat.mul_le_mul (Nat.le_refl _) few
      have hi7 : (3 * d + 11) * ls.length ≤ (3 * d + 11) * 6 := Nat.mul_le_mul (Nat.le_refl _) few
      refine hP f rf (bf.mono (by omega) (by omega)) df ?_
      rw [vf, List.take_length]
      unfold bendR
      rw [sumQ_sub (fun l => rQ L l * val (q1, q2)), sumQ_mul]
  · exact h.elim
end Fz

set_option maxRecDepth 100000
set_option maxHeartbeats 4000000
/-! S28: where a beam bends most. -/
namespace Fz
open PySem PySem.Spec L2
def marksI (ls : List Ld) : List Int := 0 :: (ls.map (·.b) ++ ls.map (·.e))
structure MB (L : Int) (ls : List Ld) (z : Fr) : Prop where
  red : Red z
  bq : Bq 232 223 z
  vp : Vp L z
  emp : ls = [] → z = (0, 1)
  pos : ls ≠ [] → 0 < z.1
  cut : ls ≠ [] → cutR L ls (val z) = 0
  mks : ls ≠ [] → ∀ m ∈ marksI ls, (m : Rat) < val z → 0 < cutR L ls (m : Rat)
def sp_most_bent : PSp := fun ds P x => match ds with
  | [l, y] => beamOr l y x fun L ls => ∀ z : Fr, MB L ls z → P (frD z)
  | _ => False
def sp_greatest_bending : PSp := fun ds P x => match ds with
  | [l, y] => beamOr l y x fun L ls => ∀ q z : Fr, MB L ls q → Red z → Bq 8000 8000 z → z.2 ∣ Qd L ls q → val z = bendR L ls (val q) → P (frD z)
  | _ => False
def w_most_bent : WS := wSeq (wDrop (wCall sp_demand_beam (wCons (wVar 0) (wCons (wVar 1) (wNil)))))
  (wSeq (wAsg 2 (wFrz (wSrtSetI (wFrz (wOpN oCat (wFrz (wOpN oCat (wFrz (wLst (wCons (wC (.int 0)) (wCons (wVar 0) (wNil))))) (wFrz (wLc (wIt (wVar 1)) (wgName 3) (wYes) (wOp oIx (wVar 3) (wC (.int 0))) [3])))) (wFrz (wLc (wIt (wVar 1)) (wgName 3) (wYes) (wOp oIx (wVar 3) (wC (.int 1))) [3])))))))
  (wSeq (wFor (wItZ (wVar 2) (wFrz (wSlL (wVar 2) (wEnd (wC (.int 1))) (wNo)))) (wgTup 2 (wgCons (wgName 4) (wgCons (wgName 5) (wgNil)))) (wSeq (wPar 6 7 (wCons (wCall sp_cut_force (wCons (wVar 0) (wCons (wVar 1) (wCons (wTup (wCons (wVar 4) (wCons (wC (.int 1)) (wNil)))) (wNil))))) (wCons (wCall sp_cut_force (wCons (wVar 0) (wCons (wVar 1) (wCons (wTup (wCons (wVar 5) (wCons (wC (.int 1)) (wNil)))) (wNil))))) (wNil))))
  (wSeq (wIf (wCmT oLe (wOp oIx (wVar 6) (wC (.int 0))) (wC (.int 0))) (wRet (wTup (wCons (wVar 4) (wCons (wC (.int 1)) (wNil))))) (wNext))
  (wIf (wCmT oLe (wOp oIx (wVar 7) (wC (.int 0))) (wC (.int 0))) (wSeq (wAsg 8 (wCall sp_plus (wCons (wVar 6) (wCons (wTup (wCons (wUn oNeg (wOp oIx (wVar 7) (wC (.int 0)))) (wCons (wOp oIx (wVar 7) (wC (.int 1))) (wNil)))) (wNil)))))
  (wSeq (wAsg 9 (wCall sp_fraction (wCons (wOp oMul (wOp oMul (wOp oIx (wVar 6) (wC (.int 0))) (wOp oIx (wVar 8) (wC (.int 1)))) (wOp oSub (wVar 5) (wVar 4))) (wCons (wOp oMul (wOp oIx (wVar 6) (wC (.int 1))) (wOp oIx (wVar 8) (wC (.int 0)))) (wNil)))))
  (wRet (wCall sp_plus (wCons (wTup (wCons (wVar 4) (wCons (wC (.int 1)) (wNil)))) (wCons (wVar 9) (wNil))))))) (wNext)))))
  (wRet (wTup (wCons (wC (.int 0)) (wCons (wC (.int 1)) (wNil)))))))
def w_greatest_bending : WS := wRet (wCall sp_bending (wCons (wVar 0) (wCons (wVar 1) (wCons (wCall sp_most_bent (wCons (wVar 0) (wCons (wVar 1) (wNil)))) (wNil)))))
theorem len_most_bent : ∀ ds P ex, sp_most_bent ds P ex → ds.length = 2 := by
  intro ds P ex h
  unfold sp_most_bent at h
  split at h <;> first | rfl | exact h.elim
theorem len_greatest_bending : ∀ ds P ex, sp_greatest_bending ds P ex → ds.length = 2 := by
  intro ds P ex h
  unfold sp_greatest_bending at h
  split at h <;> first | rfl | exact h.elim
theorem ok_greatest_bending {ds : List D} {P : D → Prop} {ex : EX} (h : sp_greatest_bending ds P ex) : w_greatest_bending ex (endF P) (env0 ["length", "lying"] ds) := by
  unfold sp_greatest_bending at h
  split at h
  · rename_i l y
    simp [-Prod.forall, -Prod.exists, w_greatest_bending, sp_most_bent, endF]
    refine h.imp fun L ls el ey v hP => ?_
    subst el ey
    intro q mq
    have hb := mq.bq
    simp [-Prod.forall, -Prod.exists, sp_bending]
    refine beamOr_ok v ⟨fun a b e => ?_, placeOr_ok mq.vp ⟨232, 223, ⟨hb, by omega, by omega⟩, fun z rz bz dz vz => hP q z mq rz (bz.mono (by omega) (by omega)) dz vz⟩⟩
    obtain ⟨q1, q2⟩ := q
    cases e
    exact hb.s2 (by omega)
  · exact h.elim
theorem cutD_tail (ds : List D) : cutD ds (some 1) none = ds.tail := by
  unfold cutD
  rw [HT.sIx_none, show (some 1 : Option Int) = some ((1 : Nat) : Int) from rfl, HT.sIx_nat]
  cases ds with
  | nil => rfl
  | cons d r =>
    rw [List.length_cons, show min 1 (r.length + 1) = 1 from by omega]
    show (r.take (r.length + 1 - 1)) = r
    rw [Nat.add_sub_cancel, List.take_length]
/-- a strictly rising list's places -/
theorem rise_lt {ms : List Int} (h : ms.Pairwise (· < ·)) {i j : Nat} {a b : Int} (ha : ms[i]? = some a) (hb : ms[j]? = some b) : (i < j → a < b) ∧ (i = j → a = b) := by
  obtain ⟨h1, e1⟩ := List.getElem?_eq_some_iff.mp ha
  obtain ⟨h2, e2⟩ := List.getElem?_eq_some_iff.mp hb
  refine ⟨fun hij => ?_, fun hij => ?_⟩
  · rw [← e1, ← e2]
    exact List.pairwise_iff_getElem.mp h i j h1 h2 hij
  · subst hij
    rw [← e1, ← e2]
theorem int_dat {ms : List Int} {i : Nat} {d : D} (h : (ms.map PyData.int)[i]? = some d) : ∃ a, ms[i]? = some a ∧ d = .int a := by
  rw [List.getElem?_map] at h
  cases e : ms[i]? with
  | none => rw [e] at h; cases h
  | some a =>
    rw [e] at h
    exact ⟨a, rfl, (Option.some.inj h).symm⟩
theorem val_pos {x : Fr} (h : 0 < x.2) : 0 < val x ↔ 0 < x.1 := by
  have := val_lt (x := (0, 1)) (y := x) (by show (0 : Int) < 1; omega) h
  rw [val_int] at this
  have e : ((0 : Int) : Rat) = 0 := rfl
  rw [e] at this
  rw [this]
  show 0 * x.2 < x.1 * 1 ↔ _
  omega
theorem place_int {L k : Int} (h0 : 0 ≤ k) (h1 : k ≤ L) (h2 : L ≤ 240) : Vp L (k, 1) ∧ Bq 9 1 (k, 1) := by
  refine ⟨⟨⟨by show (0 : Int) < 1; omega, Int.gcd_one_right k⟩, h0, by show k ≤ L * 1; omega⟩, ?_, by show (0 : Int) < 1; omega, by show (1 : Int).natAbs < 2 ^ 1; decide⟩
  show k.natAbs < 2 ^ 9
  have : (2 : Nat) ^ 9 = 512 := by decide
  omega
/-- the turn of the search between two neighbouring marks -/
theorem found_place {L : Int} {ls : List Ld} (v : Vb L ls) (hn : ls ≠ []) {ms : List Int} (up : ms.Pairwise (· < ·)) (mem : ∀ k, k ∈ ms ↔ k = L ∨ k ∈ marksI ls) {i : Nat} {a c : Int} (ha : ms[i]? = some a) (hc : ms[i + 1]? = some c)
    (hm : ∀ j, j ≤ i → ∀ m, ms[j]? = some m → 0 < cutR L ls (m : Rat)) {x y : Fr} (rx : Red x) (ry : Red y) (bx : Bq 93 64 x) (by_ : Bq 93 64 y) (vx : val x = cutR L ls (a : Rat)) (vy : val y = cutR L ls (c : Rat)) (hy : y.1 ≤ 0) (a0 : 0 ≤ a) (cL : c ≤ L) :
    ∃ fl : Fr, fl = addF x (-y.1, y.2) ∧ 0 < fl.1 ∧ Bq 158 128 fl ∧ 0 < x.1 ∧ Dv (x.2 * fl.1) ∧ Bq 229 222 (frac (x.1 * fl.2 * (c - a)) (x.2 * fl.1)) ∧ MB L ls (addF (a, 1) (frac (x.1 * fl.2 * (c - a)) (x.2 * fl.1))) := by
  have ac : a < c := (rise_lt up ha hc).1 (by omega)
  have acR : (a : Rat) < (c : Rat) := by exact_mod_cast ac
  have va0 : 0 < cutR L ls (a : Rat) := hm i (Nat.le_refl _) a ha
  have vy0 : cutR L ls (c : Rat) ≤ 0 := by
    rw [← vy]
    have := val_le (x := y) (y := (0, 1)) ry.1 (by show (0 : Int) < 1; omega)
    rw [val_int] at this
    have e : ((0 : Int) : Rat) = 0 := rfl
    rw [e] at this
    rw [this]
    show y.1 * 1 ≤ 0 * y.2
    omega
  have x0 : 0 < x.1 := (val_pos rx.1).mp (by rw [vx]; exact va0)
  refine ⟨_, rfl, ?_⟩
  have bf := bx.add by_.neg (k := 157) (by omega) (by omega)
  have vf : val (addF x (-y.1, y.2)) = cutR L ls (a : Rat) - cutR L ls (c : Rat) := by
    rw [val_add rx.1 (show 0 < (-y.1, y.2).2 from ry.1), val_neg, vx, vy]
    grind
  have f0 : 0 < (addF x (-y.1, y.2)).1 := (val_pos bf.2.1).mp (by rw [vf]; grind)
  generalize addF x (-y.1, y.2) = fl at *
  have f2 := bf.2.1
  have x2 := rx.1
  have dv0 : 0 < x.2 * fl.1 := Int.mul_pos x2 f0
  have ca8 : (c - a).natAbs < 2 ^ 8 := by
    have := v.l2
    have : (2 : Nat) ^ 8 = 256 := by decide
    omega
  have n1 := abs_mul_lt (abs_mul_lt bx.1 bf.2.2) ca8
  have n2 := abs_mul_lt bx.2.2 bf.1
  have bp : Bq 229 222 (frac (x.1 * fl.2 * (c - a)) (x.2 * fl.1)) := (Bq.frac n1 dv0 n2).mono (by omega) (by omega)
  refine ⟨f0, bf, x0, ⟨dv0, abs_mono n2 (by omega)⟩, bp, ?_⟩
  have vp : val (frac (x.1 * fl.2 * (c - a)) (x.2 * fl.1)) = cutR L ls (a : Rat) / (cutR L ls (a : Rat) - cutR L ls (c : Rat)) * ((c : Rat) - (a : Rat)) := by
    rw [val_frac dv0, ← vf, ← vx]
    unfold val
    have h1 := ratPos x2
    have h2 := ratPos f2
    have h3 := ratPos f0
    push_cast
    generalize (x.1 : Rat) = x1 at *
    generalize (x.2 : Rat) = x2 at *
    generalize (fl.1 : Rat) = y1 at *
    generalize (fl.2 : Rat) = y2 at *
    generalize (c : Rat) = c at *
    generalize (a : Rat) = a at *
    have e1 : x2 ≠ 0 := by grind
    have e2 : y1 ≠ 0 := by grind
    have e3 : y2 ≠ 0 := by grind
    have e4 : x2 * y1 ≠ 0 := mulNe e1 e2
    have e5 : y1 / y2 ≠ 0 := by
      intro z
      have : y1 / y2 * y2 = y1 := by grind
      rw [z] at this
      grind
    grind
  obtain ⟨pa, ba⟩ := place_int a0 (by omega : a ≤ L) v.l2
  have vz : val (addF (a, 1) (frac (x.1 * fl.2 * (c - a)) (x.2 * fl.1))) = (a : Rat) + cutR L ls (a : Rat) / (cutR L ls (a : Rat) - cutR L ls (c : Rat)) * ((c : Rat) - (a : Rat)) := by
    rw [val_add pa.red.1 bp.2.1, vp, val_int]
  have bz := ba.add bp (k := 231) (by omega) (by omega)
  have rz : Red (addF (a, 1) (frac (x.1 * fl.2 * (c - a)) (x.2 * fl.1))) := add_red pa.red.1 bp.2.1
  generalize addF (a, 1) (frac (x.1 * fl.2 * (c - a)) (x.2 * fl.1)) = z at *
  obtain ⟨k, hk⟩ : ∃ k, k = cutR L ls (a : Rat) / (cutR L ls (a : Rat) - cutR L ls (c : Rat)) := ⟨_, rfl⟩
  rw [← hk] at vz
  have dpos : 0 < cutR L ls (a : Rat) - cutR L ls (c : Rat) := by grind
  have k0 : 0 < k := by
    rw [hk, Rat.div_def]
    exact Rat.mul_pos va0 (Rat.inv_pos.mpr dpos)
  have k1 : k ≤ 1 := by
    have : k * (cutR L ls (a : Rat) - cutR L ls (c : Rat)) ≤ 1 * (cutR L ls (a : Rat) - cutR L ls (c : Rat)) := by
      rw [hk]
      have : cutR L ls (a : Rat) / (cutR L ls (a : Rat) - cutR L ls (c : Rat)) * (cutR L ls (a : Rat) - cutR L ls (c : Rat)) = cutR L ls (a : Rat) := by grind
      rw [this]
      grind
    exact Rat.le_of_mul_le_mul_right this dpos
  have z1 : (a : Rat) < val z := by
    have := Rat.mul_pos k0 (show (0 : Rat) < (c : Rat) - (a : Rat) by grind)
    rw [vz]
    grind
  have z2 : val z ≤ (c : Rat) := by
    have := Rat.mul_le_mul_of_nonneg_right k1 (show (0 : Rat) ≤ (c : Rat) - (a : Rat) by grind)
    rw [vz]
    grind
  have zpos : 0 < val z := by
    have : (0 : Rat) ≤ (a : Rat) := by exact_mod_cast a0
    grind
  have z10 := (val_pos rz.1).mp zpos
  have apart : ∀ m, m ∈ ms → m ≤ a ∨ c ≤ m := fun m hmm => by
    obtain ⟨j, hj⟩ := List.mem_iff_getElem?.mp hmm
    rcases Nat.lt_or_ge i j with q | q
    · right
      rcases Nat.lt_or_ge (i + 1) j with r | r
      · exact Int.le_of_lt ((rise_lt up hc hj).1 r)
      · exact Int.le_of_eq ((rise_lt up hc hj).2 (by omega))
    · left
      rcases Nat.lt_or_ge j i with r | r
      · exact Int.le_of_lt ((rise_lt up hj ha).1 r)
      · exact Int.le_of_eq ((rise_lt up hj ha).2 (by omega))
  have apartR : ∀ m, m ∈ ms → (m : Rat) ≤ (a : Rat) ∨ (c : Rat) ≤ (m : Rat) := fun m hmm => by
    rcases apart m hmm with q | q
    · exact .inl (by exact_mod_cast q)
    · exact .inr (by exact_mod_cast q)
  refine ⟨rz, bz, ⟨rz, by omega, ?_⟩, fun e => absurd e hn, fun _ => z10, fun _ => ?_, fun _ m hmk hlt => ?_⟩
  · have : val z ≤ ((L : Int) : Rat) := by
      have : (c : Rat) ≤ (L : Rat) := by exact_mod_cast cL
      grind
    rw [← val_int L, val_le rz.1 (by show (0 : Int) < 1; omega)] at this
    have q : z.1 * 1 ≤ L * z.2 := this
    omega
  · rw [cut_line v acR (fun l hl => ⟨apartR l.b ((mem _).mpr (.inr (List.mem_cons_of_mem _ (List.mem_append_left _ (List.mem_map.mpr ⟨l, hl, rfl⟩))))), apartR l.e ((mem _).mpr (.inr (List.mem_cons_of_mem _ (List.mem_append_right _ (List.mem_map.mpr ⟨l, hl, rfl⟩)))))⟩) (Rat.le_of_lt z1) z2]
    have e1 : (val z - (a : Rat)) / ((c : Rat) - (a : Rat)) = k := by
      rw [vz]
      have : (c : Rat) - (a : Rat) ≠ 0 := by grind
      grind
    rw [e1, hk]
    generalize cutR L ls (a : Rat) = p at *
    generalize cutR L ls (c : Rat) = q at *
    have : p - q ≠ 0 := by grind
    grind
  · have hin : m ∈ ms := (mem m).mpr (.inr hmk)
    obtain ⟨j, hj⟩ := List.mem_iff_getElem?.mp hin
    refine hm j ?_ m hj
    rcases Nat.lt_or_ge i j with q | q
    · exfalso
      have : c ≤ m := by
        rcases Nat.lt_or_ge (i + 1) j with r | r
        · exact Int.le_of_lt ((rise_lt up hc hj).1 r)
        · exact Int.le_of_eq ((rise_lt up hc hj).2 (by omega))
      have : (c : Rat) ≤ (m : Rat) := by exact_mod_cast this
      grind
    · exact q
end Fz

set_option maxRecDepth 100000
set_option maxHeartbeats 4000000
namespace Fz
open PySem PySem.Spec L2
theorem intsOf_app {a b : List D} {x y : List Int} (h1 : intsOf a = some x) (h2 : intsOf b = some y) : intsOf (a ++ b) = some (x ++ y) := by
  rw [intsOf_inv h1, intsOf_inv h2, ← List.map_append]
  exact intsOf_map _
theorem ok_most_bent {ds : List D} {P : D → Prop} {ex : EX} (h : sp_most_bent ds P ex) : w_most_bent ex (endF P) (env0 ["length", "lying", "marks", "one", "begin", "end", "first", "last", "fall", "part"] ds) := by
  unfold sp_most_bent at h
  split at h
  · rename_i l y
    simp [-Prod.forall, -Prod.exists, w_most_bent, sp_demand_beam, endF]
    refine h.imp fun L ls el ey v hP => ?_
    subst el ey
    have b1 := v.l1
    have b2 := v.l2
    have few := v.few
    simp [-Prod.forall, -Prod.exists, wLc]
    refine lcL_map (fun _ => true) (lf fun l => l.b) (by simp [-Prod.forall, -Prod.exists]; omega) (by simp [-Prod.forall, -Prod.exists]) ?_ ?_
    · intro d hd acc N hl hN
      obtain ⟨k, hk, rfl⟩ := List.mem_map.mp hd
      simp [-Prod.forall, -Prod.exists, ldD, at30]
      exact ⟨hl, by simpa [-Prod.forall, -Prod.exists, lf, ldD] using hN⟩
    rw [lf_map]
    simp [-Prod.forall, -Prod.exists]
    refine ⟨by omega, lcL_map (fun _ => true) (lf fun l => l.e) (by simp [-Prod.forall, -Prod.exists]; omega) (by simp [-Prod.forall, -Prod.exists]) ?_ ?_⟩
    · intro d hd acc N hl hN
      obtain ⟨k, hk, rfl⟩ := List.mem_map.mp hd
      simp [-Prod.forall, -Prod.exists, ldD, at30]
      exact ⟨hl, by simpa [-Prod.forall, -Prod.exists, lf, ldD] using hN⟩
    rw [lf_map]
    simp [-Prod.forall, -Prod.exists]
    refine ⟨by omega, ?_⟩
    have en : intsOf (PyData.int 0 :: PyData.int L :: (List.map (PyData.int ∘ fun l : Ld => l.b) ls ++ List.map (PyData.int ∘ fun l : Ld => l.e) ls)) = some (0 :: L :: (ls.map (·.b) ++ ls.map (·.e))) := by
      have := intsOf_map (0 :: L :: (ls.map (fun l : Ld => l.b) ++ ls.map (fun l : Ld => l.e)))
      rwa [List.map_cons, List.map_cons, List.map_append, List.map_map, List.map_map] at this
    rw [en]
    refine ⟨by simp [-Prod.forall, -Prod.exists]; omega, fun ms up mem0 => ?_⟩
    have mem : ∀ k, k ∈ ms ↔ k = L ∨ k ∈ marksI ls := fun k => by
      rw [mem0]
      unfold marksI
      simp only [List.mem_cons]
      constructor
      · rintro (z | z | z)
        · exact .inr (.inl z)
        · exact .inl z
        · exact .inr (.inr z)
      · rintro (z | z | z)
        · exact .inr (.inl z)
        · exact .inl z
        · exact .inr (.inr z)
    have bd : ∀ k, k ∈ ms → 0 ≤ k ∧ k ≤ L := fun k hk => by
      rcases (mem k).mp hk with rfl | z
      · omega
      · unfold marksI at z
        rcases List.mem_cons.mp z with rfl | z
        · omega
        · rcases List.mem_append.mp z with z | z
          · obtain ⟨l, hl, rfl⟩ := List.mem_map.mp z
            obtain ⟨h1, h2, h3, h4, h5⟩ := v.each l hl
            omega
          · obtain ⟨l, hl, rfl⟩ := List.mem_map.mp z
            obtain ⟨h1, h2, h3, h4, h5⟩ := v.each l hl
            omega
    have in0 : (0 : Int) ∈ ms := (mem 0).mpr (.inr List.mem_cons_self)
    have inL : L ∈ ms := (mem L).mpr (.inl rfl)
    have first0 : ∀ m, ms[0]? = some m → m = 0 := fun m hm => by
      obtain ⟨j, hj⟩ := List.mem_iff_getElem?.mp in0
      have h1 := (bd m (List.mem_of_getElem? hm)).1
      rcases Nat.eq_zero_or_pos j with q | q
      · subst q
        rw [hm] at hj
        exact Option.some.inj hj
      · have := (rise_lt up hm hj).1 q
        omega
    simp [-Prod.forall, -Prod.exists, wFor, cutD_tail]
    refine forL_inv (fun i ρ => ∃ c3 c4 c5 c6 c7 c8 c9 : Slot, ρ = [.dat (.int L), .dat (.tuple (ls.map ldD)), .dat (.list (ms.map .int)), c3, c4, c5, c6, c7, c8, c9] ∧ (ls = [] → i = 0) ∧ (ls ≠ [] → ∀ j, j ≤ i → ∀ m, ms[j]? = some m → 0 < cutR L ls (m : Rat)))
      ⟨_, _, _, _, _, _, _, rfl, fun _ => rfl, fun hn j hj m hm => ?_⟩ ?_ ?_
    · have : j = 0 := by omega
      subst this
      rw [first0 m hm]
      exact cut_0 v hn
    · rintro i dd ρ hd ⟨c3, c4, c5, c6, c7, c8, c9, rfl, he, hm⟩ N hN
      obtain ⟨da, dc, h1, h2, rfl⟩ := zipD_get _ _ _ _ hd
      obtain ⟨a, ha, rfl⟩ := int_dat h1
      have h3 : (ms.map PyData.int)[i + 1]? = some dc := by
        rw [← List.getElem?_tail]
        exact h2
      obtain ⟨c, hc, rfl⟩ := int_dat h3
      obtain ⟨a0, aL⟩ := bd a (List.mem_of_getElem? ha)
      obtain ⟨c0, cL⟩ := bd c (List.mem_of_getElem? hc)
      obtain ⟨pa, ba⟩ := place_int a0 aL b2
      obtain ⟨pc, bc⟩ := place_int c0 cL b2
      have s1 : Sz 1 := .small (by omega) (by omega)
      simp [-Prod.forall, -Prod.exists, sp_cut_force]
      refine beamOr_ok v ⟨s1, placeOr_ok (q := (a, 1)) pa ⟨9, 1, ⟨ba, by omega, by omega⟩, fun x rx bx vx => ?_⟩⟩
      refine beamOr_ok v ⟨s1, placeOr_ok (q := (c, 1)) pc ⟨9, 1, ⟨bc, by omega, by omega⟩, fun y ry by_ vy => ?_⟩⟩
      rw [val_int] at vx vy
      simp [-Prod.forall, -Prod.exists, at20, frD]
      by_cases c1 : x.1 ≤ 0
      · rw [if_pos c1]
        have emp : ls = [] := by
          rcases List.eq_nil_or_concat ls with q | ⟨_, _, q⟩
          · exact q
          · have hn : ls ≠ [] := by
              rw [q]
              simp [-Prod.forall, -Prod.exists]
            have p1 := hm hn i (Nat.le_refl _) a ha
            rw [← vx, val_pos rx.1] at p1
            omega
        have i0 := he emp
        subst i0
        have ea := first0 a ha
        subst ea
        exact hP (0, 1) ⟨pa.red, ba.mono (by omega) (by omega), pa, fun _ => rfl, fun q => absurd emp q, fun q => absurd emp q, fun q => absurd emp q⟩
      · rw [if_neg c1]
        have hn : ls ≠ [] := by
          rintro rfl
          have : val x = 0 := vx
          have q : ¬ (0 < val x) := by rw [this]; grind
          rw [val_pos rx.1] at q
          omega
        by_cases c2 : y.1 ≤ 0
        · rw [if_pos c2]
          obtain ⟨fl, e1, f0, bf, x0, dv, bp, mb⟩ := found_place v hn up mem ha hc (hm hn) rx ry bx by_ vx vy c2 a0 cL
          have ca : Sz (c - a) := .small (by omega) (by omega)
          refine sp_plus_of (x := x) (y := (-y.1, y.2)) bx by_.neg (by omega) (by omega) (by omega) ?_
          rw [← e1]
          have bxf := abs_mul_lt bx.1 bf.2.2
          simp [-Prod.forall, -Prod.exists, sp_fraction, at20, frD]
          refine ⟨⟨bx.s1 (by omega), bf.s2 (by omega)⟩, ⟨.of bxf (by omega), ca⟩, ⟨bx.s2 (by omega), bf.s1 (by omega)⟩, dv, ?_⟩
          exact sp_plus_of (x := (a, 1)) ba bp (by omega) (by omega) (by omega) (hP _ mb)
        · rw [if_neg c2]
          refine hN _ ⟨_, _, _, _, _, _, _, rfl, fun q => absurd q hn, fun _ j hj m hmj => ?_⟩
          rcases Nat.lt_or_ge i j with q | q
          · have : j = i + 1 := by omega
            subst this
            rw [hc] at hmj
            cases hmj
            rw [← vy, val_pos ry.1]
            omega
          · exact hm hn j q m hmj
    · rintro ρ ⟨c3, c4, c5, c6, c7, c8, c9, rfl, he, hm⟩
      exfalso
      have len : (zipD (ms.map PyData.int) (ms.map PyData.int).tail).length = ms.length - 1 := by
        rw [zipD_len, List.length_tail, List.length_map]
        omega
      rw [len] at he hm
      obtain ⟨j, hj⟩ := List.mem_iff_getElem?.mp inL
      have hjl := (List.getElem?_eq_some_iff.mp hj).1
      rcases Decidable.em (ls = []) with q | q
      · have z := he q
        obtain ⟨k, hk⟩ := List.mem_iff_getElem?.mp in0
        have hkl := (List.getElem?_eq_some_iff.mp hk).1
        have jk : j = k := by omega
        subst jk
        rw [hk] at hj
        cases hj
        omega
      · have p1 := hm q j (by omega) L hj
        have p2 := cut_L v q
        grind
  · exact h.elim
end Fz

set_option maxRecDepth 100000
set_option maxHeartbeats 4000000
/-! T28: the law's own defs. -/
namespace Fz
open PySem PySem.Spec L2
def sumF (x y : Fr) : Fr := (x.1 * y.2 + y.1 * x.2, x.2 * y.2)
theorem val_sumF {x y : Fr} (hx : 0 < x.2) (hy : 0 < y.2) : val (sumF x y) = val x + val y := by
  have := val_add hx hy
  unfold addF at this
  rw [val_frac (Int.mul_pos hx hy)] at this
  exact this
def sp__law_plus : PSp := fun ds P _ => match ds with
  | [.tuple [.int a, .int b], .tuple [.int c, .int d]] => (Sz a ∧ Sz b ∧ Sz c ∧ Sz d) ∧ P (frD (sumF (a, b) (c, d)))
  | _ => False
def sp__law_same : PSp := fun ds P _ => match ds with
  | [.tuple [.int a, .int b], .tuple [.int c, .int d]] => (Red (a, b) ∧ b.natAbs < 2 ^ 1900 ∧ Sz a ∧ Sz c ∧ Sz d) ∧ P (.bool (decide (a * d = c * b)))
  | _ => False
def sp__law_lowest : PSp := fun ds P _ => match ds with
  | [.int p, .int q] => (0 ≤ p ∧ 0 < q ∧ q ≤ 1000) ∧ P (frD (frac p q))
  | _ => False
def w__law_plus : WS := wRet (wTup (wCons (wOp oAdd (wOp oMul (wOp oIx (wVar 0) (wC (.int 0))) (wOp oIx (wVar 1) (wC (.int 1)))) (wOp oMul (wOp oIx (wVar 1) (wC (.int 0))) (wOp oIx (wVar 0) (wC (.int 1))))) (wCons (wOp oMul (wOp oIx (wVar 0) (wC (.int 1))) (wOp oIx (wVar 1) (wC (.int 1)))) (wNil))))
def w__law_same : WS := wSeq (wPar 2 3 (wCons (wFn oAbs (wOp oIx (wVar 0) (wC (.int 0)))) (wCons (wOp oIx (wVar 0) (wC (.int 1))) (wNil))))
  (wSeq (wFor (wItR1 (wC (.int 4000))) (wgName 4) (wSeq (wIf (wCmT oEq (wVar 3) (wC (.int 0))) (wBrk) (wNext))
  (wPar 2 3 (wCons (wVar 3) (wCons (wOp oMod (wFn oInt (wVar 2)) (wVar 3)) (wNil))))))
  (wRet (wAndV (wBl (wCmT oGt (wOp oIx (wVar 0) (wC (.int 1))) (wC (.int 0)))) (wAndV (wBl (wCmT oEq (wVar 2) (wC (.int 1)))) (wBl (wCmT oEq (wOp oMul (wOp oIx (wVar 0) (wC (.int 0))) (wOp oIx (wVar 1) (wC (.int 1)))) (wOp oMul (wOp oIx (wVar 1) (wC (.int 0))) (wOp oIx (wVar 0) (wC (.int 1))))))))))
def w__law_lowest : WS := wSeq (wPar 2 3 (wCons (wVar 0) (wCons (wVar 1) (wNil))))
  (wSeq (wFor (wItR1 (wC (.int 200))) (wgName 4) (wSeq (wIf (wCmT oEq (wVar 3) (wC (.int 0))) (wBrk) (wNext))
  (wPar 2 3 (wCons (wVar 3) (wCons (wOp oMod (wFn oInt (wVar 2)) (wVar 3)) (wNil))))))
  (wRet (wTup (wCons (wOp oDiv (wVar 0) (wVar 2)) (wCons (wOp oDiv (wVar 1) (wVar 2)) (wNil))))))
theorem len__law_plus : ∀ ds P ex, sp__law_plus ds P ex → ds.length = 2 := by
  intro ds P ex h
  unfold sp__law_plus at h
  split at h <;> first | rfl | exact h.elim
theorem len__law_same : ∀ ds P ex, sp__law_same ds P ex → ds.length = 2 := by
  intro ds P ex h
  unfold sp__law_same at h
  split at h <;> first | rfl | exact h.elim
theorem len__law_lowest : ∀ ds P ex, sp__law_lowest ds P ex → ds.length = 2 := by
  intro ds P ex h
  unfold sp__law_lowest at h
  split at h <;> first | rfl | exact h.elim
theorem ok__law_plus {ds : List D} {P : D → Prop} {ex : EX} (h : sp__law_plus ds P ex) : w__law_plus ex (endF P) (env0 ["one", "other"] ds) := by
  unfold sp__law_plus at h
  split at h
  · rename_i a b c d
    obtain ⟨⟨h1, h2, h3, h4⟩, hP⟩ := h
    simp [-Prod.forall, -Prod.exists, w__law_plus, endF, at20]
    exact ⟨⟨h1, h4⟩, ⟨h3, h2⟩, ⟨h2, h4⟩, hP⟩
  · exact h.elim
theorem rngD_len2 (n : Int) : (rngD 0 n).length = n.toNat := by
  unfold rngD
  simp [-Prod.forall, -Prod.exists]
/-- Euclid's way: how far the numbers fall -/
def Eu (B i a b : Nat) : Prop := (i = 0 → b < 2 ^ B) ∧ (0 < i → b ≤ a ∧ a * b * 2 ^ i < 2 ^ (2 * B + 1))
theorem Eu.step {B i a b : Nat} (h : Eu B i a b) (hb : 0 < b) : Eu B (i + 1) b (a % b) := by
  have hm := Nat.mod_lt a hb
  refine ⟨fun z => by omega, fun _ => ⟨Nat.le_of_lt hm, ?_⟩⟩
  rcases Nat.eq_zero_or_pos i with z | z
  · have h1 := h.1 z
    subst z
    have e : 2 ^ (2 * B + 1) = 2 ^ B * 2 ^ B * 2 := by rw [← Nat.pow_add, ← Nat.pow_succ]; congr 1; omega
    rw [e]
    have : b * (a % b) < 2 ^ B * 2 ^ B := Nat.mul_lt_mul'' h1 (by omega)
    show b * (a % b) * 2 ^ 1 < _
    omega
  · obtain ⟨h1, h2⟩ := h.2 z
    have h3 : 2 * (a % b) ≤ a := by
      have e := Nat.div_add_mod a b
      have q : 1 ≤ a / b := Nat.div_pos h1 hb
      have q2 : b * 1 ≤ b * (a / b) := Nat.mul_le_mul (Nat.le_refl _) q
      omega
    have h4 : b * (a % b) * 2 ^ (i + 1) = b * (2 * (a % b)) * 2 ^ i := by rw [Nat.pow_succ]; grind
    rw [h4]
    refine Nat.lt_of_le_of_lt ?_ h2
    rw [Nat.mul_comm a b]
    exact Nat.mul_le_mul (Nat.mul_le_mul (Nat.le_refl _) h3) (Nat.le_refl _)
theorem Eu.last {B i a b : Nat} (h : Eu B i a b) (hi : 2 * B + 1 ≤ i) : b = 0 := by
  obtain ⟨h1, h2⟩ := h.2 (by omega)
  rcases Nat.eq_zero_or_pos b with z | z
  · exact z
  · exfalso
    have p1 : 1 ≤ a * b := Nat.mul_pos (by omega) z
    have p2 : 2 ^ (2 * B + 1) ≤ 2 ^ i := Nat.pow_le_pow_right (by omega) hi
    have p3 : 1 * 2 ^ i ≤ a * b * 2 ^ i := Nat.mul_le_mul p1 (Nat.le_refl _)
    omega
theorem abs_if (z : Int) : (if z < 0 then -z else z) = (z.natAbs : Int) := by split <;> omega
theorem ok__law_same {ds : List D} {P : D → Prop} {ex : EX} (h : sp__law_same ds P ex) : w__law_same ex (endF P) (env0 ["told", "due", "one", "other", "turn"] ds) := by
  unfold sp__law_same at h
  split at h
  · rename_i a b c d
    obtain ⟨⟨⟨hb, hg⟩, b19, sa, sc, sd⟩, hP⟩ := h
    simp only at hb hg
    have sb : Sz b := .of b19 (by omega)
    obtain ⟨m, rfl⟩ : ∃ m : Nat, b = m := ⟨b.toNat, by omega⟩
    simp [-Prod.forall, -Prod.exists, w__law_same, endF, at20, abs_if, wFor]
    have fin : ∀ (k : Nat) (c4 : Slot), k = 1 → (wRet (wAndV (wBl (wCmT oGt (wOp oIx (wVar 0) (wC (.int 1))) (wC (.int 0)))) (wAndV (wBl (wCmT oEq (wVar 2) (wC (.int 1)))) (wBl (wCmT oEq (wOp oMul (wOp oIx (wVar 0) (wC (.int 0))) (wOp oIx (wVar 1) (wC (.int 1)))) (wOp oMul (wOp oIx (wVar 1) (wC (.int 0))) (wOp oIx (wVar 0) (wC (.int 1))))))))) ex (endF P)
        [.dat (.tuple [.int a, .int m]), .dat (.tuple [.int c, .int d]), .dat (.int k), .dat (.int (0 : Nat)), c4] := by
      intro k c4 hk
      subst hk
      simp [-Prod.forall, -Prod.exists, at20, endF]
      have : (0 : Int) < (m : Int) := hb
      simp [-Prod.forall, -Prod.exists, show 0 < m by omega]
      exact ⟨⟨sa, sd⟩, ⟨sc, sb⟩, hP⟩
    refine forL_inv (fun i ρ => ∃ (k j : Nat) (c4 : Slot), ρ = [.dat (.tuple [.int a, .int m]), .dat (.tuple [.int c, .int d]), .dat (.int k), .dat (.int j), c4] ∧ Nat.gcd k j = 1 ∧ Eu 1900 i k j) ⟨a.natAbs, m, _, rfl, by exact hg, fun _ => by simpa [-Prod.forall, -Prod.exists] using b19, fun z => absurd z (by omega)⟩ ?_ ?_
    · rintro i dd ρ hd ⟨k, j, c4, rfl, hg, he⟩ N hN
      simp [-Prod.forall, -Prod.exists]
      by_cases hj : j = 0
      · subst hj
        have hk : k = 1 := by simpa [-Prod.forall, -Prod.exists] using hg
        have := fin k (.dat dd) hk
        simpa [-Prod.forall, -Prod.exists] using this
      · rw [if_neg hj]
        refine ⟨by omega, hN _ ⟨j, k % j, .dat dd, by simp [-Prod.forall, -Prod.exists], ?_, he.step (by omega)⟩⟩
        rw [← hg, Nat.gcd_comm k j, Nat.gcd_rec j k, Nat.gcd_comm]
    · rintro ρ ⟨k, j, c4, rfl, hg, he⟩
      rw [rngD_len2 4000] at he
      have hj := he.last (by omega)
      subst hj
      have hk : k = 1 := by simpa [-Prod.forall, -Prod.exists] using hg
      have := fin k c4 hk
      simpa [-Prod.forall, -Prod.exists] using this
  · exact h.elim
end Fz

set_option maxRecDepth 100000
set_option maxHeartbeats 4000000
/-! U28: the law's other way. -/
namespace Fz
open PySem PySem.Spec L2
theorem ok__law_lowest {ds : List D} {P : D → Prop} {ex : EX} (h : sp__law_lowest ds P ex) : w__law_lowest ex (endF P) (env0 ["part", "whole", "one", "other", "turn"] ds) := by
  unfold sp__law_lowest at h
  split at h
  · rename_i p q
    obtain ⟨⟨p0, q0, q1⟩, hP⟩ := h
    have g1 := gcd_pos (p := p) q0
    have g2 := gcd_le (p := p) q0
    obtain ⟨m, rfl⟩ : ∃ m : Nat, q = m := ⟨q.toNat, by omega⟩
    obtain ⟨r, rfl⟩ : ∃ r : Nat, p = r := ⟨p.toNat, by omega⟩
    have m10 : m < 2 ^ 10 := by
      have : (2 : Nat) ^ 10 = 1024 := by decide
      omega
    simp [-Prod.forall, -Prod.exists, w__law_lowest, endF, wFor]
    have fin : ∀ (k : Nat) (c4 : Slot), k = Nat.gcd r m → (wRet (wTup (wCons (wOp oDiv (wVar 0) (wVar 2)) (wCons (wOp oDiv (wVar 1) (wVar 2)) (wNil))))) ex (endF P) [.dat (.int r), .dat (.int m), .dat (.int k), .dat (.int (0 : Nat)), c4] := by
      intro k c4 hk
      have e : (k : Int) = (Int.gcd (r : Int) (m : Int) : Int) := by rw [hk]; rfl
      simp only [e]
      simp [-Prod.forall, -Prod.exists, endF]
      exact ⟨⟨by omega, lt_2_8999 (i := (Int.gcd (r : Int) (m : Int) : Int)) (by omega) (by omega)⟩, hP⟩
    refine forL_inv (fun i ρ => ∃ (k j : Nat) (c4 : Slot), ρ = [.dat (.int r), .dat (.int m), .dat (.int k), .dat (.int j), c4] ∧ Nat.gcd k j = Nat.gcd r m ∧ Eu 10 i k j) ⟨r, m, _, rfl, rfl, fun _ => m10, fun z => absurd z (by omega)⟩ ?_ ?_
    · rintro i dd ρ hd ⟨k, j, c4, rfl, hg, he⟩ N hN
      simp [-Prod.forall, -Prod.exists]
      by_cases hj : j = 0
      · subst hj
        have hk : k = Nat.gcd r m := by simpa [-Prod.forall, -Prod.exists] using hg
        have := fin k (.dat dd) hk
        simpa [-Prod.forall, -Prod.exists] using this
      · rw [if_neg hj]
        refine ⟨by omega, hN _ ⟨j, k % j, .dat dd, by simp [-Prod.forall, -Prod.exists], ?_, he.step (by omega)⟩⟩
        rw [← hg, Nat.gcd_comm k j, Nat.gcd_rec j k, Nat.gcd_comm]
    · rintro ρ ⟨k, j, c4, rfl, hg, he⟩
      rw [rngD_len2 200] at he
      have hj := he.last (by omega)
      subst hj
      have hk : k = Nat.gcd r m := by simpa [-Prod.forall, -Prod.exists] using hg
      have := fin k c4 hk
      simpa [-Prod.forall, -Prod.exists] using this
  · exact h.elim
/-- sizes -/
def W (k : Nat) (i : Int) : Prop := i.natAbs < 2 ^ k
theorem W.mul {a b : Nat} {x y : Int} (h : W a x) (k : W b y) : W (a + b) (x * y) := abs_mul_lt h k
theorem W.add {a b : Nat} {x y : Int} (h : W a x) (k : W b y) : W (a + b + 1) (x + y) := abs_add_lt (abs_mono h (by omega)) (abs_mono k (by omega))
theorem W.sub {a b : Nat} {x y : Int} (h : W a x) (k : W b y) : W (a + b + 1) (x - y) := abs_sub_lt (abs_mono h (by omega)) (abs_mono k (by omega))
theorem W.neg {a : Nat} {x : Int} (h : W a x) : W a (-x) := by
  unfold W
  rw [Int.natAbs_neg]
  exact h
theorem W.sz {a : Nat} {x : Int} (h : W a x) (k : a ≤ 400000 := by omega) : Sz x := .of h k
theorem W.mono {a b : Nat} {x : Int} (h : W a x) (k : a ≤ b) : W b x := abs_mono h k
def sp__law_cut : PSp := fun ds P _ => match ds with
  | [.int L, .tuple ys, .tuple [.int p, .int q]] => ∃ ls : List Ld, (ys = ls.map ldD ∧ Vb L ls ∧ W 400 p ∧ 0 < q ∧ W 400 q) ∧ ∀ z : Fr, 0 < z.2 → W 60000 z.1 → W 60000 z.2 → val z = cutR L ls (val (p, q)) → P (frD z)
  | _ => False
def sp__law_bent : PSp := fun ds P _ => match ds with
  | [.int L, .tuple ys, .tuple [.int p, .int q]] => ∃ ls : List Ld, (ys = ls.map ldD ∧ Vb L ls ∧ W 400 p ∧ 0 < q ∧ W 400 q) ∧ ∀ z : Fr, 0 < z.2 → W 60000 z.1 → W 60000 z.2 → val z = bendR L ls (val (p, q)) → P (frD z)
  | _ => False
def w__law_bent : WS := wSeq (wAsgG (wVar 2) (wgTup 2 (wgCons (wgName 3) (wgCons (wgName 4) (wgNil)))))
  (wSeq (wAsg 5 (wTup (wCons (wC (.int 0)) (wCons (wC (.int 1)) (wNil)))))
  (wSeq (wFor (wIt (wVar 1)) (wgTup 3 (wgCons (wgName 6) (wgCons (wgName 7) (wgCons (wgName 8) (wgNil))))) (wSeq (wAsg 9 (wTup (wCons (wMin2 (wMax2 (wVar 3) (wOp oMul (wVar 6) (wVar 4))) (wOp oMul (wVar 7) (wVar 4))) (wCons (wVar 4) (wNil)))))
  (wSeq (wAsg 10 (wTup (wCons (wOp oSub (wOp oMul (wOp oIx (wVar 9) (wC (.int 0))) (wOp oIx (wVar 9) (wC (.int 0)))) (wOp oMul (wOp oMul (wOp oMul (wVar 6) (wVar 6)) (wVar 4)) (wVar 4))) (wCons (wOp oMul (wOp oMul (wC (.int 2)) (wVar 4)) (wVar 4)) (wNil)))))
  (wSeq (wAsg 11 (wTup (wCons (wOp oSub (wOp oMul (wOp oMul (wOp oMul (wC (.int 2)) (wVar 0)) (wOp oSub (wOp oMul (wVar 7) (wVar 4)) (wOp oIx (wVar 9) (wC (.int 0))))) (wVar 4)) (wOp oSub (wOp oMul (wOp oMul (wOp oMul (wVar 7) (wVar 7)) (wVar 4)) (wVar 4)) (wOp oMul (wOp oIx (wVar 9) (wC (.int 0))) (wOp oIx (wVar 9) (wC (.int 0)))))) (wCons (wOp oMul (wOp oMul (wC (.int 2)) (wVar 4)) (wVar 4)) (wNil)))))
  (wSeq (wAsg 5 (wCall sp__law_plus (wCons (wVar 5) (wCons (wTup (wCons (wOp oMul (wOp oMul (wVar 8) (wOp oIx (wVar 10) (wC (.int 0)))) (wOp oSub (wOp oMul (wVar 0) (wVar 4)) (wVar 3))) (wCons (wOp oMul (wOp oMul (wOp oMul (wOp oSub (wVar 7) (wVar 6)) (wOp oIx (wVar 10) (wC (.int 1)))) (wVar 0)) (wVar 4)) (wNil)))) (wNil)))))
  (wAsg 5 (wCall sp__law_plus (wCons (wVar 5) (wCons (wTup (wCons (wOp oMul (wOp oMul (wVar 8) (wOp oIx (wVar 11) (wC (.int 0)))) (wVar 3)) (wCons (wOp oMul (wOp oMul (wOp oMul (wOp oSub (wVar 7) (wVar 6)) (wOp oIx (wVar 11) (wC (.int 1)))) (wVar 0)) (wVar 4)) (wNil)))) (wNil))))))))))
  (wRet (wVar 5))))
def w__law_cut : WS := wSeq (wAsgG (wVar 2) (wgTup 2 (wgCons (wgName 3) (wgCons (wgName 4) (wgNil)))))
  (wSeq (wAsg 5 (wTup (wCons (wC (.int 0)) (wCons (wC (.int 1)) (wNil)))))
  (wSeq (wFor (wIt (wVar 1)) (wgTup 3 (wgCons (wgName 6) (wgCons (wgName 7) (wgCons (wgName 8) (wgNil))))) (wSeq (wAsg 9 (wMin2 (wMax2 (wVar 3) (wOp oMul (wVar 6) (wVar 4))) (wOp oMul (wVar 7) (wVar 4))))
  (wSeq (wAsg 10 (wTup (wCons (wOp oSub (wOp oMul (wVar 7) (wVar 7)) (wOp oMul (wVar 6) (wVar 6))) (wCons (wC (.int 2)) (wNil)))))
  (wSeq (wAsg 11 (wTup (wCons (wOp oSub (wOp oMul (wVar 7) (wVar 4)) (wVar 9)) (wCons (wVar 4) (wNil)))))
  (wSeq (wAsg 5 (wCall sp__law_plus (wCons (wVar 5) (wCons (wTup (wCons (wOp oMul (wUn oNeg (wVar 8)) (wOp oIx (wVar 10) (wC (.int 0)))) (wCons (wOp oMul (wOp oMul (wOp oSub (wVar 7) (wVar 6)) (wOp oIx (wVar 10) (wC (.int 1)))) (wVar 0)) (wNil)))) (wNil)))))
  (wAsg 5 (wCall sp__law_plus (wCons (wVar 5) (wCons (wTup (wCons (wOp oMul (wVar 8) (wOp oIx (wVar 11) (wC (.int 0)))) (wCons (wOp oMul (wOp oSub (wVar 7) (wVar 6)) (wOp oIx (wVar 11) (wC (.int 1)))) (wNil)))) (wNil))))))))))
  (wRet (wVar 5))))
theorem len__law_cut : ∀ ds P ex, sp__law_cut ds P ex → ds.length = 3 := by
  intro ds P ex h
  unfold sp__law_cut at h
  split at h <;> first | rfl | exact h.elim
theorem len__law_bent : ∀ ds P ex, sp__law_bent ds P ex → ds.length = 3 := by
  intro ds P ex h
  unfold sp__law_bent at h
  split at h <;> first | rfl | exact h.elim
theorem cutI_w {l : Ld} {p q : Int} {L : Int} (v : Vl L l) (hL : L ≤ 240) (h1 : W 400 p) (h2 : W 400 q) : W 409 (cutI l p q) := by
  obtain ⟨a1, a2, a3, a4, a5⟩ := v
  have b8 : W 8 l.b := by
    show l.b.natAbs < 2 ^ 8
    have : (2 : Nat) ^ 8 = 256 := by decide
    omega
  have e8 : W 8 l.e := by
    show l.e.natAbs < 2 ^ 8
    have : (2 : Nat) ^ 8 = 256 := by decide
    omega
  have x1 := (b8.mul h2).mono (b := 409) (by omega)
  have x2 := (e8.mul h2).mono (b := 409) (by omega)
  have x3 := h1.mono (b := 409) (by omega)
  have x4 : W 409 (if l.b * q > p then l.b * q else p) := by
    split
    · exact x1
    · exact x3
  unfold cutI
  generalize (if l.b * q > p then l.b * q else p) = z at *
  split
  · exact x2
  · exact x4
theorem W.sum {n m k d e : Nat} {x y : Fr} (h1 : W n x.1) (h2 : W d x.2) (h3 : W m y.1) (h4 : W e y.2) (a : n + e ≤ k) (b : m + d ≤ k) : W (k + 1) (sumF x y).1 ∧ W (d + e) (sumF x y).2 :=
  ⟨abs_add_lt (abs_mono (abs_mul_lt h1 h4) a) (abs_mono (abs_mul_lt h3 h2) b), abs_mul_lt h2 h4⟩
structure Wl (L : Int) (l : Ld) : Prop where
  b : W 8 l.b
  e : W 8 l.e
  w : W 10 l.w
  L : W 8 L
  ed : 0 < l.e - l.b
theorem Vl.ws {L : Int} {l : Ld} (v : Vl L l) (h1 : 1 ≤ L) (h : L ≤ 240) : Wl L l := by
  obtain ⟨a1, a2, a3, a4, a5⟩ := v
  have p8 : (2 : Nat) ^ 8 = 256 := by decide
  have p10 : (2 : Nat) ^ 10 = 1024 := by decide
  refine ⟨?_, ?_, ?_, ?_, by omega⟩ <;> (unfold W; omega)
theorem w2 : W 2 2 := by unfold W; decide
theorem ok__law_cut {ds : List D} {P : D → Prop} {ex : EX} (h : sp__law_cut ds P ex) : w__law_cut ex (endF P) (env0 ["length", "lying", "place", "part", "whole", "total", "begin", "end", "weight", "cut", "every", "behind"] ds) := by
  unfold sp__law_cut at h
  split at h
  · rename_i L ys p q
    obtain ⟨ls, ⟨rfl, v, wp, q0, wq⟩, hP⟩ := h
    have b1 := v.l1
    have b2 := v.l2
    have few := v.few
    simp [-Prod.forall, -Prod.exists, w__law_cut, endF, wFor]
    refine forL_inv (fun i ρ => ∃ (t : Fr) (c6 c7 c8 c9 c10 c11 : Slot), ρ = [.dat (.int L), .dat (.tuple (ls.map ldD)), .dat (.tuple [.int p, .int q]), .dat (.int p), .dat (.int q), .dat (frD t), c6, c7, c8, c9, c10, c11] ∧ 0 < t.2 ∧ W (1 + 8000 * i) t.1 ∧ W (1 + 8000 * i) t.2 ∧ val t = sumQ (fun l => rQ L l - gQ l (val (p, q))) (ls.take i))
      ⟨(0, 1), _, _, _, _, _, _, rfl, by decide, by unfold W; decide, by unfold W; decide, by rw [val_int]; rfl⟩ ?_ ?_
    · rintro i dd ρ hd ⟨t, c6, c7, c8, c9, c10, c11, rfl, t0, wt1, wt2, vt⟩ N hN
      obtain ⟨l, hl, rfl, hi, hm⟩ := ldD_get hd
      have vl := v.each l hm
      simp [-Prod.forall, -Prod.exists, ldD, at20, frD, sp__law_plus]
      have ec : (if l.e * q < if p < l.b * q then l.b * q else p then l.e * q else if p < l.b * q then l.b * q else p) = cutI l p q := rfl
      rw [ec]
      have wc := cutI_w vl b2 wp wq
      obtain ⟨wb, we, ww, wL, ed⟩ := vl.ws b1 b2
      have wA1 := ww.neg.mul ((we.mul we).sub (wb.mul wb))
      have wA2 := ((we.sub wb).mul w2).mul wL
      have wB1 := ww.mul ((we.mul wq).sub wc)
      have wB2 := (we.sub wb).mul wq
      have A2 : 0 < (l.e - l.b) * 2 * L := Int.mul_pos (by omega) (by omega)
      have B2 : 0 < (l.e - l.b) * q := Int.mul_pos ed q0
      have s1 := W.sum (x := t) (y := (-l.w * (l.e * l.e - l.b * l.b), (l.e - l.b) * 2 * L)) wt1 wt2 wA1 wA2 (k := 1 + 8000 * i + 44) (by omega) (by omega)
      have s2 := W.sum (y := (l.w * (l.e * q - cutI l p q), (l.e - l.b) * q)) s1.1 s1.2 wB1 wB2 (k := 1 + 8000 * i + 2000) (by omega) (by omega)
      refine ⟨⟨wb.sz, wq.sz⟩, ⟨we.sz, wq.sz⟩, we.sz, wb.sz, ⟨we.sz, wq.sz⟩, ⟨ww.neg.sz, ((we.mul we).sub (wb.mul wb)).sz⟩, ⟨(we.sub wb).sz, w2.sz⟩, ⟨((we.sub wb).mul w2).sz, wL.sz⟩, ⟨wt1.sz, wt2.sz, wA1.sz, wA2.sz⟩, ⟨ww.sz, ((we.mul wq).sub wc).sz⟩, ⟨(we.sub wb).sz, wq.sz⟩, ⟨s1.1.sz, s1.2.sz, wB1.sz, wB2.sz⟩, ?_⟩
      refine hN _ ⟨_, _, _, _, _, _, _, rfl, Int.mul_pos (Int.mul_pos t0 A2) B2, s2.1.mono (by omega), s2.2.mono (by omega), ?_⟩
      rw [val_sumF (x := sumF (t.1, t.2) _) (Int.mul_pos t0 A2) B2, val_sumF (x := (t.1, t.2)) t0 A2, sumQ_take _ hl]
      have cp : _ = rQ L l - gQ l (val (p, q)) := cut_parts vl b1 (p := p) q0
      rw [← cp]
      show val t + _ + _ = _
      rw [vt]
      generalize val (-l.w * (l.e * l.e - l.b * l.b), (l.e - l.b) * 2 * L) = u1
      generalize val (l.w * (l.e * q - cutI l p q), (l.e - l.b) * q) = u2
      grind
    · rintro ρ ⟨t, c6, c7, c8, c9, c10, c11, rfl, t0, wt1, wt2, vt⟩
      rw [List.length_map] at wt1 wt2 vt
      simp [-Prod.forall, -Prod.exists]
      refine hP t t0 (wt1.mono (by omega)) (wt2.mono (by omega)) ?_
      rw [vt, List.take_length]
      rfl
  · exact h.elim
theorem ok__law_bent {ds : List D} {P : D → Prop} {ex : EX} (h : sp__law_bent ds P ex) : w__law_bent ex (endF P) (env0 ["length", "lying", "place", "part", "whole", "total", "begin", "end", "weight", "cut", "ahead", "behind"] ds) := by
  unfold sp__law_bent at h
  split at h
  · rename_i L ys p q
    obtain ⟨ls, ⟨rfl, v, wp, q0, wq⟩, hP⟩ := h
    have b1 := v.l1
    have b2 := v.l2
    have few := v.few
    simp [-Prod.forall, -Prod.exists, w__law_bent, endF, wFor]
    refine forL_inv (fun i ρ => ∃ (t : Fr) (c6 c7 c8 c9 c10 c11 : Slot), ρ = [.dat (.int L), .dat (.tuple (ls.map ldD)), .dat (.tuple [.int p, .int q]), .dat (.int p), .dat (.int q), .dat (frD t), c6, c7, c8, c9, c10, c11] ∧ 0 < t.2 ∧ W (1 + 8000 * i) t.1 ∧ W (1 + 8000 * i) t.2 ∧ val t = sumQ (fun l => rQ L l * val (p, q) - fQ l (val (p, q))) (ls.take i))
      ⟨(0, 1), _, _, _, _, _, _, rfl, by decide, by unfold W; decide, by unfold W; decide, by rw [val_int]; rfl⟩ ?_ ?_
    · rintro i dd ρ hd ⟨t, c6, c7, c8, c9, c10, c11, rfl, t0, wt1, wt2, vt⟩ N hN
      obtain ⟨l, hl, rfl, hi, hm⟩ := ldD_get hd
      have vl := v.each l hm
      simp [-Prod.forall, -Prod.exists, ldD, at20, frD, sp__law_plus]
      have ec : (if l.e * q < if p < l.b * q then l.b * q else p then l.e * q else if p < l.b * q then l.b * q else p) = cutI l p q := rfl
      rw [ec]
      have wc := cutI_w vl b2 wp wq
      obtain ⟨wb, we, ww, wL, ed⟩ := vl.ws b1 b2
      have c := cutI l p q
      have wbb := wb.mul wb
      have wee := we.mul we
      have wah := (wc.mul wc).sub ((wbb.mul wq).mul wq)
      have wd := (w2.mul wq).mul wq
      have weq := (we.mul wq).sub wc
      have w2L := w2.mul wL
      have wbh := ((w2L.mul weq).mul wq).sub (((wee.mul wq).mul wq).sub (wc.mul wc))
      have web := we.sub wb
      have wden := ((web.mul wd).mul wL).mul wq
      have wA := (ww.mul wah).mul ((wL.mul wq).sub wp)
      have wB := (ww.mul wbh).mul wp
      have d0 : 0 < (l.e - l.b) * (2 * q * q) * L * q := Int.mul_pos (Int.mul_pos (Int.mul_pos ed (Int.mul_pos (by omega) q0)) (by omega)) q0
      have s1 := W.sum (x := t) (y := (l.w * (cutI l p q * cutI l p q - l.b * l.b * q * q) * (L * q - p), (l.e - l.b) * (2 * q * q) * L * q)) wt1 wt2 wA wden (k := 1 + 8000 * i + 3000) (by omega) (by omega)
      have s2 := W.sum (y := (l.w * (2 * L * (l.e * q - cutI l p q) * q - (l.e * l.e * q * q - cutI l p q * cutI l p q)) * p, (l.e - l.b) * (2 * q * q) * L * q)) s1.1 s1.2 wB wden (k := 1 + 8000 * i + 7000) (by omega) (by omega)
      refine ⟨⟨wb.sz, wq.sz⟩, ⟨we.sz, wq.sz⟩, wc.sz, wb.sz, ⟨wbb.sz, wq.sz⟩, ⟨(wbb.mul wq).sz, wq.sz⟩, ⟨w2.sz, wq.sz⟩, ⟨(w2.mul wq).sz, wq.sz⟩, ⟨w2.sz, wL.sz⟩, ⟨we.sz, wq.sz⟩, ⟨w2L.sz, weq.sz⟩, ⟨(w2L.mul weq).sz, wq.sz⟩, we.sz, ⟨wee.sz, wq.sz⟩, ⟨(wee.mul wq).sz, wq.sz⟩, wc.sz, ⟨w2.sz, wq.sz⟩, ⟨(w2.mul wq).sz, wq.sz⟩,
        ⟨ww.sz, wah.sz⟩, ⟨wL.sz, wq.sz⟩, ⟨(ww.mul wah).sz, ((wL.mul wq).sub wp).sz⟩, ⟨web.sz, wd.sz⟩, ⟨(web.mul wd).sz, wL.sz⟩, ⟨((web.mul wd).mul wL).sz, wq.sz⟩, ⟨wt1.sz, wt2.sz, wA.sz, wden.sz⟩, ⟨ww.sz, wbh.sz⟩, ⟨(ww.mul wbh).sz, wp.sz⟩, ⟨web.sz, wd.sz⟩, ⟨(web.mul wd).sz, wL.sz⟩, ⟨((web.mul wd).mul wL).sz, wq.sz⟩, ⟨s1.1.sz, s1.2.sz, wB.sz, wden.sz⟩, ?_⟩
      refine hN _ ⟨_, _, _, _, _, _, _, rfl, Int.mul_pos (Int.mul_pos t0 d0) d0, s2.1.mono (by omega), s2.2.mono (by omega), ?_⟩
      rw [val_sumF (x := sumF (t.1, t.2) _) (Int.mul_pos t0 d0) d0, val_sumF (x := (t.1, t.2)) t0 d0, sumQ_take _ hl]
      have cp : _ = rQ L l * val (p, q) - fQ l (val (p, q)) := bend_parts vl b1 (p := p) q0
      rw [← cp]
      show val t + _ + _ = _
      rw [vt]
      generalize val (l.w * (cutI l p q * cutI l p q - l.b * l.b * q * q) * (L * q - p), (l.e - l.b) * (2 * q * q) * L * q) = u1
      generalize val (l.w * (2 * L * (l.e * q - cutI l p q) * q - (l.e * l.e * q * q - cutI l p q * cutI l p q)) * p, (l.e - l.b) * (2 * q * q) * L * q) = u2
      grind
    · rintro ρ ⟨t, c6, c7, c8, c9, c10, c11, rfl, t0, wt1, wt2, vt⟩
      rw [List.length_map] at wt1 wt2 vt
      simp [-Prod.forall, -Prod.exists]
      refine hP t t0 (wt1.mono (by omega)) (wt2.mono (by omega)) ?_
      rw [vt, List.take_length]
      rfl
  · exact h.elim
end Fz

set_option maxRecDepth 100000
set_option maxHeartbeats 4000000
/-! V28: what is drawn; where it bends most, as the law asks. -/
namespace Fz
open PySem PySem.Spec L2
def sp__law_drawn : BSp := fun cs ds P => match ds with
  | [] => ∃ n, Dc n cs ∧ n < 900000 ∧ ∀ L ls cs', Vb L ls → Dc (n + 40) cs' → P (.tuple [.int L, .tuple (ls.map ldD)]) cs'
  | _ => False
def w__law_drawn : WS := wSeq (wAsg 1 (wOp oAdd (wC (.int 1)) (wCallB sp__law_roll 0 (wCons (wCallB sp__law_pick 0 (wCons (wFrz (wLst (wCons (wC (.int 4)) (wCons (wC (.int 12)) (wCons (wC (.int 240)) (wNil)))))) (wNil))) (wNil)))))
  (wSeq (wAsgN 2 (wLst (wNil)))
  (wSeq (wFor (wItR1 (wCallB sp__law_roll 0 (wCons (wC (.int 7)) (wNil)))) (wgName 3) (wSeq (wAsg 4 (wCallB sp__law_roll 0 (wCons (wVar 1) (wNil))))
  (wDrop (wMt 2 (wCons (wTup (wCons (wVar 4) (wCons (wOp oAdd (wOp oAdd (wVar 4) (wC (.int 1))) (wCallB sp__law_roll 0 (wCons (wOp oSub (wVar 1) (wVar 4)) (wNil)))) (wCons (wOp oAdd (wC (.int 1)) (wCallB sp__law_roll 0 (wCons (wCallB sp__law_pick 0 (wCons (wFrz (wLst (wCons (wC (.int 3)) (wCons (wC (.int 1000)) (wNil))))) (wNil))) (wNil)))) (wNil))))) wNil) oApp))))
  (wRet (wTup (wCons (wVar 1) (wCons (wFn oTupF (wPeek 2)) (wNil)))))))
theorem len__law_drawn : ∀ cs ds P, sp__law_drawn cs ds P → ds.length + 1 = 1 := by
  intro cs ds P h
  unfold sp__law_drawn at h
  split at h <;> first | rfl | exact h.elim
theorem ok__law_drawn {cs ds : List D} {P : D → List D → Prop} (h : sp__law_drawn cs ds P) : w__law_drawn exF (endB P) (envB ["dice", "length", "lying", "turn", "begin"] cs ds) := by
  unfold sp__law_drawn at h
  split at h
  · obtain ⟨n, hd, hn, hP⟩ := h
    simp [-Prod.forall, -Prod.exists, w__law_drawn, sp__law_pick, sp__law_roll]
    refine ⟨n, hd, by omega, ?_⟩
    intro dd cs1 hdd hd1
    obtain ⟨t, rfl, t0, t1⟩ : ∃ t : Int, dd = .int t ∧ 0 < t ∧ t ≤ 240 := by
      rcases hdd with rfl | rfl | rfl
      · exact ⟨4, rfl, by omega, by omega⟩
      · exact ⟨12, rfl, by omega, by omega⟩
      · exact ⟨240, rfl, by omega, by omega⟩
    · simp [-Prod.forall, -Prod.exists]
      refine ⟨n + 1, hd1, by omega, t0, by omega, fun r cs' r0 rt hd2 => ?_⟩
      simp [-Prod.forall, -Prod.exists, wFor, sp__law_roll]
      refine ⟨n + 2, hd2, by omega, fun k cs2 k0 k7 hd3 => ⟨⟨by omega, by omega⟩, ?_⟩⟩
      have kl : (rngD 0 k).length ≤ 6 := by rw [rngD_len2]; omega
      refine forL_inv (fun i ρ => ∃ (cs3 : List D) (ls : List Ld) (c3 c4 : Slot), ρ = [.bor cs3, .dat (.int (1 + r)), .own (ls.map ldD), c3, c4] ∧ Dc (n + 3 + 5 * i) cs3 ∧ ls.length = i ∧ ∀ l ∈ ls, Vl (1 + r) l) ⟨cs2, [], _, _, rfl, hd3, rfl, fun _ z => absurd z List.not_mem_nil⟩ ?_ ?_
      · rintro i d ρ hdi ⟨cs3, ls, c3, c4, rfl, hd4, hl, hv⟩ N hN
        have hi : i < (rngD 0 k).length := (List.getElem?_eq_some_iff.mp hdi).1
        simp [-Prod.forall, -Prod.exists, sp__law_roll, sp__law_pick]
        refine ⟨_, hd4, by omega, by omega, by omega, fun b cs4 b0 bl hd5 => ⟨_, hd5, by omega, by omega, by omega, fun e cs5 e0 el hd6 => ⟨_, hd6, by omega, ?_⟩⟩⟩
        intro dd cs6 hdd hd7
        obtain ⟨t, rfl, t0, t1⟩ : ∃ t : Int, dd = .int t ∧ 0 < t ∧ t ≤ 1000 := by
          rcases hdd with rfl | rfl
          · exact ⟨3, rfl, by omega, by omega⟩
          · exact ⟨1000, rfl, by omega, by omega⟩
        · simp [-Prod.forall, -Prod.exists]
          refine ⟨_, hd7, by omega, t0, by omega, fun w cs7 w0 wt hd8 => ⟨by omega, hN _ ⟨cs7, ls ++ [⟨b, b + 1 + e, 1 + w⟩], .dat d, .dat (.int b), by simp [-Prod.forall, -Prod.exists, ldD], hd8.mono (by omega), by simp [-Prod.forall, -Prod.exists]; omega, fun l hl' => ?_⟩⟩⟩
          rcases List.mem_append.mp hl' with z | z
          · exact hv l z
          · rcases List.mem_cons.mp z with rfl | z
            · exact ⟨by simp only; omega, by simp only; omega, by simp only; omega, by simp only; omega, by simp only; omega⟩
            · exact absurd z List.not_mem_nil
      · rintro ρ ⟨cs3, ls, c3, c4, rfl, hd4, hl, hv⟩
        simp [-Prod.forall, -Prod.exists]
        exact hP _ ls cs3 ⟨by omega, by omega, by omega, hv⟩ (hd4.mono (by omega))
  · exact h.elim
end Fz

set_option maxRecDepth 100000
set_option maxHeartbeats 4000000
/-! X28: the search is right. -/
namespace Fz
open PySem PySem.Spec L2
def sp__law_most_right : PSp := fun ds P _ => match ds with
  | [.int L, .tuple ys] => (∃ ls : List Ld, ys = ls.map ldD ∧ Vb L ls) ∧ P (.bool true)
  | _ => False
def w__law_most_right : WS := wSeq (wAsg 2 (wCallK sp_most_bent 2 [1, 0] (wCons (wVar 1) (wCons (wVar 0) (wNil)))))
  (wSeq (wAsg 3 (wCall sp__law_bent (wCons (wVar 0) (wCons (wVar 1) (wCons (wVar 2) (wNil))))))
  (wSeq (wIf (wNotT (wTru (wCall sp__law_same (wCons (wCallK sp_greatest_bending 2 [1, 0] (wCons (wVar 1) (wCons (wVar 0) (wNil)))) (wCons (wVar 3) (wNil)))))) (wRet (wC (.bool false))) (wNext))
  (wSeq (wIf (wCmT oEq (wFn oLen (wVar 1)) (wC (.int 0))) (wRet (wBl (wCmT oEq (wVar 2) (wTup (wCons (wC (.int 0)) (wCons (wC (.int 1)) (wNil))))))) (wNext))
  (wSeq (wIf (wOrT (wNotT (wTru (wCall sp__law_same (wCons (wVar 2) (wCons (wVar 2) (wNil)))))) (wCmT oNe (wOp oIx (wCall sp__law_cut (wCons (wVar 0) (wCons (wVar 1) (wCons (wVar 2) (wNil))))) (wC (.int 0))) (wC (.int 0)))) (wRet (wC (.bool false))) (wNext))
  (wSeq (wAsg 4 (wFrz (wLc (wIt (wFrz (wOpN oCat (wFrz (wOpN oCat (wFrz (wLst (wCons (wC (.int 0)) (wNil)))) (wFrz (wLc (wIt (wVar 1)) (wgName 5) (wYes) (wOp oIx (wVar 5) (wC (.int 0))) [5])))) (wFrz (wLc (wIt (wVar 1)) (wgName 5) (wYes) (wOp oIx (wVar 5) (wC (.int 1))) [5]))))) (wgName 6) (wCmT oLt (wOp oMul (wVar 6) (wOp oIx (wVar 2) (wC (.int 1)))) (wOp oIx (wVar 2) (wC (.int 0)))) (wVar 6) [6])))
  (wSeq (wIf (wCmT oLe (wOp oIx (wCall sp__law_cut (wCons (wVar 0) (wCons (wVar 1) (wCons (wTup (wCons (wFn oMaxL (wVar 4)) (wCons (wC (.int 1)) (wNil)))) (wNil))))) (wC (.int 0))) (wC (.int 0))) (wRet (wC (.bool false))) (wNext))
  (wSeq (wFor (wItR1 (wC (.int 9))) (wgName 7) (wSeq (wAsg 8 (wCall sp__law_bent (wCons (wVar 0) (wCons (wVar 1) (wCons (wTup (wCons (wOp oMul (wVar 0) (wVar 7)) (wCons (wC (.int 8)) (wNil)))) (wNil))))))
  (wIf (wCmT oGt (wOp oMul (wOp oIx (wVar 8) (wC (.int 0))) (wOp oIx (wVar 3) (wC (.int 1)))) (wOp oMul (wOp oIx (wVar 3) (wC (.int 0))) (wOp oIx (wVar 8) (wC (.int 1))))) (wRet (wC (.bool false))) (wNext))))
  (wRet (wC (.bool true))))))))))
theorem len__law_most_right : ∀ ds P ex, sp__law_most_right ds P ex → ds.length = 2 := by
  intro ds P ex h
  unfold sp__law_most_right at h
  split at h <;> first | rfl | exact h.elim
theorem same_of {g t : Fr} (hr : Red g) (h9 : W 1900 g.2) (s1 : Sz g.1) (ht : 0 < t.2) (s3 : Sz t.1) (s4 : Sz t.2) (hv : val g = val t) {P : D → Prop} {ex : EX} (hP : P (.bool true)) : sp__law_same [frD g, frD t] P ex := by
  obtain ⟨a, b⟩ := g
  obtain ⟨c, d⟩ := t
  have e : a * d = c * b := (val_eq (x := (a, b)) (y := (c, d)) hr.1 ht).mp hv
  refine ⟨⟨hr, h9, s1, s3, s4⟩, ?_⟩
  rw [decide_eq_true e]
  exact hP
theorem Qd_w {L : Int} {ls : List Ld} (v : Vb L ls) {q : Fr} (h : Bq 232 223 q) : 0 < Qd L ls q ∧ W 600 (Qd L ls q) := by
  obtain ⟨p1, p2⟩ := prodE_bd v.l2 v.each
  have few := v.few
  have b1 := v.l1
  have b2 := v.l2
  have wp : W 49 (prodE ls) := abs_mono p2 (by omega)
  have wL : W 8 L := by
    have : (2 : Nat) ^ 8 = 256 := by decide
    unfold W
    omega
  have wq : W 223 q.2 := h.2.2
  refine ⟨Int.mul_pos (Int.mul_pos (Int.mul_pos (by omega) h.2.1) (by have := h.2.1; omega)) p1, ?_⟩
  exact ((((w2.mul wL).mul wq).mul (w2.mul wq)).mul wp).mono (by omega)
theorem dvd_w {a b : Int} (hb : 0 < b) (h : a ∣ b) {k : Nat} (w : W k b) : W k a := by
  have := Nat.le_of_dvd (by omega) (Int.natAbs_dvd_natAbs.mpr h)
  exact Nat.lt_of_le_of_lt this w
theorem bend_same {L : Int} {ls : List Ld} (v : Vb L ls) {z q : Fr} (mz : MB L ls z) (mq : MB L ls q) : bendR L ls (val z) = bendR L ls (val q) := by
  rcases Decidable.em (ls = []) with e | e
  · rw [mz.emp e, mq.emp e]
  · have h1 := bend_max v (mz.cut e) (val q)
    have h2 := bend_max v (mq.cut e) (val z)
    grind
def keepI (z : Fr) (d : D) : Bool := match d with
  | .int m => decide (m * z.2 < z.1)
  | _ => false
theorem keep_ints (z : Fr) (ms : List Int) : ((ms.map PyData.int).filter (keepI z)).map id = (ms.filter fun m => decide (m * z.2 < z.1)).map .int := by
  rw [List.map_id, List.filter_map]
  rfl
theorem ok__law_most_right {ds : List D} {P : D → Prop} {ex : EX} (h : sp__law_most_right ds P ex) : w__law_most_right ex (endF P) (env0 ["length", "lying", "place", "most", "marks", "one", "mark", "step", "other"] ds) := by
  unfold sp__law_most_right at h
  split at h
  · rename_i L ys
    obtain ⟨⟨ls, rfl, v⟩, hP⟩ := h
    have b1 := v.l1
    have b2 := v.l2
    have few := v.few
    simp [-Prod.forall, -Prod.exists, w__law_most_right, endF, sp_most_bent]
    refine beamOr_ok v fun z mz => ?_
    have bz := mz.bq
    have z20 := mz.red.1
    obtain ⟨z1, z2⟩ := z
    have wz1 : W 232 z1 := bz.1
    have wz2 : W 223 z2 := bz.2.2
    simp [-Prod.forall, -Prod.exists, sp__law_bent]
    refine ⟨ls, ⟨rfl, v, wz1.mono (by omega), z20, wz2.mono (by omega)⟩, fun t t0 wt1 wt2 vt => ?_⟩
    simp [-Prod.forall, -Prod.exists, sp_greatest_bending]
    refine beamOr_ok v fun q g mq rg bg dg vg => ?_
    obtain ⟨q1, q2⟩ := Qd_w v mq.bq
    refine same_of rg ((dvd_w q1 dg q2).mono (by omega)) (bg.s1 (by omega)) t0 wt1.sz wt2.sz (by rw [vg, vt, bend_same v mq mz]) ?_
    simp [-Prod.forall, -Prod.exists]
    by_cases hn : ls = []
    · have e := mz.emp hn
      cases e
      simp [-Prod.forall, -Prod.exists, hn]
      have s1 : SeqAt.shaped (.tuple [.int 0, .int 1]) = true := by decide +kernel
      have s2 : PyData.eqv (.tuple [.int 0, .int 1]) (.tuple [.int 0, .int 1]) = true := by decide +kernel
      refine ⟨s1, ?_⟩
      rw [s2]
      exact hP
    · rw [if_neg hn]
      refine same_of mz.red (wz2.mono (by omega)) (wz1.sz) z20 wz1.sz wz2.sz rfl ?_
      simp [-Prod.forall, -Prod.exists, sp__law_cut]
      refine ⟨ls, ⟨rfl, v, wz1.mono (by omega), z20, wz2.mono (by omega)⟩, fun c c0 wc1 wc2 vc => ?_⟩
      have c10 : c.1 = 0 := by
        have e : val c = val (0, 1) := by
          rw [vc, mz.cut hn, val_int]
          rfl
        have := (val_eq (y := (0, 1)) c0 (by decide)).mp e
        simp only at this
        omega
      simp [-Prod.forall, -Prod.exists, frD, at20, c10, wLc]
      refine lcL_map (fun _ => true) (lf fun l => l.b) (by simp [-Prod.forall, -Prod.exists]; omega) (by simp [-Prod.forall, -Prod.exists]) ?_ ?_
      · intro d hd acc N hl hN
        obtain ⟨k, hk, rfl⟩ := List.mem_map.mp hd
        simp [-Prod.forall, -Prod.exists, ldD, at30]
        exact ⟨hl, by simpa [-Prod.forall, -Prod.exists, lf, ldD] using hN⟩
      rw [lf_map]
      simp [-Prod.forall, -Prod.exists]
      refine ⟨by omega, lcL_map (fun _ => true) (lf fun l => l.e) (by simp [-Prod.forall, -Prod.exists]; omega) (by simp [-Prod.forall, -Prod.exists]) ?_ ?_⟩
      · intro d hd acc N hl hN
        obtain ⟨k, hk, rfl⟩ := List.mem_map.mp hd
        simp [-Prod.forall, -Prod.exists, ldD, at30]
        exact ⟨hl, by simpa [-Prod.forall, -Prod.exists, lf, ldD] using hN⟩
      rw [lf_map]
      simp [-Prod.forall, -Prod.exists]
      refine ⟨by omega, ?_⟩
      have em : (PyData.int 0 :: (List.map (PyData.int ∘ fun l : Ld => l.b) ls ++ List.map (PyData.int ∘ fun l : Ld => l.e) ls)) = (marksI ls).map .int := by
        unfold marksI
        rw [List.map_cons, List.map_append, List.map_map, List.map_map]
      rw [em]
      have mbd : ∀ m ∈ marksI ls, 0 ≤ m ∧ m ≤ 240 := fun m hm => by
        unfold marksI at hm
        rcases List.mem_cons.mp hm with rfl | hm
        · omega
        · rcases List.mem_append.mp hm with hm | hm
          · obtain ⟨l, hl, rfl⟩ := List.mem_map.mp hm
            obtain ⟨h1, h2, h3, h4, h5⟩ := v.each l hl
            omega
          · obtain ⟨l, hl, rfl⟩ := List.mem_map.mp hm
            obtain ⟨h1, h2, h3, h4, h5⟩ := v.each l hl
            omega
      have mlen : (marksI ls).length ≤ 100000 := by
        unfold marksI
        simp [-Prod.forall, -Prod.exists]
        omega
      refine lcL_map (keepI (z1, z2)) id (by simpa [-Prod.forall, -Prod.exists] using mlen) (by simp [-Prod.forall, -Prod.exists]) ?_ ?_
      · intro d hd acc N hl hN
        obtain ⟨m, hm, rfl⟩ := List.mem_map.mp hd
        have := mbd m hm
        simp [-Prod.forall, -Prod.exists, at20]
        refine ⟨⟨.small (by omega) (by omega), wz2.sz⟩, ?_⟩
        by_cases c1 : m * z2 < z1
        · simp [-Prod.forall, -Prod.exists, c1]
          refine ⟨hl, ?_⟩
          simpa [-Prod.forall, -Prod.exists, keepI, c1] using hN
        · simp [-Prod.forall, -Prod.exists, c1]
          simpa [-Prod.forall, -Prod.exists, keepI, c1] using hN
      rw [keep_ints]
      simp only [wSeq, wIf, wCmT, wOp, wCall, wCons, wTup, wFn, wVar]
      simp [-Prod.forall, -Prod.exists, intsOf_map]
      have zp : 0 < z1 := mz.pos hn
      refine ⟨⟨0, by unfold marksI; exact List.mem_cons_self, by omega⟩, fun m hm hlt _ => ?_⟩
      obtain ⟨m0, m1⟩ := mbd m hm
      have wm : W 400 m := abs_mono (n := 8) (by have : (2 : Nat) ^ 8 = 256 := by decide
                                                 omega) (by omega)
      have w1 : W 400 1 := abs_mono (n := 1) (by decide) (by omega)
      refine ⟨ls, ⟨rfl, v, wm, w1⟩, fun c c0 wc1 wc2 vc => ?_⟩
      have hv : (m : Rat) < val (z1, z2) := by
        rw [← val_int m, val_lt (by show (0 : Int) < 1; omega) z20]
        show m * z2 < z1 * 1
        omega
      have hc := mz.mks hn m hm hv
      rw [val_int] at vc
      rw [← vc, val_pos c0] at hc
      rw [if_neg (by omega)]
      simp [-Prod.forall, -Prod.exists, wFor]
      refine forL_inv (fun i ρ => ∃ c7 c8 : Slot, ρ = [.dat (.int L), .dat (.tuple (ls.map ldD)), .dat (.tuple [.int z1, .int z2]), .dat (.tuple [.int t.1, .int t.2]), .dat (.list (((marksI ls).filter fun m => decide (m * z2 < z1)).map .int)), .emp, .emp, c7, c8]) ⟨_, _, rfl⟩ ?_ ?_
      · rintro i d ρ hd ⟨c7, c8, rfl⟩ N hN
        obtain ⟨k, rfl, k0, k9⟩ : ∃ k : Int, d = .int k ∧ 0 ≤ k ∧ k < 9 := by
          unfold rngD at hd
          rw [List.getElem?_map] at hd
          cases e : (List.range (9 - 0 : Int).toNat)[i]? with
          | none => rw [e] at hd; cases hd
          | some j =>
            rw [e] at hd
            have hj := List.mem_range.mp (List.mem_of_getElem? e)
            refine ⟨0 + (j : Int), (Option.some.inj hd).symm, by omega, ?_⟩
            have : j < 9 := hj
            omega
        have wL : W 8 L := by
          have : (2 : Nat) ^ 8 = 256 := by decide
          unfold W
          omega
        have wk : W 4 k := by
          have : (2 : Nat) ^ 4 = 16 := by decide
          unfold W
          omega
        simp [-Prod.forall, -Prod.exists, sp__law_bent]
        refine ⟨⟨wL.sz, wk.sz⟩, ls, ⟨rfl, v, (wL.mul wk).mono (by omega), abs_mono (n := 4) (by decide) (by omega)⟩, fun u u0 wu1 wu2 vu => ?_⟩
        simp [-Prod.forall, -Prod.exists, at20, frD]
        have le : val u ≤ val t := by
          rw [vu, vt]
          exact bend_max v (mz.cut hn) _
        rw [val_le u0 t0] at le
        refine ⟨⟨wu1.sz, wt2.sz⟩, ⟨wt1.sz, wu2.sz⟩, ?_⟩
        rw [if_neg (by omega)]
        exact hN _ ⟨_, _, rfl⟩
      · rintro ρ ⟨c7, c8, rfl⟩
        exact hP
  · exact h.elim
end Fz

set_option maxRecDepth 100000
set_option maxHeartbeats 8000000
/-! Y28: the law of beams. -/
namespace Fz
open PySem PySem.Spec L2
def wl_body : WS := wSeq (wAsgN 2 (wCallN sp__law_dice (wCons (wVar 0) (wCons (wVar 1) (wNil)))))
  (wSeq (wAsgG (wCallB sp__law_drawn 2 (wNil)) (wgTup 2 (wgCons (wgName 3) (wgCons (wgName 4) (wgNil)))))
  (wSeq (wAsg 5 (wCallK sp_end_forces 2 [1, 0] (wCons (wVar 4) (wCons (wVar 3) (wNil)))))
  (wSeq (wAsg 6 (wFn oSum (wFrz (wLc (wIt (wVar 4)) (wgName 7) (wYes) (wOp oIx (wVar 7) (wC (.int 2))) [7]))))
  (wSeq (wIf (wNotT (wTru (wCall sp__law_same (wCons (wOp oIx (wVar 5) (wC (.int 0))) (wCons (wCall sp__law_cut (wCons (wVar 3) (wCons (wVar 4) (wCons (wTup (wCons (wC (.int 0)) (wCons (wC (.int 1)) (wNil)))) (wNil))))) (wNil)))))) (wRet (wC (.bool false))) (wNext))
  (wSeq (wIf (wNotT (wTru (wCall sp__law_same (wCons (wOp oIx (wVar 5) (wC (.int 1))) (wCons (wCall sp__law_plus (wCons (wTup (wCons (wVar 6) (wCons (wC (.int 1)) (wNil)))) (wCons (wTup (wCons (wUn oNeg (wOp oIx (wOp oIx (wVar 5) (wC (.int 0))) (wC (.int 0)))) (wCons (wOp oIx (wOp oIx (wVar 5) (wC (.int 0))) (wC (.int 1))) (wNil)))) (wNil)))) (wNil)))))) (wRet (wC (.bool false))) (wNext))
  (wSeq (wFor (wItR1 (wC (.int 4))) (wgName 8) (wSeq (wAsg 9 (wOp oAdd (wC (.int 1)) (wCallB sp__law_roll 2 (wCons (wC (.int 5)) (wNil)))))
  (wSeq (wAsg 10 (wCall sp__law_lowest (wCons (wCallB sp__law_roll 2 (wCons (wOp oAdd (wOp oMul (wVar 3) (wVar 9)) (wC (.int 1))) (wNil))) (wCons (wVar 9) (wNil)))))
  (wSeq (wIf (wNotT (wTru (wCall sp__law_same (wCons (wCallK sp_bending 3 [2, 1, 0] (wCons (wVar 10) (wCons (wVar 4) (wCons (wVar 3) (wNil))))) (wCons (wCall sp__law_bent (wCons (wVar 3) (wCons (wVar 4) (wCons (wVar 10) (wNil))))) (wNil)))))) (wRet (wC (.bool false))) (wNext))
  (wIf (wNotT (wTru (wCall sp__law_same (wCons (wCallK sp_cut_force 3 [2, 1, 0] (wCons (wVar 10) (wCons (wVar 4) (wCons (wVar 3) (wNil))))) (wCons (wCall sp__law_cut (wCons (wVar 3) (wCons (wVar 4) (wCons (wVar 10) (wNil))))) (wNil)))))) (wRet (wC (.bool false))) (wNext))))))
  (wIf (wNotT (wTru (wCall sp__law_most_right (wCons (wVar 3) (wCons (wVar 4) (wNil)))))) (wRet (wC (.bool false))) (wNext))))))))
def wl_rest : WS := wSeq (wAsg 11 (wFrz (wLst (wCons (wRef "BadArgument" (wCall sp_end_forces (wCons (wC (.int 0)) (wCons (wC .none) (wNil))))) (wCons (wRef "BadArgument" (wCall sp_end_forces (wCons (wC (.int 241)) (wCons (wTup (wNil)) (wNil))))) (wCons (wRef "BadArgument" (wCall sp_end_forces (wCons (wC (.int 5)) (wCons (wTup (wCons (wTup (wCons (wC (.int 0)) (wCons (wC (.int 6)) (wCons (wC (.int 1)) (wNil))))) (wNil))) (wNil))))) (wCons (wRef "BadArgument" (wCall sp_most_bent (wCons (wC (.int 5)) (wCons (wTup (wCons (wTup (wCons (wC (.int 2)) (wCons (wC (.int 2)) (wCons (wC (.int 1)) (wNil))))) (wNil))) (wNil))))) (wCons (wRef "BadArgument" (wCall sp_most_bent (wCons (wC (.int 5)) (wCons (wTup (wCons (wTup (wCons (wC (.int 0)) (wCons (wC (.int 1)) (wCons (wC (.int 1001)) (wNil))))) (wNil))) (wNil))))) (wCons (wRef "BadArgument" (wCall sp_greatest_bending (wCons (wC (.int 5)) (wCons (wOp oMul (wTup (wCons (wTup (wCons (wC (.int 0)) (wCons (wC (.int 1)) (wCons (wC (.int 1)) (wNil))))) (wNil))) (wC (.int 7))) (wNil))))) (wCons (wRef "BadArgument" (wCall sp_bending (wCons (wC (.int 5)) (wCons (wTup (wNil)) (wCons (wTup (wCons (wC (.int 2)) (wCons (wC (.int 4)) (wNil)))) (wNil)))))) (wCons (wRef "BadArgument" (wCall sp_bending (wCons (wC (.int 5)) (wCons (wTup (wNil)) (wCons (wTup (wCons (wC (.int 11)) (wCons (wC (.int 2)) (wNil)))) (wNil)))))) (wCons (wRef "BadArgument" (wCall sp_cut_force (wCons (wC (.int 5)) (wCons (wTup (wNil)) (wCons (wTup (wCons (wUn oNeg (wC (.int 1))) (wCons (wC (.int 1)) (wNil)))) (wNil)))))) (wCons (wRef "BadArgument" (wCall sp_cut_force (wCons (wC (.int 5)) (wCons (wFrz (wLst (wNil))) (wCons (wC (.int 3)) (wNil)))))) (wNil))))))))))))))
  (wSeq (wIf (wCmT oNe (wVar 11) (wFrz (wLst (wCons (wC (.str "length")) (wCons (wC (.str "length")) (wCons (wC (.str "lying")) (wCons (wC (.str "lying")) (wCons (wC (.str "lying")) (wCons (wC (.str "lying")) (wCons (wC (.str "place")) (wCons (wC (.str "place")) (wCons (wC (.str "place")) (wCons (wC (.str "lying")) (wNil)))))))))))))) (wRet (wC (.bool false))) (wNext))
  (wSeq (wIf (wCmT oNe (wCall sp_end_forces (wCons (wC (.int 10)) (wCons (wTup (wCons (wTup (wCons (wC (.int 0)) (wCons (wC (.int 10)) (wCons (wC (.int 6)) (wNil))))) (wNil))) (wNil)))) (wTup (wCons (wTup (wCons (wC (.int 3)) (wCons (wC (.int 1)) (wNil)))) (wCons (wTup (wCons (wC (.int 3)) (wCons (wC (.int 1)) (wNil)))) (wNil))))) (wRet (wC (.bool false))) (wNext))
  (wRet (wAndV (wBl (wCmT oEq (wCall sp_most_bent (wCons (wC (.int 10)) (wCons (wTup (wCons (wTup (wCons (wC (.int 0)) (wCons (wC (.int 10)) (wCons (wC (.int 6)) (wNil))))) (wNil))) (wNil)))) (wTup (wCons (wC (.int 5)) (wCons (wC (.int 1)) (wNil)))))) (wAndV (wBl (wCmT oEq (wCall sp_greatest_bending (wCons (wC (.int 10)) (wCons (wTup (wCons (wTup (wCons (wC (.int 0)) (wCons (wC (.int 10)) (wCons (wC (.int 6)) (wNil))))) (wNil))) (wNil)))) (wTup (wCons (wC (.int 15)) (wCons (wC (.int 2)) (wNil)))))) (wBl (wCmT oEq (wCall sp_most_bent (wCons (wC (.int 9)) (wCons (wTup (wCons (wTup (wCons (wC (.int 0)) (wCons (wC (.int 1)) (wCons (wC (.int 2)) (wNil))))) (wCons (wTup (wCons (wC (.int 8)) (wCons (wC (.int 9)) (wCons (wC (.int 2)) (wNil))))) (wNil)))) (wNil)))) (wTup (wCons (wC (.int 1)) (wCons (wC (.int 1)) (wNil)))))))))))
def w_law : WS := wSeq (wFor (wItR1 (wMax2 (wC (.int 1)) (wMin2 (wC (.int 8)) (wFn oLen (wVar 0))))) (wgName 1) wl_body) wl_rest
theorem beam_bad_l {l y : D} {x : EX} {k : Int → List Ld → Prop} (hg : goodL l = false) (h : x "BadArgument" "length") : beamOr l y x k :=
  ⟨fun _ => h, fun L e g => by rw [hg] at g; cases g⟩
theorem beam_bad_y {L : Int} {y : D} {x : EX} {k : Int → List Ld → Prop} (hg : goodL (.int L) = true) (hy : goodY y L = false) (h : x "BadArgument" "lying") : beamOr (.int L) y x k :=
  ⟨fun g => (by rw [hg] at g; cases g), fun L' e _ => by
    cases e
    refine ⟨fun _ => h, fun ls e v => ?_⟩
    obtain ⟨_, g2⟩ := goodY_of v
    rw [← e, hy] at g2
    cases g2⟩
theorem place_bad {L : Int} {p : D} {x : EX} {k : Fr → Prop} (hp : goodP L p = false) (h : x "BadArgument" "place") : placeOr L p x k :=
  ⟨fun _ => h, fun q e v => by
    have := goodP_of v
    rw [← e, hp] at this
    cases this⟩
theorem cop_dvd {b a d : Int} (h : Int.gcd b a = 1) (hd : b ∣ a * d) : b ∣ d := by
  have z := Int.dvd_gcd_mul_iff_dvd_mul.mpr hd
  rw [h] at z
  simpa [-Prod.forall, -Prod.exists] using z
theorem Red.eq {x y : Fr} (hx : Red x) (hy : Red y) (h : val x = val y) : x = y := by
  have e := (val_eq hx.1 hy.1).mp h
  obtain ⟨a, b⟩ := x
  obtain ⟨c, d⟩ := y
  simp only at e
  have h1 : b ∣ d := by
    have : (b : Int) ∣ a * d := ⟨c, by rw [e]; exact Int.mul_comm ..⟩
    exact cop_dvd (by rw [Int.gcd_comm]; exact hx.2) this
  have h2 : d ∣ b := by
    have : (d : Int) ∣ c * b := ⟨a, by rw [← e]; exact Int.mul_comm ..⟩
    exact cop_dvd (by rw [Int.gcd_comm]; exact hy.2) this
  have b0 : 0 < b := hx.1
  have d0 : 0 < d := hy.1
  have ed : b = d := Int.le_antisymm (Int.le_of_dvd d0 h1) (Int.le_of_dvd b0 h2)
  subst ed
  have : a = c := Int.eq_of_mul_eq_mul_right (by omega) e
  rw [this]
theorem rng_mem {n : Int} {i : Nat} {d : D} (h : (rngD 0 n)[i]? = some d) : ∃ k : Int, d = .int k ∧ 0 ≤ k ∧ k < n ∧ k = i := by
  unfold rngD at h
  rw [List.getElem?_map] at h
  cases e : (List.range (n - 0).toNat)[i]? with
  | none => rw [e] at h; cases h
  | some j =>
    rw [e] at h
    have hj := List.mem_range.mp (List.mem_of_getElem? e)
    have hi := (List.getElem?_eq_some_iff.mp e).2
    rw [List.getElem_range] at hi
    refine ⟨0 + (j : Int), (Option.some.inj h).symm, by omega, by omega, by omega⟩
/-- a drawn place -/
theorem drawn_place {L p q : Int} (h0 : 0 ≤ p) (h1 : p ≤ L * q) (hq : 0 < q) (h5 : q ≤ 5) (hL : L ≤ 240) (hL1 : 1 ≤ L) : Vp L (frac p q) ∧ Bq 11 3 (frac p q) := by
  have g1 := gcd_pos (p := p) hq
  obtain ⟨e1, e2⟩ := frac_mul (p := p) hq
  have pb : p ≤ 240 * 5 := Int.le_trans h1 (Int.mul_le_mul hL h5 (by omega) (by omega))
  have p11 : p.natAbs < 2 ^ 11 := by
    have : (2 : Nat) ^ 11 = 2048 := by decide
    omega
  have q3 : q.natAbs < 2 ^ 3 := by
    have : (2 : Nat) ^ 3 = 8 := by decide
    omega
  refine ⟨⟨frac_red hq, Int.ediv_nonneg h0 (by omega), ?_⟩, .frac p11 hq q3⟩
  have : (frac p q).1 * (Int.gcd p q : Int) ≤ L * (frac p q).2 * (Int.gcd p q : Int) := by
    rw [e1, Int.mul_assoc, e2]
    exact h1
  exact Int.le_of_mul_le_mul_right this g1
def lawEnv (ns : List Int) (c1 c2 c3 c4 c5 c6 c7 c8 c9 c10 c11 : Slot) : Env := [.dat (.list (ns.map .int)), c1, c2, c3, c4, c5, c6, c7, c8, c9, c10, c11]
theorem seq_gen {a b : WS} {x : EX} {E : WEnds} {ρ : Env} (h : ∀ B : Env → Prop, (∀ ρ1, b x E ρ1 → B ρ1) → a x { nx := B, rt := E.rt, bk := E.bk, ct := E.ct, rn := E.rn } ρ) : wSeq a b x E ρ := h _ fun _ z => z
theorem ok_law_body {ns : List Int} (hl : ns.length ≤ 63) {E : WEnds} {k : Int} (k0 : 0 ≤ k) (k8 : k < 8) {c2 c3 c4 c5 c6 c7 c8 c9 c10 c11 : Slot} (hN : ∀ c1 c2 c3 c4 c5 c6 c7 c8 c9 c10 c11 : Slot, E.nx (lawEnv ns c1 c2 c3 c4 c5 c6 c7 c8 c9 c10 c11)) :
    wl_body exF E (lawEnv ns (.dat (.int k)) c2 c3 c4 c5 c6 c7 c8 c9 c10 c11) := by
  unfold wl_body lawEnv
  refine seq_gen fun B hB => ?_
  simp [-Prod.forall, -Prod.exists, sp__law_dice]
  refine ⟨⟨ns, rfl, hl⟩, k0, by omega, fun cs hcs => hB _ ?_⟩
  clear hB
  refine seq_gen fun B hB => ?_
  simp [-Prod.forall, -Prod.exists, sp__law_drawn]
  refine ⟨0, hcs, by omega, fun L ls cs2 v hd2 => hB _ ?_⟩
  clear hB
  have b1 := v.l1
  have b2 := v.l2
  have few := v.few
  refine seq_gen fun B hB => ?_
  simp [-Prod.forall, -Prod.exists, sp_end_forces]
  refine beamOr_ok v fun a b ra rb ba bb _ _ va vb => hB _ ?_
  clear hB
  refine seq_gen fun B hB => ?_
  simp [-Prod.forall, -Prod.exists, wLc]
  refine lcL_map (fun _ => true) (lf fun l => l.w) (by simp [-Prod.forall, -Prod.exists]; omega) (by simp [-Prod.forall, -Prod.exists]) ?_ ?_
  · intro d hd acc N hl hN
    obtain ⟨m, hm, rfl⟩ := List.mem_map.mp hd
    simp [-Prod.forall, -Prod.exists, ldD, at30]
    exact ⟨hl, by simpa [-Prod.forall, -Prod.exists, lf, ldD] using hN⟩
  rw [lf_map]
  simp only [intsOf_map]
  refine hB _ ?_
  clear hB
  have w2 := whole_bd v
  have e2 : (ls.map fun l => l.w).sum = wholeI ls := rfl
  rw [e2]
  refine seq_gen fun B hB => ?_
  simp [-Prod.forall, -Prod.exists, at20, sp__law_cut]
  refine ⟨ls, ⟨rfl, v, abs_mono (n := 1) (by decide) (by omega), abs_mono (n := 1) (by decide) (by omega)⟩, fun c c0 wc1 wc2 vc => ?_⟩
  have hc0 : cutR L ls (val (0, 1)) = sumQ (rQ L) ls := by
    unfold cutR
    rw [sumQ_sub]
    have : sumQ (fun l => gQ l (val (0, 1))) ls = sumQ (fun l => (fun _ => (0 : Rat)) l * 0) ls := sumQ_eq fun l hl => by
      have h0 : clipQ l (val (0, 1)) = (l.b : Rat) := by
        rw [val_int]
        exact if_pos (by exact_mod_cast (v.each l hl).b0)
      unfold gQ
      rw [h0]
      grind
    rw [this, sumQ_mul (fun _ => (0 : Rat))]
    grind
  refine same_of ra (ba.2.2 |> fun h => abs_mono h (by omega)) (ba.s1 (by omega)) c0 wc1.sz wc2.sz (by rw [va, vc, hc0]) ?_
  simp [-Prod.forall, -Prod.exists]
  refine hB _ ?_
  clear hB
  refine seq_gen fun B hB => ?_
  have s1 : Sz 1 := .small (by omega) (by omega)
  have sw : Sz (wholeI ls) := .small (by omega) (by omega)
  simp [-Prod.forall, -Prod.exists, at20, frD, sp__law_plus]
  refine ⟨⟨sw, s1, ba.neg.s1 (by omega), ba.s2 (by omega)⟩, ?_⟩
  have ww : W 13 (wholeI ls) := by
    have : (2 : Nat) ^ 13 = 8192 := by decide
    unfold W
    omega
  have w1 : W 1 1 := by unfold W; decide
  have sm := W.sum (x := (wholeI ls, 1)) (y := (-a.1, a.2)) ww w1 (show W 24 (-a.1) from ba.neg.1) (show W 10 a.2 from ba.2.2) (k := 30) (by omega) (by omega)
  have a20 := ra.1
  refine same_of rb (abs_mono bb.2.2 (by omega)) (bb.s1 (by omega)) (Int.mul_pos (by omega) a20) sm.1.sz sm.2.sz ?_ ?_
  · rw [val_sumF (x := (wholeI ls, 1)) (y := (-a.1, a.2)) (by show (0 : Int) < 1; omega) a20, val_neg, val_int, va, vb]
    have e1 : ((wholeI ls : Int) : Rat) = sumQ (fun l => ((l.w : Int) : Rat)) ls := sum_cast _ ls
    have e3 : sumQ (fun l => ((l.w : Int) : Rat)) ls + -sumQ (rQ L) ls = sumQ (fun l => ((l.w : Int) : Rat) - rQ L l) ls := by
      rw [sumQ_sub (fun l => ((l.w : Int) : Rat)) (rQ L)]
      grind
    rw [e1, e3]
    exact sumQ_eq fun l hl => by
      have hL : (0 : Rat) < (L : Rat) := by exact_mod_cast (by omega : 0 < L)
      unfold sQ rQ
      grind
  simp [-Prod.forall, -Prod.exists]
  refine hB _ ?_
  clear hB
  refine seq_gen fun B hB => ?_
  simp [-Prod.forall, -Prod.exists, wFor]
  refine forL_inv (fun i ρ => ∃ (cs3 : List D) (c7 c8 c9 c10 c11 : Slot), ρ = [.dat (.list (ns.map .int)), .dat (.int k), .own cs3, .dat (.int L), .dat (.tuple (ls.map ldD)), .dat (.tuple [.tuple [.int a.1, .int a.2], .tuple [.int b.1, .int b.2]]), .dat (.int (wholeI ls)), c7, c8, c9, c10, c11] ∧ Dc (40 + 2 * i) cs3)
    ⟨_, _, _, _, _, _, rfl, hd2.mono (by omega)⟩ ?_ ?_
  · rintro i d ρ hd ⟨cs3, c7, c8, c9, c10, c11, rfl, hd3⟩ N hN
    obtain ⟨r, rfl, r0, r4, ri⟩ := rng_mem hd
    simp [-Prod.forall, -Prod.exists, sp__law_roll]
    refine ⟨_, hd3, by omega, fun u cs4 u0 u5 hd4 => ?_⟩
    have wL : W 8 L := by
      have : (2 : Nat) ^ 8 = 256 := by decide
      unfold W
      omega
    have wu : W 3 (1 + u) := by
      have : (2 : Nat) ^ 3 = 8 := by decide
      unfold W
      omega
    have lu0 : 0 ≤ L * (1 + u) := Int.mul_nonneg (by omega) (by omega)
    have lu1 : L * (1 + u) ≤ 240 * 5 := Int.mul_le_mul b2 (by omega) (by omega) (by omega)
    refine ⟨⟨wL.sz, wu.sz⟩, _, hd4, by omega, by omega, by omega, fun t cs5 t0 t1 hd5 => ?_⟩
    simp [-Prod.forall, -Prod.exists, sp__law_lowest]
    refine ⟨⟨t0, by omega, by omega⟩, ?_⟩
    obtain ⟨vp, bp⟩ := drawn_place (L := L) (p := t) (q := 1 + u) t0 (by omega) (by omega) (by omega) b2 b1
    generalize frac t (1 + u) = pl at *
    obtain ⟨p1, p2⟩ := pl
    simp [-Prod.forall, -Prod.exists, sp_bending]
    have szp : Sz p2 := bp.s2 (by omega)
    refine beamOr_ok v ⟨szp, placeOr_ok (q := (p1, p2)) vp ⟨11, 3, ⟨bp, by omega, by omega⟩, fun z rz bz _ vz => ?_⟩⟩
    simp [-Prod.forall, -Prod.exists, sp__law_bent]
    refine ⟨ls, ⟨rfl, v, abs_mono bp.1 (by omega), bp.2.1, abs_mono bp.2.2 (by omega)⟩, fun m m0 wm1 wm2 vm => ?_⟩
    refine same_of rz (abs_mono bz.2.2 (by omega)) (bz.s1 (by omega)) m0 wm1.sz wm2.sz (by rw [vz, vm]) ?_
    simp [-Prod.forall, -Prod.exists, sp_cut_force]
    refine beamOr_ok v ⟨szp, placeOr_ok (q := (p1, p2)) vp ⟨11, 3, ⟨bp, by omega, by omega⟩, fun z rz bz vz => ?_⟩⟩
    simp [-Prod.forall, -Prod.exists, sp__law_cut]
    refine ⟨ls, ⟨rfl, v, abs_mono bp.1 (by omega), bp.2.1, abs_mono bp.2.2 (by omega)⟩, fun m m0 wm1 wm2 vm => ?_⟩
    refine same_of rz (abs_mono bz.2.2 (by omega)) (bz.s1 (by omega)) m0 wm1.sz wm2.sz (by rw [vz, vm]) ?_
    simp [-Prod.forall, -Prod.exists]
    exact hN _ ⟨_, _, _, _, _, _, rfl, hd5.mono (by omega)⟩
  · rintro ρ ⟨cs3, c7, c8, c9, c10, c11, rfl, hd3⟩
    refine hB _ ?_
    simp [-Prod.forall, -Prod.exists, sp__law_most_right]
    refine ⟨⟨ls, rfl, v⟩, ?_⟩
    exact hN _ _ _ _ _ _ _ _ _ _ _
/-- a beam of the law's last rows -/
def ld1 : Ld := ⟨0, 10, 6⟩
theorem vb1 : Vb 10 [ld1] := ⟨by omega, by omega, by decide, fun l hl => by
  rcases List.mem_cons.mp hl with rfl | z
  · exact ⟨by decide, by decide, by decide, by decide, by decide⟩
  · exact absurd z List.not_mem_nil⟩
theorem vb2 : Vb 9 [⟨0, 1, 2⟩, ⟨8, 9, 2⟩] := ⟨by omega, by omega, by decide, fun l hl => by
  rcases List.mem_cons.mp hl with rfl | z
  · exact ⟨by decide, by decide, by decide, by decide, by decide⟩
  · rcases List.mem_cons.mp z with rfl | z
    · exact ⟨by decide, by decide, by decide, by decide, by decide⟩
    · exact absurd z List.not_mem_nil⟩
theorem red_int (k : Int) : Red (k, 1) := ⟨by show (0 : Int) < 1; omega, Int.gcd_one_right k⟩
theorem andV_gen {wa wb : WE} {x : EX} {ρ : Env} {P : D → Env → Prop} (h : ∀ Q : D → Env → Prop, Q (.bool true) ρ → wa x ρ Q) (h2 : wb x ρ P) : wAndV wa wb x ρ P := h _ (by
  show if true = true then wb x ρ P else P (.bool true) ρ
  rw [if_pos rfl]
  exact h2)
theorem ret_gen {w : WE} {x : EX} {E : WEnds} {ρ : Env} (h : w x ρ E.rt) : wRet w x E ρ := h
theorem eqv_true {b : Bool} (e : b = true) {Q : D → Env → Prop} {ρ : Env} (h : Q (.bool true) ρ) : Q (.bool b) ρ := by
  rw [e]
  exact h
theorem place1 {q : Fr} (m : MB 10 [ld1] q) : q = (5, 1) := by
  refine m.red.eq (red_int 5) ?_
  rw [val_int]
  have h := m.cut (by simp [-Prod.forall, -Prod.exists])
  have e : cutR 10 [ld1] (val q) = rQ 10 ld1 - gQ ld1 (val q) + 0 := rfl
  have r3 : rQ 10 ld1 = 3 := by decide +kernel
  rw [e, r3] at h
  unfold gQ clipQ ld1 at h
  have c0 : ((0 : Int) : Rat) = 0 := rfl
  have c10 : ((10 : Int) : Rat) = 10 := rfl
  have c6 : ((6 : Int) : Rat) = 6 := rfl
  have c5 : ((5 : Int) : Rat) = 5 := rfl
  simp only [c0, c10, c6] at h
  rw [c5]
  split at h
  · grind
  · split at h <;> grind
theorem place2 {q : Fr} (m : MB 9 [⟨0, 1, 2⟩, ⟨8, 9, 2⟩] q) : q = (1, 1) := by
  refine m.red.eq (red_int 1) ?_
  rw [val_int]
  have h := m.cut (by simp [-Prod.forall, -Prod.exists])
  have hp := (val_pos m.red.1).mpr (m.pos (by simp [-Prod.forall, -Prod.exists]))
  have c1 : ((1 : Int) : Rat) = 1 := rfl
  rw [c1]
  have le : val q ≤ 1 := by
    rcases Decidable.em (val q ≤ 1) with z | z
    · exact z
    · exfalso
      have := m.mks (by simp [-Prod.forall, -Prod.exists]) 1 (by unfold marksI; simp [-Prod.forall, -Prod.exists]) (by rw [c1]; exact Rat.not_le.mp z)
      rw [c1] at this
      have k : cutR 9 [⟨0, 1, 2⟩, ⟨8, 9, 2⟩] 1 = 0 := by decide +kernel
      rw [k] at this
      grind
  have e : cutR 9 [⟨0, 1, 2⟩, ⟨8, 9, 2⟩] (val q) = rQ 9 ⟨0, 1, 2⟩ - gQ ⟨0, 1, 2⟩ (val q) + (rQ 9 ⟨8, 9, 2⟩ - gQ ⟨8, 9, 2⟩ (val q) + 0) := rfl
  have r1 : rQ 9 ⟨0, 1, 2⟩ + rQ 9 ⟨8, 9, 2⟩ = 2 := by decide +kernel
  have g2 : gQ ⟨8, 9, 2⟩ (val q) = 0 := by
    have : clipQ ⟨8, 9, 2⟩ (val q) = ((8 : Int) : Rat) := if_pos (by
      show val q ≤ ((8 : Int) : Rat)
      have c8 : ((8 : Int) : Rat) = 8 := rfl
      rw [c8]
      grind)
    unfold gQ
    rw [this]
    grind
  have g1 : gQ ⟨0, 1, 2⟩ (val q) = 2 * val q := by
    have c0 : ((0 : Int) : Rat) = 0 := rfl
    have c2 : ((2 : Int) : Rat) = 2 := rfl
    unfold gQ clipQ
    simp only [c0, c1, c2]
    split
    · grind
    · split <;> grind
  rw [e, g1, g2] at h
  grind
theorem cons_ref {cn : Str} {w : WE} {ws : WL} {x : EX} {ρ : Env} {P : List D → Env → Prop} (s : Str) (h : ∀ (X : EX), X cn s → ∀ Q, w X (hideE ρ) Q) (hP : ws x ρ fun ds ρ2 => P (.str s :: ds) ρ2) : wCons (wRef cn w) ws x ρ P := h _ ⟨rfl, hP⟩ _
theorem asg_lst {i : Nat} {ws : WL} {x : EX} {E : WEnds} {ρ : Env} (h : ws x ρ fun ds ρ1 => ds.length ≤ 100000 ∧ E.nx (ρ1.set i (.dat (.list ds)))) : wAsg i (wFrz (wLst ws)) x E ρ := h
theorem ok_law_rest {ns : List Int} {c1 c2 c3 c4 c5 c6 c7 c8 c9 c10 c11 : Slot} : wl_rest exF endL (lawEnv ns c1 c2 c3 c4 c5 c6 c7 c8 c9 c10 c11) := by
  unfold wl_rest lawEnv
  refine seq_gen fun B hB => ?_
  have g0 : goodL (.int 0) = false := by decide +kernel
  have g241 : goodL (.int 241) = false := by decide +kernel
  have g5 : goodL (.int 5) = true := by decide +kernel
  have v5 : Vb 5 [] := ⟨by omega, by omega, by decide, fun l hl => absurd hl List.not_mem_nil⟩
  have s5 : ∀ {P : Prop}, P → (Sz 1 ∧ P) := fun h => ⟨.small (by omega) (by omega), h⟩
  refine asg_lst ?_
  refine cons_ref "length" (fun X hX Q => ?_) (cons_ref "length" (fun X hX Q => ?_) (cons_ref "lying" (fun X hX Q => ?_) (cons_ref "lying" (fun X hX Q => ?_) (cons_ref "lying" (fun X hX Q => ?_)
    (cons_ref "lying" (fun X hX Q => ?_) (cons_ref "place" (fun X hX Q => ?_) (cons_ref "place" (fun X hX Q => ?_) (cons_ref "place" (fun X hX Q => ?_) (cons_ref "lying" (fun X hX Q => ?_) ?_)))))))))
  · simp [-Prod.forall, -Prod.exists, sp_end_forces]
    exact beam_bad_l g0 hX
  · simp [-Prod.forall, -Prod.exists, sp_end_forces]
    exact beam_bad_l g241 hX
  · simp [-Prod.forall, -Prod.exists, sp_end_forces]
    exact beam_bad_y g5 (by decide +kernel) hX
  · simp [-Prod.forall, -Prod.exists, sp_most_bent]
    exact beam_bad_y g5 (by decide +kernel) hX
  · simp [-Prod.forall, -Prod.exists, sp_most_bent]
    exact beam_bad_y g5 (by decide +kernel) hX
  · simp [-Prod.forall, -Prod.exists, sp_greatest_bending]
    exact beam_bad_y g5 (by decide +kernel) hX
  · simp [-Prod.forall, -Prod.exists, sp_bending]
    exact beamOr_ok (ls := []) v5 ⟨.small (by omega) (by omega), place_bad (by decide +kernel) hX⟩
  · simp [-Prod.forall, -Prod.exists, sp_bending]
    exact beamOr_ok (ls := []) v5 ⟨.small (by omega) (by omega), place_bad (by decide +kernel) hX⟩
  · simp [-Prod.forall, -Prod.exists, sp_cut_force]
    exact beamOr_ok (ls := []) v5 ⟨.small (by omega) (by omega), place_bad (by decide +kernel) hX⟩
  · simp [-Prod.forall, -Prod.exists, sp_cut_force]
    exact beam_bad_y g5 (by decide +kernel) hX
  simp [-Prod.forall, -Prod.exists]
  refine hB _ ?_
  clear hB
  refine seq_gen fun B hB => ?_
  simp [-Prod.forall, -Prod.exists]
  have t1 : SeqAt.shaped (.list [.str "length", .str "length", .str "lying", .str "lying", .str "lying", .str "lying", .str "place", .str "place", .str "place", .str "lying"]) = true := by decide +kernel
  have t2 : PyData.eqv (.list [.str "length", .str "length", .str "lying", .str "lying", .str "lying", .str "lying", .str "place", .str "place", .str "place", .str "lying"]) (.list [.str "length", .str "length", .str "lying", .str "lying", .str "lying", .str "lying", .str "place", .str "place", .str "place", .str "lying"]) = true := by decide +kernel
  refine ⟨t1, ?_⟩
  rw [t2]
  simp [-Prod.forall, -Prod.exists]
  refine hB _ ?_
  clear hB t1 t2
  refine seq_gen fun B hB => ?_
  simp [-Prod.forall, -Prod.exists, sp_end_forces]
  refine beamOr_ok (ls := [ld1]) vb1 fun a b ra rb _ _ _ _ va vb => ?_
  have ea : a = (3, 1) := ra.eq (red_int 3) (by
    rw [va, val_int]
    show rQ 10 ld1 + 0 = _
    unfold rQ ld1
    decide +kernel)
  have eb : b = (3, 1) := rb.eq (red_int 3) (by
    rw [vb, val_int]
    show sQ 10 ld1 + 0 = _
    unfold sQ ld1
    decide +kernel)
  subst ea eb
  refine ⟨⟨by decide +kernel, by decide +kernel⟩, by decide +kernel, hB _ ?_⟩
  clear hB
  refine ret_gen ?_
  refine andV_gen (fun Q hQ => ?_) (andV_gen (fun Q hQ => ?_) ?_)
  · simp [-Prod.forall, -Prod.exists, sp_most_bent]
    refine beamOr_ok (ls := [ld1]) vb1 fun q mq => ?_
    rw [place1 mq]
    exact ⟨⟨by decide +kernel, by decide +kernel⟩, eqv_true (by decide +kernel) hQ⟩
  · simp [-Prod.forall, -Prod.exists, sp_greatest_bending]
    refine beamOr_ok (ls := [ld1]) vb1 fun q z mq rz _ _ vz => ?_
    have ez : z = (15, 2) := rz.eq ⟨by decide, by decide⟩ (by
      rw [vz, place1 mq, val_int]
      decide +kernel)
    rw [ez]
    exact ⟨⟨by decide +kernel, by decide +kernel⟩, eqv_true (by decide +kernel) hQ⟩
  · simp [-Prod.forall, -Prod.exists, sp_most_bent]
    refine beamOr_ok (ls := [⟨0, 1, 2⟩, ⟨8, 9, 2⟩]) vb2 fun q mq => ?_
    rw [place2 mq]
    exact ⟨⟨by decide +kernel, by decide +kernel⟩, by decide +kernel⟩
theorem ok_law {ns : List Int} (h : Scr ns) : w_law exF endL (env0 ["script", "spot", "dice", "length", "lying", "ends", "whole", "one", "turn", "under", "place", "told"] [.list (ns.map .int)]) := by
  obtain ⟨hl, _⟩ := h
  simp [-Prod.forall, -Prod.exists, w_law, wFor]
  refine ⟨⟨by omega, by split <;> (try split) <;> omega⟩, ?_⟩
  refine forL_inv (fun i ρ => ∃ c1 c2 c3 c4 c5 c6 c7 c8 c9 c10 c11 : Slot, ρ = lawEnv ns c1 c2 c3 c4 c5 c6 c7 c8 c9 c10 c11) ⟨_, _, _, _, _, _, _, _, _, _, _, rfl⟩ ?_ ?_
  · rintro i d ρ hd ⟨c1, c2, c3, c4, c5, c6, c7, c8, c9, c10, c11, rfl⟩ N hN
    obtain ⟨k, rfl, k0, k8, _⟩ := rng_mem hd
    refine ok_law_body hl k0 ?_ (fun c1 c2 c3 c4 c5 c6 c7 c8 c9 c10 c11 => hN _ ⟨c1, c2, c3, c4, c5, c6, c7, c8, c9, c10, c11, rfl⟩)
    split at k8 <;> (try split at k8) <;> omega
  · rintro ρ ⟨c1, c2, c3, c4, c5, c6, c7, c8, c9, c10, c11, rfl⟩
    exact ok_law_rest
end Fz

set_option maxRecDepth 100000
set_option maxHeartbeats 8000000
namespace Fz
namespace R28
open PySem PySem.Spec L2
def top (i : Nat) : Stmt := PySem.Challenge.pw_stackfirm_k28_whole_beams_that_bend.main.body.getD i (.Pass ⟨0, 0, 0, 0⟩)
abbrev s_demand : Stmt := top 4
abbrev s_is_in : Stmt := top 5
abbrev s_is_integer : Stmt := top 6
abbrev s_is_tuple : Stmt := top 7
abbrev s_divisor_of : Stmt := top 8
abbrev s_fraction : Stmt := top 9
abbrev s_is_fraction : Stmt := top 10
abbrev s_plus : Stmt := top 11
abbrev s_compare : Stmt := top 12
abbrev s_is_lying : Stmt := top 17
abbrev s_demand_beam : Stmt := top 18
abbrev s_demand_place : Stmt := top 19
abbrev s_end_forces : Stmt := top 20
abbrev s_part_before : Stmt := top 21
abbrev s_cut_force : Stmt := top 22
abbrev s_bending : Stmt := top 23
abbrev s_most_bent : Stmt := top 24
abbrev s_greatest_bending : Stmt := top 25
abbrev s__law_dice : Stmt := top 27
abbrev s__law_roll : Stmt := top 28
abbrev s__law_pick : Stmt := top 29
abbrev s__law_refused : Stmt := top 30
abbrev s__law_plus : Stmt := top 31
abbrev s__law_same : Stmt := top 32
abbrev s__law_bent : Stmt := top 33
abbrev s__law_cut : Stmt := top 34
abbrev s__law_drawn : Stmt := top 35
abbrev s__law_lowest : Stmt := top 36
abbrev s__law_most_right : Stmt := top 37
abbrev s_law : Stmt := top 38
abbrev N_demand : List Str := ["is_good", "name"]
theorem sc_demand : FnScope N_demand ["is_good", "name"] (defScope s_demand) := ⟨rfl, rfl, rfl, by decide +kernel, rfl, by decide +kernel, by decide +kernel⟩
abbrev N_is_in : List Str := ["value", "low", "high"]
theorem sc_is_in : FnScope N_is_in ["value", "low", "high"] (defScope s_is_in) := ⟨rfl, rfl, rfl, by decide +kernel, rfl, by decide +kernel, by decide +kernel⟩
abbrev N_is_integer : List Str := ["value"]
theorem sc_is_integer : FnScope N_is_integer ["value"] (defScope s_is_integer) := ⟨rfl, rfl, rfl, by decide +kernel, rfl, by decide +kernel, by decide +kernel⟩
abbrev N_is_tuple : List Str := ["value", "least", "most"]
theorem sc_is_tuple : FnScope N_is_tuple ["value", "least", "most"] (defScope s_is_tuple) := ⟨rfl, rfl, rfl, by decide +kernel, rfl, by decide +kernel, by decide +kernel⟩
abbrev N_divisor_of : List Str := ["one", "other"]
theorem sc_divisor_of : FnScope N_divisor_of ["one", "other"] (defScope s_divisor_of) := ⟨rfl, rfl, rfl, by decide +kernel, rfl, by decide +kernel, by decide +kernel⟩
abbrev N_fraction : List Str := ["part", "whole", "divisor"]
theorem sc_fraction : FnScope N_fraction ["part", "whole"] (defScope s_fraction) := ⟨rfl, rfl, rfl, by decide +kernel, rfl, by decide +kernel, by decide +kernel⟩
abbrev N_is_fraction : List Str := ["value", "one"]
theorem sc_is_fraction : FnScope N_is_fraction ["value"] (defScope s_is_fraction) := ⟨rfl, rfl, rfl, by decide +kernel, rfl, by decide +kernel, by decide +kernel⟩
abbrev N_plus : List Str := ["one", "other"]
theorem sc_plus : FnScope N_plus ["one", "other"] (defScope s_plus) := ⟨rfl, rfl, rfl, by decide +kernel, rfl, by decide +kernel, by decide +kernel⟩
abbrev N_compare : List Str := ["one", "other", "off"]
theorem sc_compare : FnScope N_compare ["one", "other"] (defScope s_compare) := ⟨rfl, rfl, rfl, by decide +kernel, rfl, by decide +kernel, by decide +kernel⟩
abbrev N_is_lying : List Str := ["value", "length"]
theorem sc_is_lying : FnScope N_is_lying ["value", "length"] (defScope s_is_lying) := ⟨rfl, rfl, rfl, by decide +kernel, rfl, by decide +kernel, by decide +kernel⟩
abbrev N_demand_beam : List Str := ["length", "lying", "one"]
theorem sc_demand_beam : FnScope N_demand_beam ["length", "lying"] (defScope s_demand_beam) := ⟨rfl, rfl, rfl, by decide +kernel, rfl, by decide +kernel, by decide +kernel⟩
abbrev N_demand_place : List Str := ["length", "place"]
theorem sc_demand_place : FnScope N_demand_place ["length", "place"] (defScope s_demand_place) := ⟨rfl, rfl, rfl, by decide +kernel, rfl, by decide +kernel, by decide +kernel⟩
abbrev N_end_forces : List Str := ["length", "lying", "far", "begin", "end", "weight", "whole"]
theorem sc_end_forces : FnScope N_end_forces ["length", "lying"] (defScope s_end_forces) := ⟨rfl, rfl, rfl, by decide +kernel, rfl, by decide +kernel, by decide +kernel⟩
abbrev N_part_before : List Str := ["one", "place", "begin", "end", "weight", "last", "top", "bottom", "own", "middle"]
theorem sc_part_before : FnScope N_part_before ["one", "place"] (defScope s_part_before) := ⟨rfl, rfl, rfl, by decide +kernel, rfl, by decide +kernel, by decide +kernel⟩
abbrev N_cut_force : List Str := ["length", "lying", "place", "found", "one", "own"]
theorem sc_cut_force : FnScope N_cut_force ["length", "lying", "place"] (defScope s_cut_force) := ⟨rfl, rfl, rfl, by decide +kernel, rfl, by decide +kernel, by decide +kernel⟩
abbrev N_bending : List Str := ["length", "lying", "place", "first", "found", "one", "own"]
theorem sc_bending : FnScope N_bending ["length", "lying", "place"] (defScope s_bending) := ⟨rfl, rfl, rfl, by decide +kernel, rfl, by decide +kernel, by decide +kernel⟩
abbrev N_most_bent : List Str := ["length", "lying", "marks", "one", "begin", "end", "first", "last", "fall", "part"]
theorem sc_most_bent : FnScope N_most_bent ["length", "lying"] (defScope s_most_bent) := ⟨rfl, rfl, rfl, by decide +kernel, rfl, by decide +kernel, by decide +kernel⟩
abbrev N_greatest_bending : List Str := ["length", "lying"]
theorem sc_greatest_bending : FnScope N_greatest_bending ["length", "lying"] (defScope s_greatest_bending) := ⟨rfl, rfl, rfl, by decide +kernel, rfl, by decide +kernel, by decide +kernel⟩
abbrev N__law_dice : List Str := ["script", "spot", "own", "mixed", "cell"]
theorem sc__law_dice : FnScope N__law_dice ["script", "spot"] (defScope s__law_dice) := ⟨rfl, rfl, rfl, by decide +kernel, rfl, by decide +kernel, by decide +kernel⟩
abbrev N__law_roll : List Str := ["dice", "total", "found"]
theorem sc__law_roll : FnScope N__law_roll ["dice", "total"] (defScope s__law_roll) := ⟨rfl, rfl, rfl, by decide +kernel, rfl, by decide +kernel, by decide +kernel⟩
abbrev N__law_pick : List Str := ["dice", "things"]
theorem sc__law_pick : FnScope N__law_pick ["dice", "things"] (defScope s__law_pick) := ⟨rfl, rfl, rfl, by decide +kernel, rfl, by decide +kernel, by decide +kernel⟩
abbrev N__law_refused : List Str := ["call", "e"]
theorem sc__law_refused : FnScope N__law_refused ["call"] (defScope s__law_refused) := ⟨rfl, rfl, rfl, by decide +kernel, rfl, by decide +kernel, by decide +kernel⟩
abbrev N__law_plus : List Str := ["one", "other"]
theorem sc__law_plus : FnScope N__law_plus ["one", "other"] (defScope s__law_plus) := ⟨rfl, rfl, rfl, by decide +kernel, rfl, by decide +kernel, by decide +kernel⟩
abbrev N__law_same : List Str := ["told", "due", "one", "other", "turn"]
theorem sc__law_same : FnScope N__law_same ["told", "due"] (defScope s__law_same) := ⟨rfl, rfl, rfl, by decide +kernel, rfl, by decide +kernel, by decide +kernel⟩
abbrev N__law_bent : List Str := ["length", "lying", "place", "part", "whole", "total", "begin", "end", "weight", "cut", "ahead", "behind"]
theorem sc__law_bent : FnScope N__law_bent ["length", "lying", "place"] (defScope s__law_bent) := ⟨rfl, rfl, rfl, by decide +kernel, rfl, by decide +kernel, by decide +kernel⟩
abbrev N__law_cut : List Str := ["length", "lying", "place", "part", "whole", "total", "begin", "end", "weight", "cut", "every", "behind"]
theorem sc__law_cut : FnScope N__law_cut ["length", "lying", "place"] (defScope s__law_cut) := ⟨rfl, rfl, rfl, by decide +kernel, rfl, by decide +kernel, by decide +kernel⟩
abbrev N__law_drawn : List Str := ["dice", "length", "lying", "turn", "begin"]
theorem sc__law_drawn : FnScope N__law_drawn ["dice"] (defScope s__law_drawn) := ⟨rfl, rfl, rfl, by decide +kernel, rfl, by decide +kernel, by decide +kernel⟩
abbrev N__law_lowest : List Str := ["part", "whole", "one", "other", "turn"]
theorem sc__law_lowest : FnScope N__law_lowest ["part", "whole"] (defScope s__law_lowest) := ⟨rfl, rfl, rfl, by decide +kernel, rfl, by decide +kernel, by decide +kernel⟩
abbrev N__law_most_right : List Str := ["length", "lying", "place", "most", "marks", "one", "mark", "step", "other"]
theorem sc__law_most_right : FnScope N__law_most_right ["length", "lying"] (defScope s__law_most_right) := ⟨rfl, rfl, rfl, by decide +kernel, rfl, by decide +kernel, by decide +kernel⟩
abbrev N_law : List Str := ["script", "spot", "dice", "length", "lying", "ends", "whole", "one", "turn", "under", "place", "told"]
theorem sc_law : FnScope N_law ["script"] (defScope s_law) := ⟨rfl, rfl, rfl, by decide +kernel, rfl, by decide +kernel, by decide +kernel⟩
structure Top (P : Program) (K : PySem.W.Frag) (mg : Str → Option Value) : Prop where
  b_abs : mg "abs" = none
  b_all : mg "all" = none
  b_bool : mg "bool" = none
  b_int : mg "int" = none
  b_isinstance : mg "isinstance" = none
  b_len : mg "len" = none
  b_max : mg "max" = none
  b_min : mg "min" = none
  b_range : mg "range" = none
  b_set : mg "set" = none
  b_sorted : mg "sorted" = none
  b_sum : mg "sum" = none
  b_tuple : mg "tuple" = none
  b_zip : mg "zip" = none
  c_MOST_LENGTH : ∃ t, mg "MOST_LENGTH" = some (.int 240 t)
  c_MOST_LYING : ∃ t, mg "MOST_LYING" = some (.int 6 t)
  c_MOST_WEIGHT : ∃ t, mg "MOST_WEIGHT" = some (.int 1000 t)
  x_BadArgument : ∃ C fI cc cda, ErrTxt P K mg "BadArgument" C fI cc cda
  d_demand : TopD K mg "demand" s_demand
  d_is_in : TopD K mg "is_in" s_is_in
  d_is_integer : TopD K mg "is_integer" s_is_integer
  d_is_tuple : TopD K mg "is_tuple" s_is_tuple
  d_divisor_of : TopD K mg "divisor_of" s_divisor_of
  d_fraction : TopD K mg "fraction" s_fraction
  d_is_fraction : TopD K mg "is_fraction" s_is_fraction
  d_plus : TopD K mg "plus" s_plus
  d_compare : TopD K mg "compare" s_compare
  d_is_lying : TopD K mg "is_lying" s_is_lying
  d_demand_beam : TopD K mg "demand_beam" s_demand_beam
  d_demand_place : TopD K mg "demand_place" s_demand_place
  d_end_forces : TopD K mg "end_forces" s_end_forces
  d_part_before : TopD K mg "part_before" s_part_before
  d_cut_force : TopD K mg "cut_force" s_cut_force
  d_bending : TopD K mg "bending" s_bending
  d_most_bent : TopD K mg "most_bent" s_most_bent
  d_greatest_bending : TopD K mg "greatest_bending" s_greatest_bending
  d__law_dice : TopD K mg "_law_dice" s__law_dice
  d__law_roll : TopD K mg "_law_roll" s__law_roll
  d__law_pick : TopD K mg "_law_pick" s__law_pick
  d__law_refused : TopD K mg "_law_refused" s__law_refused
  d__law_plus : TopD K mg "_law_plus" s__law_plus
  d__law_same : TopD K mg "_law_same" s__law_same
  d__law_bent : TopD K mg "_law_bent" s__law_bent
  d__law_cut : TopD K mg "_law_cut" s__law_cut
  d__law_drawn : TopD K mg "_law_drawn" s__law_drawn
  d__law_lowest : TopD K mg "_law_lowest" s__law_lowest
  d__law_most_right : TopD K mg "_law_most_right" s__law_most_right
section
variable {P : Program} {w : World} {K : PySem.W.Frag} {mg : Str → Option Value} {base : Heap}
theorem fk_demand (T : Top P K mg) {f : Addr} {fd : FuncData} (F : FunD K "demand" "demand" (defArgs s_demand) (defBody s_demand) (defScope s_demand) [] [] f fd) : FnOk P w K mg base (L2.CX P w) 3 f fd ["is_good", "name"] (spF K mg sp_demand) :=
  fn_ok F sc_demand len_demand fun cdv A outer s H E ds Pd ex g hr hx h => ⟨w_demand,
    hss_one (hs_if (ht_not (ht_tru (he_pk (he_var 0)))) (hss_one (hs_raise ⟨T.x_BadArgument⟩ hr hx rfl (he_var 1))) (hss_nil)),
    ok_demand h⟩
theorem cal_demand (T : Top P K mg) : Cal P w K mg base "demand" 3 ["is_good", "name"] (spF K mg sp_demand) := cal_of T.d_demand (fun F => fk_demand T F) (fun _ _ _ _ _ _ us hl => match us, hl with | [_, _], _ => rfl)
theorem fk_is_in (T : Top P K mg) {f : Addr} {fd : FuncData} (F : FunD K "is_in" "is_in" (defArgs s_is_in) (defBody s_is_in) (defScope s_is_in) [] [] f fd) : FnOk P w K mg base (L2.CX P w) 1 f fd ["value", "low", "high"] (spF K mg sp_is_in) :=
  fn_ok F sc_is_in len_is_in fun cdv A outer s H E ds Pd ex g hr hx h => ⟨w_is_in,
    hss_one (hs_ret (he_and (he_isi (n := "int") (.inl rfl) rfl T.b_isinstance rfl T.b_int (by decide +kernel) (he_var 0)) (he_and (he_not (he_pk (he_isi (n := "bool") (.inr (.inl rfl)) rfl T.b_isinstance rfl T.b_bool (by decide +kernel) (he_var 0)))) (pe_one (he_leLe hr (he_var 1) (he_var 0) (he_var 2)))))),
    ok_is_in h⟩
theorem cal_is_in (T : Top P K mg) : Cal P w K mg base "is_in" 1 ["value", "low", "high"] (spF K mg sp_is_in) := cal_of T.d_is_in (fun F => fk_is_in T F) (fun _ _ _ _ _ _ us hl => match us, hl with | [_, _, _], _ => rfl)
theorem fk_is_integer (T : Top P K mg) {f : Addr} {fd : FuncData} (F : FunD K "is_integer" "is_integer" (defArgs s_is_integer) (defBody s_is_integer) (defScope s_is_integer) [] [] f fd) : FnOk P w K mg base (L2.CX P w) 1 f fd ["value"] (spF K mg sp_is_integer) :=
  fn_ok F sc_is_integer len_is_integer fun cdv A outer s H E ds Pd ex g hr hx h => ⟨w_is_integer,
    hss_one (hs_ret (he_and (he_isi (n := "int") (.inl rfl) rfl T.b_isinstance rfl T.b_int (by decide +kernel) (he_var 0)) (pe_one (he_not (he_pk (he_isi (n := "bool") (.inr (.inl rfl)) rfl T.b_isinstance rfl T.b_bool (by decide +kernel) (he_var 0))))))),
    ok_is_integer h⟩
theorem cal_is_integer (T : Top P K mg) : Cal P w K mg base "is_integer" 1 ["value"] (spF K mg sp_is_integer) := cal_of T.d_is_integer (fun F => fk_is_integer T F) (fun _ _ _ _ _ _ us hl => match us, hl with | [_], _ => rfl)
theorem fk_is_tuple (T : Top P K mg) {f : Addr} {fd : FuncData} (F : FunD K "is_tuple" "is_tuple" (defArgs s_is_tuple) (defBody s_is_tuple) (defScope s_is_tuple) [] [] f fd) : FnOk P w K mg base (L2.CX P w) 1 f fd ["value", "least", "most"] (spF K mg sp_is_tuple) :=
  fn_ok F sc_is_tuple len_is_tuple fun cdv A outer s H E ds Pd ex g hr hx h => ⟨w_is_tuple,
    hss_one (hs_ret (he_and (he_isi (n := "tuple") (.inr (.inr rfl)) rfl T.b_isinstance rfl T.b_tuple (by decide +kernel) (he_var 0)) (pe_one (he_leLe hr (he_var 1) (he_fnB call_len_seq bu_len rfl T.b_len (by decide +kernel) (he_pk (he_var 0))) (he_var 2))))),
    ok_is_tuple h⟩
theorem cal_is_tuple (T : Top P K mg) : Cal P w K mg base "is_tuple" 1 ["value", "least", "most"] (spF K mg sp_is_tuple) := cal_of T.d_is_tuple (fun F => fk_is_tuple T F) (fun _ _ _ _ _ _ us hl => match us, hl with | [_, _, _], _ => rfl)
theorem fk_divisor_of (T : Top P K mg) {f : Addr} {fd : FuncData} (F : FunD K "divisor_of" "divisor_of" (defArgs s_divisor_of) (defBody s_divisor_of) (defScope s_divisor_of) [] [] f fd) : FnOk P w K mg base (L2.CX P w) 1 f fd ["one", "other"] (spF K mg sp_divisor_of) :=
  fn_ok F sc_divisor_of len_divisor_of fun cdv A outer s H E ds Pd ex g hr hx h => ⟨w_divisor_of,
    hss_cons (hs_par 0 1 rfl sc_divisor_of.nd (by decide) (ha_cons (he_fnB call_abs bu_abs rfl T.b_abs (by decide +kernel) (he_pk (he_var 0))) (ha_cons (he_fnB call_abs bu_abs rfl T.b_abs (by decide +kernel) (he_pk (he_var 1))) (ha_nil))))
    (hss_cons (hs_while (passes_of rfl) (ht_ne hr (he_var 1) (he_pk (he_int))) (hss_one (hs_par 0 1 rfl sc_divisor_of.nd (by decide) (ha_cons (he_var 1) (ha_cons (he_mod (he_var 0) (he_var 1)) (ha_nil))))))
    (hss_one (hs_ret (he_var 0)))),
    ok_divisor_of h⟩
theorem cal_divisor_of (T : Top P K mg) : Cal P w K mg base "divisor_of" 1 ["one", "other"] (spF K mg sp_divisor_of) := cal_of T.d_divisor_of (fun F => fk_divisor_of T F) (fun _ _ _ _ _ _ us hl => match us, hl with | [_, _], _ => rfl)
theorem fk_fraction (T : Top P K mg) {f : Addr} {fd : FuncData} (F : FunD K "fraction" "fraction" (defArgs s_fraction) (defBody s_fraction) (defScope s_fraction) [] [] f fd) : FnOk P w K mg base (L2.CX P w) 2 f fd ["part", "whole"] (spF K mg sp_fraction) :=
  fn_ok F sc_fraction len_fraction fun cdv A outer s H E ds Pd ex g hr hx h => ⟨w_fraction,
    hss_cons (hs_set 2 sc_fraction.nd (hc_call (cal_divisor_of T) (hr.mono (by decide)) hx (ha_cons (he_var 0) (ha_cons (he_var 1) (ha_nil)))))
    (hss_cons (hs_if (ht_lt (he_var 1) (he_pk (he_int))) (hss_one (hs_set 2 sc_fraction.nd (he_neg (he_var 2)))) (hss_nil))
    (hss_one (hs_ret (he_tup (ha_cons (he_div (he_var 0) (he_var 2)) (ha_cons (he_div (he_var 1) (he_var 2)) (ha_nil))))))),
    ok_fraction h⟩
theorem cal_fraction (T : Top P K mg) : Cal P w K mg base "fraction" 2 ["part", "whole"] (spF K mg sp_fraction) := cal_of T.d_fraction (fun F => fk_fraction T F) (fun _ _ _ _ _ _ us hl => match us, hl with | [_, _], _ => rfl)
theorem fk_is_fraction (T : Top P K mg) {f : Addr} {fd : FuncData} (F : FunD K "is_fraction" "is_fraction" (defArgs s_is_fraction) (defBody s_is_fraction) (defScope s_is_fraction) [] [] f fd) : FnOk P w K mg base (L2.CX P w) 2 f fd ["value"] (spF K mg sp_is_fraction) :=
  fn_ok F sc_is_fraction len_is_fraction fun cdv A outer s H E ds Pd ex g hr hx h => ⟨w_is_fraction,
    hss_cons (hs_if (PW.pt (hw_or (ht_not (ht_tru (he_pk (hc_call (cal_is_tuple T) (hr.mono (by decide)) hx (ha_cons (he_var 0) (ha_cons (he_int) (ha_cons (he_int) (ha_nil)))))))) (pw_or1 (ht_not (ht_tru (he_pk (he_fnB (cr_all rfl) bu_all rfl T.b_all (by decide +kernel) (he_pk (he_frz (hn_lc (own := [("one", 1)]) rfl sc_is_fraction.nd (hi_seq (he_var 0)) (blkOk_by (own := [("one", 1)]) (N := N_is_fraction) (sc := defScope s_is_fraction) (by decide +kernel)) (by decide) (fun _ _ _ _ _ _ => hg_name 1 sc_is_fraction.nd) (fun _ _ _ _ _ _ => hts_nil) (fun _ _ _ _ _ _ => hc_call (cal_is_integer T) (hr.mono (by decide)) xokF (ha_cons (he_var 1) (ha_nil))))))))))))) (hss_one (hs_ret (he_bl))) (hss_nil))
    (hss_one (hs_ret (he_and (he_gt (he_ix (he_var 0) (he_int)) (he_pk (he_int))) (pe_one (he_eq hr (hc_call (cal_divisor_of T) (hr.mono (by decide)) hx (ha_cons (he_ix (he_var 0) (he_int)) (ha_cons (he_ix (he_var 0) (he_int)) (ha_nil)))) (he_pk (he_int))))))),
    ok_is_fraction h⟩
theorem cal_is_fraction (T : Top P K mg) : Cal P w K mg base "is_fraction" 2 ["value"] (spF K mg sp_is_fraction) := cal_of T.d_is_fraction (fun F => fk_is_fraction T F) (fun _ _ _ _ _ _ us hl => match us, hl with | [_], _ => rfl)
theorem fk_plus (T : Top P K mg) {f : Addr} {fd : FuncData} (F : FunD K "plus" "plus" (defArgs s_plus) (defBody s_plus) (defScope s_plus) [] [] f fd) : FnOk P w K mg base (L2.CX P w) 3 f fd ["one", "other"] (spF K mg sp_plus) :=
  fn_ok F sc_plus len_plus fun cdv A outer s H E ds Pd ex g hr hx h => ⟨w_plus,
    hss_one (hs_ret (hc_call (cal_fraction T) (hr.mono (by decide)) hx (ha_cons (he_add (he_mul (he_ix (he_var 0) (he_int)) (he_ix (he_var 1) (he_int))) (he_mul (he_ix (he_var 1) (he_int)) (he_ix (he_var 0) (he_int)))) (ha_cons (he_mul (he_ix (he_var 0) (he_int)) (he_ix (he_var 1) (he_int))) (ha_nil))))),
    ok_plus h⟩
theorem cal_plus (T : Top P K mg) : Cal P w K mg base "plus" 3 ["one", "other"] (spF K mg sp_plus) := cal_of T.d_plus (fun F => fk_plus T F) (fun _ _ _ _ _ _ us hl => match us, hl with | [_, _], _ => rfl)
theorem fk_compare (T : Top P K mg) {f : Addr} {fd : FuncData} (F : FunD K "compare" "compare" (defArgs s_compare) (defBody s_compare) (defScope s_compare) [] [] f fd) : FnOk P w K mg base (L2.CX P w) 1 f fd ["one", "other"] (spF K mg sp_compare) :=
  fn_ok F sc_compare len_compare fun cdv A outer s H E ds Pd ex g hr hx h => ⟨w_compare,
    hss_cons (hs_set 2 sc_compare.nd (he_sub (he_mul (he_ix (he_var 0) (he_int)) (he_ix (he_var 1) (he_int))) (he_mul (he_ix (he_var 1) (he_int)) (he_ix (he_var 0) (he_int)))))
    (hss_one (hs_ret (he_sub (he_fnT call_int1 bu_int rfl T.b_int (by decide +kernel) (he_pk (he_gt (he_var 2) (he_pk (he_int))))) (he_fnT call_int1 bu_int rfl T.b_int (by decide +kernel) (he_pk (he_lt (he_var 2) (he_pk (he_int)))))))),
    ok_compare h⟩
theorem cal_compare (T : Top P K mg) : Cal P w K mg base "compare" 1 ["one", "other"] (spF K mg sp_compare) := cal_of T.d_compare (fun F => fk_compare T F) (fun _ _ _ _ _ _ us hl => match us, hl with | [_, _], _ => rfl)
theorem fk_is_lying (T : Top P K mg) {f : Addr} {fd : FuncData} (F : FunD K "is_lying" "is_lying" (defArgs s_is_lying) (defBody s_is_lying) (defScope s_is_lying) [] [] f fd) : FnOk P w K mg base (L2.CX P w) 2 f fd ["value", "length"] (spF K mg sp_is_lying) :=
  fn_ok F sc_is_lying len_is_lying fun cdv A outer s H E ds Pd ex g hr hx h => ⟨w_is_lying,
    hss_cons (hs_if (PW.pt (hw_or (ht_not (ht_tru (he_pk (hc_call (cal_is_tuple T) (hr.mono (by decide)) hx (ha_cons (he_var 0) (ha_cons (he_int) (ha_cons (he_int) (ha_nil)))))))) (hw_or (ht_not (ht_tru (he_pk (hc_call (cal_is_in T) (hr.mono (by decide)) hx (ha_cons (he_ix (he_var 0) (he_int)) (ha_cons (he_int) (ha_cons (he_sub (he_var 1) (he_int)) (ha_nil)))))))) (pw_or1 (ht_not (ht_tru (he_pk (hc_call (cal_is_in T) (hr.mono (by decide)) hx (ha_cons (he_ix (he_var 0) (he_int)) (ha_cons (he_add (he_ix (he_var 0) (he_int)) (he_int)) (ha_cons (he_var 1) (ha_nil)))))))))))) (hss_one (hs_ret (he_bl))) (hss_nil))
    (hss_one (hs_ret (hc_call (cal_is_in T) (hr.mono (by decide)) hx (ha_cons (he_ix (he_var 0) (he_int)) (ha_cons (he_int) (ha_cons (he_glo (t := (T.c_MOST_WEIGHT).choose) rfl (T.c_MOST_WEIGHT).choose_spec) (ha_nil))))))),
    ok_is_lying h⟩
theorem cal_is_lying (T : Top P K mg) : Cal P w K mg base "is_lying" 2 ["value", "length"] (spF K mg sp_is_lying) := cal_of T.d_is_lying (fun F => fk_is_lying T F) (fun _ _ _ _ _ _ us hl => match us, hl with | [_, _], _ => rfl)
theorem fk_demand_beam (T : Top P K mg) {f : Addr} {fd : FuncData} (F : FunD K "demand_beam" "demand_beam" (defArgs s_demand_beam) (defBody s_demand_beam) (defScope s_demand_beam) [] [] f fd) : FnOk P w K mg base (L2.CX P w) 4 f fd ["length", "lying"] (spF K mg sp_demand_beam) :=
  fn_ok F sc_demand_beam len_demand_beam fun cdv A outer s H E ds Pd ex g hr hx h => ⟨w_demand_beam,
    hss_cons (hs_expr (hc_call (cal_demand T) (hr.mono (by decide)) hx (ha_cons (hc_call (cal_is_in T) (hr.mono (by decide)) hx (ha_cons (he_var 0) (ha_cons (he_int) (ha_cons (he_glo (t := (T.c_MOST_LENGTH).choose) rfl (T.c_MOST_LENGTH).choose_spec) (ha_nil))))) (ha_cons (he_str) (ha_nil)))))
    (hss_one (hs_expr (hc_call (cal_demand T) (hr.mono (by decide)) hx (ha_cons (he_and (hc_call (cal_is_tuple T) (hr.mono (by decide)) hx (ha_cons (he_var 1) (ha_cons (he_int) (ha_cons (he_glo (t := (T.c_MOST_LYING).choose) rfl (T.c_MOST_LYING).choose_spec) (ha_nil))))) (pe_one (he_fnB (cr_all rfl) bu_all rfl T.b_all (by decide +kernel) (he_pk (he_frz (hn_lc (own := [("one", 2)]) rfl sc_demand_beam.nd (hi_seq (he_var 1)) (blkOk_by (own := [("one", 2)]) (N := N_demand_beam) (sc := defScope s_demand_beam) (by decide +kernel)) (by decide) (fun _ _ _ _ _ _ => hg_name 2 sc_demand_beam.nd) (fun _ _ _ _ _ _ => hts_nil) (fun _ _ _ _ _ _ => hc_call (cal_is_lying T) (hr.mono (by decide)) xokF (ha_cons (he_var 2) (ha_cons (he_var 0) (ha_nil)))))))))) (ha_cons (he_str) (ha_nil)))))),
    ok_demand_beam h⟩
theorem cal_demand_beam (T : Top P K mg) : Cal P w K mg base "demand_beam" 4 ["length", "lying"] (spF K mg sp_demand_beam) := cal_of T.d_demand_beam (fun F => fk_demand_beam T F) (fun _ _ _ _ _ _ us hl => match us, hl with | [_, _], _ => rfl)
theorem fk_demand_place (T : Top P K mg) {f : Addr} {fd : FuncData} (F : FunD K "demand_place" "demand_place" (defArgs s_demand_place) (defBody s_demand_place) (defScope s_demand_place) [] [] f fd) : FnOk P w K mg base (L2.CX P w) 4 f fd ["length", "place"] (spF K mg sp_demand_place) :=
  fn_ok F sc_demand_place len_demand_place fun cdv A outer s H E ds Pd ex g hr hx h => ⟨w_demand_place,
    hss_one (hs_expr (hc_call (cal_demand T) (hr.mono (by decide)) hx (ha_cons (he_and (hc_call (cal_is_fraction T) (hr.mono (by decide)) hx (ha_cons (he_var 1) (ha_nil))) (he_and (he_ge (he_ix (he_var 1) (he_int)) (he_pk (he_int))) (pe_one (he_le hr (he_ix (he_var 1) (he_int)) (he_pk (he_mul (he_var 0) (he_ix (he_var 1) (he_int)))))))) (ha_cons (he_str) (ha_nil))))),
    ok_demand_place h⟩
theorem cal_demand_place (T : Top P K mg) : Cal P w K mg base "demand_place" 4 ["length", "place"] (spF K mg sp_demand_place) := cal_of T.d_demand_place (fun F => fk_demand_place T F) (fun _ _ _ _ _ _ us hl => match us, hl with | [_, _], _ => rfl)
theorem fk_end_forces (T : Top P K mg) {f : Addr} {fd : FuncData} (F : FunD K "end_forces" "end_forces" (defArgs s_end_forces) (defBody s_end_forces) (defScope s_end_forces) [] [] f fd) : FnOk P w K mg base (L2.CX P w) 5 f fd ["length", "lying"] (spF K mg sp_end_forces) :=
  fn_ok F sc_end_forces len_end_forces fun cdv A outer s H E ds Pd ex g hr hx h => ⟨w_end_forces,
    hss_cons (hs_expr (hc_call (cal_demand_beam T) (hr.mono (by decide)) hx (ha_cons (he_var 0) (ha_cons (he_var 1) (ha_nil)))))
    (hss_cons (hs_set 2 sc_end_forces.nd (he_fnB (cr_sum rfl) bu_sum rfl T.b_sum (by decide +kernel) (he_pk (he_frz (hn_lc (own := [("begin", 3), ("end", 4), ("weight", 5)]) rfl sc_end_forces.nd (hi_seq (he_var 1)) (blkOk_by (own := [("begin", 3), ("end", 4), ("weight", 5)]) (N := N_end_forces) (sc := defScope s_end_forces) (by decide +kernel)) (by decide) (fun _ _ _ _ _ _ => hg_tup rfl (hgs_cons (hg_name 3 sc_end_forces.nd) (hgs_cons (hg_name 4 sc_end_forces.nd) (hgs_cons (hg_name 5 sc_end_forces.nd) (hgs_nil))))) (fun _ _ _ _ _ _ => hts_nil) (fun _ _ _ _ _ _ => he_mul (he_var 5) (he_add (he_var 3) (he_var 4))))))))
    (hss_cons (hs_set 6 sc_end_forces.nd (he_fnB (cr_sum rfl) bu_sum rfl T.b_sum (by decide +kernel) (he_pk (he_frz (hn_lc (own := [("begin", 3), ("end", 4), ("weight", 5)]) rfl sc_end_forces.nd (hi_seq (he_var 1)) (blkOk_by (own := [("begin", 3), ("end", 4), ("weight", 5)]) (N := N_end_forces) (sc := defScope s_end_forces) (by decide +kernel)) (by decide) (fun _ _ _ _ _ _ => hg_tup rfl (hgs_cons (hg_name 3 sc_end_forces.nd) (hgs_cons (hg_name 4 sc_end_forces.nd) (hgs_cons (hg_name 5 sc_end_forces.nd) (hgs_nil))))) (fun _ _ _ _ _ _ => hts_nil) (fun _ _ _ _ _ _ => he_var 5))))))
    (hss_one (hs_ret (he_tup (ha_cons (hc_call (cal_fraction T) (hr.mono (by decide)) hx (ha_cons (he_sub (he_mul (he_mul (he_int) (he_var 0)) (he_var 6)) (he_var 2)) (ha_cons (he_mul (he_int) (he_var 0)) (ha_nil)))) (ha_cons (hc_call (cal_fraction T) (hr.mono (by decide)) hx (ha_cons (he_var 2) (ha_cons (he_mul (he_int) (he_var 0)) (ha_nil)))) (ha_nil)))))))),
    ok_end_forces h⟩
theorem cal_end_forces (T : Top P K mg) : Cal P w K mg base "end_forces" 5 ["length", "lying"] (spF K mg sp_end_forces) := cal_of T.d_end_forces (fun F => fk_end_forces T F) (fun _ _ _ _ _ _ us hl => match us, hl with | [_, _], _ => rfl)
theorem calK_end_forces_lying_length (T : Top P K mg) : CalK P w K mg base "end_forces" 5 ["length", "lying"] ["lying", "length"] [1, 0] (spF K mg sp_end_forces) := calK_of T.d_end_forces (fun F => fk_end_forces T F) (fun _ _ _ _ _ _ us hl => match us, hl with | [_, _], _ => rfl)
theorem fk_part_before (T : Top P K mg) {f : Addr} {fd : FuncData} (F : FunD K "part_before" "part_before" (defArgs s_part_before) (defBody s_part_before) (defScope s_part_before) [] [] f fd) : FnOk P w K mg base (L2.CX P w) 4 f fd ["one", "place"] (spF K mg sp_part_before) :=
  fn_ok F sc_part_before len_part_before fun cdv A outer s H E ds Pd ex g hr hx h => ⟨w_part_before,
    hss_cons (hs_asg (he_var 0) (hg_tup rfl (hgs_cons (hg_name 2 sc_part_before.nd) (hgs_cons (hg_name 3 sc_part_before.nd) (hgs_cons (hg_name 4 sc_part_before.nd) (hgs_nil))))))
    (hss_cons (hs_if (ht_le hr (hc_call (cal_compare T) (hr.mono (by decide)) hx (ha_cons (he_var 1) (ha_cons (he_tup (ha_cons (he_var 2) (ha_cons (he_int) (ha_nil)))) (ha_nil)))) (he_pk (he_int))) (hss_one (hs_ret (he_tup (ha_cons (he_tup (ha_cons (he_int) (ha_cons (he_int) (ha_nil)))) (ha_cons (he_tup (ha_cons (he_int) (ha_cons (he_int) (ha_nil)))) (ha_nil)))))) (hss_nil))
    (hss_cons (hs_set 5 sc_part_before.nd (he_if (ht_lt (hc_call (cal_compare T) (hr.mono (by decide)) hx (ha_cons (he_var 1) (ha_cons (he_tup (ha_cons (he_var 3) (ha_cons (he_int) (ha_nil)))) (ha_nil)))) (he_pk (he_int))) (he_var 1) (he_tup (ha_cons (he_var 3) (ha_cons (he_int) (ha_nil))))))
    (hss_cons (hs_par 6 7 rfl sc_part_before.nd (by decide) (ha_cons (he_sub (he_ix (he_var 5) (he_int)) (he_mul (he_var 2) (he_ix (he_var 5) (he_int)))) (ha_cons (he_ix (he_var 5) (he_int)) (ha_nil))))
    (hss_cons (hs_set 8 sc_part_before.nd (hc_call (cal_fraction T) (hr.mono (by decide)) hx (ha_cons (he_mul (he_var 4) (he_var 6)) (ha_cons (he_mul (he_sub (he_var 3) (he_var 2)) (he_var 7)) (ha_nil)))))
    (hss_cons (hs_set 9 sc_part_before.nd (hc_call (cal_plus T) (hr.mono (by decide)) hx (ha_cons (he_var 1) (ha_cons (hc_call (cal_fraction T) (hr.mono (by decide)) hx (ha_cons (he_neg (he_add (he_ix (he_var 5) (he_int)) (he_mul (he_var 2) (he_ix (he_var 5) (he_int))))) (ha_cons (he_mul (he_int) (he_ix (he_var 5) (he_int))) (ha_nil)))) (ha_nil)))))
    (hss_one (hs_ret (he_tup (ha_cons (he_var 8) (ha_cons (hc_call (cal_fraction T) (hr.mono (by decide)) hx (ha_cons (he_mul (he_ix (he_var 8) (he_int)) (he_ix (he_var 9) (he_int))) (ha_cons (he_mul (he_ix (he_var 8) (he_int)) (he_ix (he_var 9) (he_int))) (ha_nil)))) (ha_nil))))))))))),
    ok_part_before h⟩
theorem cal_part_before (T : Top P K mg) : Cal P w K mg base "part_before" 4 ["one", "place"] (spF K mg sp_part_before) := cal_of T.d_part_before (fun F => fk_part_before T F) (fun _ _ _ _ _ _ us hl => match us, hl with | [_, _], _ => rfl)
theorem fk_cut_force (T : Top P K mg) {f : Addr} {fd : FuncData} (F : FunD K "cut_force" "cut_force" (defArgs s_cut_force) (defBody s_cut_force) (defScope s_cut_force) [] [] f fd) : FnOk P w K mg base (L2.CX P w) 6 f fd ["length", "lying", "place"] (spF K mg sp_cut_force) :=
  fn_ok F sc_cut_force len_cut_force fun cdv A outer s H E ds Pd ex g hr hx h => ⟨w_cut_force,
    hss_cons (hs_expr (hc_call (cal_demand_beam T) (hr.mono (by decide)) hx (ha_cons (he_var 0) (ha_cons (he_var 1) (ha_nil)))))
    (hss_cons (hs_expr (hc_call (cal_demand_place T) (hr.mono (by decide)) hx (ha_cons (he_var 0) (ha_cons (he_var 2) (ha_nil)))))
    (hss_cons (hs_set 3 sc_cut_force.nd (he_ix (hc_call (cal_end_forces T) (hr.mono (by decide)) hx (ha_cons (he_var 0) (ha_cons (he_var 1) (ha_nil)))) (he_int)))
    (hss_cons (hs_for (passes_of rfl) rfl (hi_seq (he_var 1)) (hg_name 4 sc_cut_force.nd) (hss_cons (hs_set 5 sc_cut_force.nd (he_ix (hc_call (cal_part_before T) (hr.mono (by decide)) hx (ha_cons (he_var 4) (ha_cons (he_var 2) (ha_nil)))) (he_int)))
    (hss_one (hs_set 3 sc_cut_force.nd (hc_call (cal_plus T) (hr.mono (by decide)) hx (ha_cons (he_var 3) (ha_cons (he_tup (ha_cons (he_neg (he_ix (he_var 5) (he_int))) (ha_cons (he_ix (he_var 5) (he_int)) (ha_nil)))) (ha_nil))))))))
    (hss_one (hs_ret (he_var 3)))))),
    ok_cut_force h⟩
theorem cal_cut_force (T : Top P K mg) : Cal P w K mg base "cut_force" 6 ["length", "lying", "place"] (spF K mg sp_cut_force) := cal_of T.d_cut_force (fun F => fk_cut_force T F) (fun _ _ _ _ _ _ us hl => match us, hl with | [_, _, _], _ => rfl)
theorem calK_cut_force_place_lying_length (T : Top P K mg) : CalK P w K mg base "cut_force" 6 ["length", "lying", "place"] ["place", "lying", "length"] [2, 1, 0] (spF K mg sp_cut_force) := calK_of T.d_cut_force (fun F => fk_cut_force T F) (fun _ _ _ _ _ _ us hl => match us, hl with | [_, _, _], _ => rfl)
theorem fk_bending (T : Top P K mg) {f : Addr} {fd : FuncData} (F : FunD K "bending" "bending" (defArgs s_bending) (defBody s_bending) (defScope s_bending) [] [] f fd) : FnOk P w K mg base (L2.CX P w) 6 f fd ["length", "lying", "place"] (spF K mg sp_bending) :=
  fn_ok F sc_bending len_bending fun cdv A outer s H E ds Pd ex g hr hx h => ⟨w_bending,
    hss_cons (hs_expr (hc_call (cal_demand_beam T) (hr.mono (by decide)) hx (ha_cons (he_var 0) (ha_cons (he_var 1) (ha_nil)))))
    (hss_cons (hs_expr (hc_call (cal_demand_place T) (hr.mono (by decide)) hx (ha_cons (he_var 0) (ha_cons (he_var 2) (ha_nil)))))
    (hss_cons (hs_set 3 sc_bending.nd (he_ix (hc_call (cal_end_forces T) (hr.mono (by decide)) hx (ha_cons (he_var 0) (ha_cons (he_var 1) (ha_nil)))) (he_int)))
    (hss_cons (hs_set 4 sc_bending.nd (hc_call (cal_fraction T) (hr.mono (by decide)) hx (ha_cons (he_mul (he_ix (he_var 3) (he_int)) (he_ix (he_var 2) (he_int))) (ha_cons (he_mul (he_ix (he_var 3) (he_int)) (he_ix (he_var 2) (he_int))) (ha_nil)))))
    (hss_cons (hs_for (passes_of rfl) rfl (hi_seq (he_var 1)) (hg_name 5 sc_bending.nd) (hss_cons (hs_set 6 sc_bending.nd (he_ix (hc_call (cal_part_before T) (hr.mono (by decide)) hx (ha_cons (he_var 5) (ha_cons (he_var 2) (ha_nil)))) (he_int)))
    (hss_one (hs_set 4 sc_bending.nd (hc_call (cal_plus T) (hr.mono (by decide)) hx (ha_cons (he_var 4) (ha_cons (he_tup (ha_cons (he_neg (he_ix (he_var 6) (he_int))) (ha_cons (he_ix (he_var 6) (he_int)) (ha_nil)))) (ha_nil))))))))
    (hss_one (hs_ret (he_var 4))))))),
    ok_bending h⟩
theorem cal_bending (T : Top P K mg) : Cal P w K mg base "bending" 6 ["length", "lying", "place"] (spF K mg sp_bending) := cal_of T.d_bending (fun F => fk_bending T F) (fun _ _ _ _ _ _ us hl => match us, hl with | [_, _, _], _ => rfl)
theorem calK_bending_place_lying_length (T : Top P K mg) : CalK P w K mg base "bending" 6 ["length", "lying", "place"] ["place", "lying", "length"] [2, 1, 0] (spF K mg sp_bending) := calK_of T.d_bending (fun F => fk_bending T F) (fun _ _ _ _ _ _ us hl => match us, hl with | [_, _, _], _ => rfl)
theorem fk_most_bent (T : Top P K mg) {f : Addr} {fd : FuncData} (F : FunD K "most_bent" "most_bent" (defArgs s_most_bent) (defBody s_most_bent) (defScope s_most_bent) [] [] f fd) : FnOk P w K mg base (L2.CX P w) 7 f fd ["length", "lying"] (spF K mg sp_most_bent) :=
  fn_ok F sc_most_bent len_most_bent fun cdv A outer s H E ds Pd ex g hr hx h => ⟨w_most_bent,
    hss_cons (hs_expr (hc_call (cal_demand_beam T) (hr.mono (by decide)) hx (ha_cons (he_var 0) (ha_cons (he_var 1) (ha_nil)))))
    (hss_cons (hs_set 2 sc_most_bent.nd (he_frz (hn_srtSetI T.b_sorted T.b_set (he_pk (he_frz (hn_cat (he_frz (hn_cat (he_frz (hn_lst (ha_cons (he_int) (ha_cons (he_var 0) (ha_nil))))) (he_pk (he_frz (hn_lc (own := [("one", 3)]) rfl sc_most_bent.nd (hi_seq (he_var 1)) (blkOk_by (own := [("one", 3)]) (N := N_most_bent) (sc := defScope s_most_bent) (by decide +kernel)) (by decide) (fun _ _ _ _ _ _ => hg_name 3 sc_most_bent.nd) (fun _ _ _ _ _ _ => hts_nil) (fun _ _ _ _ _ _ => he_ix (he_var 3) (he_int))))))) (he_pk (he_frz (hn_lc (own := [("one", 3)]) rfl sc_most_bent.nd (hi_seq (he_var 1)) (blkOk_by (own := [("one", 3)]) (N := N_most_bent) (sc := defScope s_most_bent) (by decide +kernel)) (by decide) (fun _ _ _ _ _ _ => hg_name 3 sc_most_bent.nd) (fun _ _ _ _ _ _ => hts_nil) (fun _ _ _ _ _ _ => he_ix (he_var 3) (he_int)))))))))))
    (hss_cons (hs_for (passes_of rfl) rfl (hi_zip T.b_zip (he_var 2) (he_frz (hn_slL (he_var 2) (ho_some (he_int)) (ho_none)))) (hg_tup rfl (hgs_cons (hg_name 4 sc_most_bent.nd) (hgs_cons (hg_name 5 sc_most_bent.nd) (hgs_nil)))) (hss_cons (hs_par 6 7 rfl sc_most_bent.nd (by decide) (ha_cons (hc_call (cal_cut_force T) (hr.mono (by decide)) hx (ha_cons (he_var 0) (ha_cons (he_var 1) (ha_cons (he_tup (ha_cons (he_var 4) (ha_cons (he_int) (ha_nil)))) (ha_nil))))) (ha_cons (hc_call (cal_cut_force T) (hr.mono (by decide)) hx (ha_cons (he_var 0) (ha_cons (he_var 1) (ha_cons (he_tup (ha_cons (he_var 5) (ha_cons (he_int) (ha_nil)))) (ha_nil))))) (ha_nil))))
    (hss_cons (hs_if (ht_le hr (he_ix (he_var 6) (he_int)) (he_pk (he_int))) (hss_one (hs_ret (he_tup (ha_cons (he_var 4) (ha_cons (he_int) (ha_nil)))))) (hss_nil))
    (hss_one (hs_if (ht_le hr (he_ix (he_var 7) (he_int)) (he_pk (he_int))) (hss_cons (hs_set 8 sc_most_bent.nd (hc_call (cal_plus T) (hr.mono (by decide)) hx (ha_cons (he_var 6) (ha_cons (he_tup (ha_cons (he_neg (he_ix (he_var 7) (he_int))) (ha_cons (he_ix (he_var 7) (he_int)) (ha_nil)))) (ha_nil)))))
    (hss_cons (hs_set 9 sc_most_bent.nd (hc_call (cal_fraction T) (hr.mono (by decide)) hx (ha_cons (he_mul (he_mul (he_ix (he_var 6) (he_int)) (he_ix (he_var 8) (he_int))) (he_sub (he_var 5) (he_var 4))) (ha_cons (he_mul (he_ix (he_var 6) (he_int)) (he_ix (he_var 8) (he_int))) (ha_nil)))))
    (hss_one (hs_ret (hc_call (cal_plus T) (hr.mono (by decide)) hx (ha_cons (he_tup (ha_cons (he_var 4) (ha_cons (he_int) (ha_nil)))) (ha_cons (he_var 9) (ha_nil)))))))) (hss_nil))))))
    (hss_one (hs_ret (he_tup (ha_cons (he_int) (ha_cons (he_int) (ha_nil)))))))),
    ok_most_bent h⟩
theorem cal_most_bent (T : Top P K mg) : Cal P w K mg base "most_bent" 7 ["length", "lying"] (spF K mg sp_most_bent) := cal_of T.d_most_bent (fun F => fk_most_bent T F) (fun _ _ _ _ _ _ us hl => match us, hl with | [_, _], _ => rfl)
theorem calK_most_bent_lying_length (T : Top P K mg) : CalK P w K mg base "most_bent" 7 ["length", "lying"] ["lying", "length"] [1, 0] (spF K mg sp_most_bent) := calK_of T.d_most_bent (fun F => fk_most_bent T F) (fun _ _ _ _ _ _ us hl => match us, hl with | [_, _], _ => rfl)
theorem fk_greatest_bending (T : Top P K mg) {f : Addr} {fd : FuncData} (F : FunD K "greatest_bending" "greatest_bending" (defArgs s_greatest_bending) (defBody s_greatest_bending) (defScope s_greatest_bending) [] [] f fd) : FnOk P w K mg base (L2.CX P w) 8 f fd ["length", "lying"] (spF K mg sp_greatest_bending) :=
  fn_ok F sc_greatest_bending len_greatest_bending fun cdv A outer s H E ds Pd ex g hr hx h => ⟨w_greatest_bending,
    hss_one (hs_ret (hc_call (cal_bending T) (hr.mono (by decide)) hx (ha_cons (he_var 0) (ha_cons (he_var 1) (ha_cons (hc_call (cal_most_bent T) (hr.mono (by decide)) hx (ha_cons (he_var 0) (ha_cons (he_var 1) (ha_nil)))) (ha_nil)))))),
    ok_greatest_bending h⟩
theorem cal_greatest_bending (T : Top P K mg) : Cal P w K mg base "greatest_bending" 8 ["length", "lying"] (spF K mg sp_greatest_bending) := cal_of T.d_greatest_bending (fun F => fk_greatest_bending T F) (fun _ _ _ _ _ _ us hl => match us, hl with | [_, _], _ => rfl)
theorem calK_greatest_bending_lying_length (T : Top P K mg) : CalK P w K mg base "greatest_bending" 8 ["length", "lying"] ["lying", "length"] [1, 0] (spF K mg sp_greatest_bending) := calK_of T.d_greatest_bending (fun F => fk_greatest_bending T F) (fun _ _ _ _ _ _ us hl => match us, hl with | [_, _], _ => rfl)
theorem fk__law_dice (T : Top P K mg) {f : Addr} {fd : FuncData} (F : FunD K "_law_dice" "_law_dice" (defArgs s__law_dice) (defBody s__law_dice) (defScope s__law_dice) [] [] f fd) : FnOk P w K mg base (L2.CX P w) 1 f fd ["script", "spot"] (spN K sp__law_dice) :=
  fn_okN F sc__law_dice len__law_dice fun cdv A outer s H E ds Pd g hr h => ⟨w__law_dice,
    hss_cons (hs_set 2 sc__law_dice.nd (he_if (ht_lt (he_var 1) (he_pk (he_fnB call_len_seq bu_len rfl T.b_len (by decide +kernel) (he_pk (he_var 0))))) (he_ix (he_var 0) (he_var 1)) (he_add (he_mul (he_int) (he_var 1)) (he_int))))
    (hss_cons (hs_set 3 sc__law_dice.nd (he_add (he_int) (he_mul (he_int) (he_var 1))))
    (hss_cons (hs_for (passes_of rfl) rfl (hi_seq (he_frz (hn_cat (he_frz (hn_slL (he_var 0) (ho_none) (ho_some (he_int)))) (he_pk (he_frz (hn_lst (ha_cons (he_var 2) (ha_nil)))))))) (hg_name 4 sc__law_dice.nd) (hss_one (hs_set 3 sc__law_dice.nd (he_mod (he_fnT call_int1 bu_int rfl T.b_int (by decide +kernel) (he_pk (he_add (he_mul (he_var 3) (he_int)) (he_mod (he_fnT call_int1 bu_int rfl T.b_int (by decide +kernel) (he_pk (he_var 4))) (he_int))))) (he_int)))))
    (hss_one (hs_retN (hn_lst (ha_cons (he_if (PW.pt (hw_or (ht_lt (he_var 2) (he_pk (he_int))) (pw_or1 (ht_ge (he_var 2) (he_pk (he_pow (he_int) (he_int))))))) (he_fnB call_abs bu_abs rfl T.b_abs (by decide +kernel) (he_pk (he_var 2))) (he_int)) (ha_cons (he_var 3) (ha_cons (he_int) (ha_nil))))))))),
    ok__law_dice h⟩
theorem cal__law_dice (T : Top P K mg) : Cal P w K mg base "_law_dice" 1 ["script", "spot"] (spN K sp__law_dice) := cal_of T.d__law_dice (fun F => fk__law_dice T F) (fun _ _ _ _ _ _ us hl => match us, hl with | [_, _], _ => rfl)
theorem fk__law_roll (T : Top P K mg) {f : Addr} {fd : FuncData} (F : FunD K "_law_roll" "_law_roll" (defArgs s__law_roll) (defBody s__law_roll) (defScope s__law_roll) [] [] f fd) : FnOk P w K mg base (L2.CX P w) 1 f fd ["dice", "total"] (spB K sp__law_roll) :=
  fn_okB F sc__law_roll (by decide) len__law_roll fun cdv A outer s H E cs ds Pd g hr h => ⟨w__law_roll,
    hss_cons (hs_if (ht_gt (he_ixO 0 (he_int)) (he_pk (he_int))) (hss_cons (hs_set 2 sc__law_roll.nd (he_mod (he_fnT call_int1 bu_int rfl T.b_int (by decide +kernel) (he_pk (he_ixO 0 (he_int)))) (he_var 1)))
    (hss_cons (hs_setI 0 (he_int) (he_div (he_ixO 0 (he_int)) (he_var 1)))
    (hss_one (hs_ret (he_var 2))))) (hss_nil))
    (hss_cons (hs_setI 0 (he_int) (he_add (he_ixO 0 (he_int)) (he_int)))
    (hss_cons (hs_setI 0 (he_int) (he_mod (he_fnT call_int1 bu_int rfl T.b_int (by decide +kernel) (he_pk (he_add (he_add (he_mul (he_ixO 0 (he_int)) (he_int)) (he_mul (he_mul (he_ixO 0 (he_int)) (he_ixO 0 (he_int))) (he_int))) (he_int)))) (he_int)))
    (hss_one (hs_ret (he_mod (he_fnT call_int1 bu_int rfl T.b_int (by decide +kernel) (he_pk (he_div (he_ixO 0 (he_int)) (he_int)))) (he_var 1)))))),
    ok__law_roll h⟩
theorem cal__law_roll (T : Top P K mg) : Cal P w K mg base "_law_roll" 1 ["dice", "total"] (spB K sp__law_roll) := cal_of T.d__law_roll (fun F => fk__law_roll T F) (fun _ _ _ _ _ _ us hl => match us, hl with | [_, _], _ => rfl)
theorem fk__law_pick (T : Top P K mg) {f : Addr} {fd : FuncData} (F : FunD K "_law_pick" "_law_pick" (defArgs s__law_pick) (defBody s__law_pick) (defScope s__law_pick) [] [] f fd) : FnOk P w K mg base (L2.CX P w) 2 f fd ["dice", "things"] (spB K sp__law_pick) :=
  fn_okB F sc__law_pick (by decide) len__law_pick fun cdv A outer s H E cs ds Pd g hr h => ⟨w__law_pick,
    hss_one (hs_ret (he_ix (he_var 1) (hc_callB 0 (cal__law_roll T) (hr.mono (by decide)) (ha_cons (he_fnB call_len_seq bu_len rfl T.b_len (by decide +kernel) (he_pk (he_var 1))) (ha_nil))))),
    ok__law_pick h⟩
theorem cal__law_pick (T : Top P K mg) : Cal P w K mg base "_law_pick" 2 ["dice", "things"] (spB K sp__law_pick) := cal_of T.d__law_pick (fun F => fk__law_pick T F) (fun _ _ _ _ _ _ us hl => match us, hl with | [_, _], _ => rfl)
theorem fk__law_plus (T : Top P K mg) {f : Addr} {fd : FuncData} (F : FunD K "_law_plus" "_law_plus" (defArgs s__law_plus) (defBody s__law_plus) (defScope s__law_plus) [] [] f fd) : FnOk P w K mg base (L2.CX P w) 1 f fd ["one", "other"] (spF K mg sp__law_plus) :=
  fn_ok F sc__law_plus len__law_plus fun cdv A outer s H E ds Pd ex g hr hx h => ⟨w__law_plus,
    hss_one (hs_ret (he_tup (ha_cons (he_add (he_mul (he_ix (he_var 0) (he_int)) (he_ix (he_var 1) (he_int))) (he_mul (he_ix (he_var 1) (he_int)) (he_ix (he_var 0) (he_int)))) (ha_cons (he_mul (he_ix (he_var 0) (he_int)) (he_ix (he_var 1) (he_int))) (ha_nil))))),
    ok__law_plus h⟩
theorem cal__law_plus (T : Top P K mg) : Cal P w K mg base "_law_plus" 1 ["one", "other"] (spF K mg sp__law_plus) := cal_of T.d__law_plus (fun F => fk__law_plus T F) (fun _ _ _ _ _ _ us hl => match us, hl with | [_, _], _ => rfl)
theorem fk__law_same (T : Top P K mg) {f : Addr} {fd : FuncData} (F : FunD K "_law_same" "_law_same" (defArgs s__law_same) (defBody s__law_same) (defScope s__law_same) [] [] f fd) : FnOk P w K mg base (L2.CX P w) 1 f fd ["told", "due"] (spF K mg sp__law_same) :=
  fn_ok F sc__law_same len__law_same fun cdv A outer s H E ds Pd ex g hr hx h => ⟨w__law_same,
    hss_cons (hs_par 2 3 rfl sc__law_same.nd (by decide) (ha_cons (he_fnB call_abs bu_abs rfl T.b_abs (by decide +kernel) (he_pk (he_ix (he_var 0) (he_int)))) (ha_cons (he_ix (he_var 0) (he_int)) (ha_nil))))
    (hss_cons (hs_for (passes_of rfl) rfl (hi_rng1 T.b_range (he_int)) (hg_name 4 sc__law_same.nd) (hss_cons (hs_if (ht_eq hr (he_var 3) (he_pk (he_int))) (hss_one (hs_break)) (hss_nil))
    (hss_one (hs_par 2 3 rfl sc__law_same.nd (by decide) (ha_cons (he_var 3) (ha_cons (he_mod (he_fnT call_int1 bu_int rfl T.b_int (by decide +kernel) (he_pk (he_var 2))) (he_var 3)) (ha_nil)))))))
    (hss_one (hs_ret (he_and (he_gt (he_ix (he_var 0) (he_int)) (he_pk (he_int))) (he_and (he_eq hr (he_var 2) (he_pk (he_int))) (pe_one (he_eq hr (he_mul (he_ix (he_var 0) (he_int)) (he_ix (he_var 1) (he_int))) (he_pk (he_mul (he_ix (he_var 1) (he_int)) (he_ix (he_var 0) (he_int))))))))))),
    ok__law_same h⟩
theorem cal__law_same (T : Top P K mg) : Cal P w K mg base "_law_same" 1 ["told", "due"] (spF K mg sp__law_same) := cal_of T.d__law_same (fun F => fk__law_same T F) (fun _ _ _ _ _ _ us hl => match us, hl with | [_, _], _ => rfl)
theorem fk__law_bent (T : Top P K mg) {f : Addr} {fd : FuncData} (F : FunD K "_law_bent" "_law_bent" (defArgs s__law_bent) (defBody s__law_bent) (defScope s__law_bent) [] [] f fd) : FnOk P w K mg base (L2.CX P w) 2 f fd ["length", "lying", "place"] (spF K mg sp__law_bent) :=
  fn_ok F sc__law_bent len__law_bent fun cdv A outer s H E ds Pd ex g hr hx h => ⟨w__law_bent,
    hss_cons (hs_asg (he_var 2) (hg_tup rfl (hgs_cons (hg_name 3 sc__law_bent.nd) (hgs_cons (hg_name 4 sc__law_bent.nd) (hgs_nil)))))
    (hss_cons (hs_set 5 sc__law_bent.nd (he_tup (ha_cons (he_int) (ha_cons (he_int) (ha_nil)))))
    (hss_cons (hs_for (passes_of rfl) rfl (hi_seq (he_var 1)) (hg_tup rfl (hgs_cons (hg_name 6 sc__law_bent.nd) (hgs_cons (hg_name 7 sc__law_bent.nd) (hgs_cons (hg_name 8 sc__law_bent.nd) (hgs_nil))))) (hss_cons (hs_set 9 sc__law_bent.nd (he_tup (ha_cons (he_min2 rfl rfl T.b_min (he_max2 rfl rfl T.b_max (he_var 3) (he_mul (he_var 6) (he_var 4))) (he_mul (he_var 7) (he_var 4))) (ha_cons (he_var 4) (ha_nil)))))
    (hss_cons (hs_set 10 sc__law_bent.nd (he_tup (ha_cons (he_sub (he_mul (he_ix (he_var 9) (he_int)) (he_ix (he_var 9) (he_int))) (he_mul (he_mul (he_mul (he_var 6) (he_var 6)) (he_var 4)) (he_var 4))) (ha_cons (he_mul (he_mul (he_int) (he_var 4)) (he_var 4)) (ha_nil)))))
    (hss_cons (hs_set 11 sc__law_bent.nd (he_tup (ha_cons (he_sub (he_mul (he_mul (he_mul (he_int) (he_var 0)) (he_sub (he_mul (he_var 7) (he_var 4)) (he_ix (he_var 9) (he_int)))) (he_var 4)) (he_sub (he_mul (he_mul (he_mul (he_var 7) (he_var 7)) (he_var 4)) (he_var 4)) (he_mul (he_ix (he_var 9) (he_int)) (he_ix (he_var 9) (he_int))))) (ha_cons (he_mul (he_mul (he_int) (he_var 4)) (he_var 4)) (ha_nil)))))
    (hss_cons (hs_set 5 sc__law_bent.nd (hc_call (cal__law_plus T) (hr.mono (by decide)) hx (ha_cons (he_var 5) (ha_cons (he_tup (ha_cons (he_mul (he_mul (he_var 8) (he_ix (he_var 10) (he_int))) (he_sub (he_mul (he_var 0) (he_var 4)) (he_var 3))) (ha_cons (he_mul (he_mul (he_mul (he_sub (he_var 7) (he_var 6)) (he_ix (he_var 10) (he_int))) (he_var 0)) (he_var 4)) (ha_nil)))) (ha_nil)))))
    (hss_one (hs_set 5 sc__law_bent.nd (hc_call (cal__law_plus T) (hr.mono (by decide)) hx (ha_cons (he_var 5) (ha_cons (he_tup (ha_cons (he_mul (he_mul (he_var 8) (he_ix (he_var 11) (he_int))) (he_var 3)) (ha_cons (he_mul (he_mul (he_mul (he_sub (he_var 7) (he_var 6)) (he_ix (he_var 11) (he_int))) (he_var 0)) (he_var 4)) (ha_nil)))) (ha_nil)))))))))))
    (hss_one (hs_ret (he_var 5))))),
    ok__law_bent h⟩
theorem cal__law_bent (T : Top P K mg) : Cal P w K mg base "_law_bent" 2 ["length", "lying", "place"] (spF K mg sp__law_bent) := cal_of T.d__law_bent (fun F => fk__law_bent T F) (fun _ _ _ _ _ _ us hl => match us, hl with | [_, _, _], _ => rfl)
theorem fk__law_cut (T : Top P K mg) {f : Addr} {fd : FuncData} (F : FunD K "_law_cut" "_law_cut" (defArgs s__law_cut) (defBody s__law_cut) (defScope s__law_cut) [] [] f fd) : FnOk P w K mg base (L2.CX P w) 2 f fd ["length", "lying", "place"] (spF K mg sp__law_cut) :=
  fn_ok F sc__law_cut len__law_cut fun cdv A outer s H E ds Pd ex g hr hx h => ⟨w__law_cut,
    hss_cons (hs_asg (he_var 2) (hg_tup rfl (hgs_cons (hg_name 3 sc__law_cut.nd) (hgs_cons (hg_name 4 sc__law_cut.nd) (hgs_nil)))))
    (hss_cons (hs_set 5 sc__law_cut.nd (he_tup (ha_cons (he_int) (ha_cons (he_int) (ha_nil)))))
    (hss_cons (hs_for (passes_of rfl) rfl (hi_seq (he_var 1)) (hg_tup rfl (hgs_cons (hg_name 6 sc__law_cut.nd) (hgs_cons (hg_name 7 sc__law_cut.nd) (hgs_cons (hg_name 8 sc__law_cut.nd) (hgs_nil))))) (hss_cons (hs_set 9 sc__law_cut.nd (he_min2 rfl rfl T.b_min (he_max2 rfl rfl T.b_max (he_var 3) (he_mul (he_var 6) (he_var 4))) (he_mul (he_var 7) (he_var 4))))
    (hss_cons (hs_set 10 sc__law_cut.nd (he_tup (ha_cons (he_sub (he_mul (he_var 7) (he_var 7)) (he_mul (he_var 6) (he_var 6))) (ha_cons (he_int) (ha_nil)))))
    (hss_cons (hs_set 11 sc__law_cut.nd (he_tup (ha_cons (he_sub (he_mul (he_var 7) (he_var 4)) (he_var 9)) (ha_cons (he_var 4) (ha_nil)))))
    (hss_cons (hs_set 5 sc__law_cut.nd (hc_call (cal__law_plus T) (hr.mono (by decide)) hx (ha_cons (he_var 5) (ha_cons (he_tup (ha_cons (he_mul (he_neg (he_var 8)) (he_ix (he_var 10) (he_int))) (ha_cons (he_mul (he_mul (he_sub (he_var 7) (he_var 6)) (he_ix (he_var 10) (he_int))) (he_var 0)) (ha_nil)))) (ha_nil)))))
    (hss_one (hs_set 5 sc__law_cut.nd (hc_call (cal__law_plus T) (hr.mono (by decide)) hx (ha_cons (he_var 5) (ha_cons (he_tup (ha_cons (he_mul (he_var 8) (he_ix (he_var 11) (he_int))) (ha_cons (he_mul (he_sub (he_var 7) (he_var 6)) (he_ix (he_var 11) (he_int))) (ha_nil)))) (ha_nil)))))))))))
    (hss_one (hs_ret (he_var 5))))),
    ok__law_cut h⟩
theorem cal__law_cut (T : Top P K mg) : Cal P w K mg base "_law_cut" 2 ["length", "lying", "place"] (spF K mg sp__law_cut) := cal_of T.d__law_cut (fun F => fk__law_cut T F) (fun _ _ _ _ _ _ us hl => match us, hl with | [_, _, _], _ => rfl)
theorem fk__law_drawn (T : Top P K mg) {f : Addr} {fd : FuncData} (F : FunD K "_law_drawn" "_law_drawn" (defArgs s__law_drawn) (defBody s__law_drawn) (defScope s__law_drawn) [] [] f fd) : FnOk P w K mg base (L2.CX P w) 3 f fd ["dice"] (spB K sp__law_drawn) :=
  fn_okB F sc__law_drawn (by decide) len__law_drawn fun cdv A outer s H E cs ds Pd g hr h => ⟨w__law_drawn,
    hss_cons (hs_set 1 sc__law_drawn.nd (he_add (he_int) (hc_callB 0 (cal__law_roll T) (hr.mono (by decide)) (ha_cons (hc_callB 0 (cal__law_pick T) (hr.mono (by decide)) (ha_cons (he_frz (hn_lst (ha_cons (he_int) (ha_cons (he_int) (ha_cons (he_int) (ha_nil)))))) (ha_nil))) (ha_nil)))))
    (hss_cons (hs_setN 2 sc__law_drawn.nd (hn_lst (ha_nil)))
    (hss_cons (hs_for (passes_of rfl) rfl (hi_rng1 T.b_range (hc_callB 0 (cal__law_roll T) (hr.mono (by decide)) (ha_cons (he_int) (ha_nil)))) (hg_name 3 sc__law_drawn.nd) (hss_cons (hs_set 4 sc__law_drawn.nd (hc_callB 0 (cal__law_roll T) (hr.mono (by decide)) (ha_cons (he_var 1) (ha_nil))))
    (hss_one (hs_expr (he_append 2 (he_tup (ha_cons (he_var 4) (ha_cons (he_add (he_add (he_var 4) (he_int)) (hc_callB 0 (cal__law_roll T) (hr.mono (by decide)) (ha_cons (he_sub (he_var 1) (he_var 4)) (ha_nil)))) (ha_cons (he_add (he_int) (hc_callB 0 (cal__law_roll T) (hr.mono (by decide)) (ha_cons (hc_callB 0 (cal__law_pick T) (hr.mono (by decide)) (ha_cons (he_frz (hn_lst (ha_cons (he_int) (ha_cons (he_int) (ha_nil))))) (ha_nil))) (ha_nil)))) (ha_nil))))))))))
    (hss_one (hs_ret (he_tup (ha_cons (he_var 1) (ha_cons (he_fnT call_tuple_of bu_tup rfl T.b_tuple (by decide +kernel) (he_peek 2)) (ha_nil)))))))),
    ok__law_drawn h⟩
theorem cal__law_drawn (T : Top P K mg) : Cal P w K mg base "_law_drawn" 3 ["dice"] (spB K sp__law_drawn) := cal_of T.d__law_drawn (fun F => fk__law_drawn T F) (fun _ _ _ _ _ _ us hl => match us, hl with | [_], _ => rfl)
theorem fk__law_lowest (T : Top P K mg) {f : Addr} {fd : FuncData} (F : FunD K "_law_lowest" "_law_lowest" (defArgs s__law_lowest) (defBody s__law_lowest) (defScope s__law_lowest) [] [] f fd) : FnOk P w K mg base (L2.CX P w) 1 f fd ["part", "whole"] (spF K mg sp__law_lowest) :=
  fn_ok F sc__law_lowest len__law_lowest fun cdv A outer s H E ds Pd ex g hr hx h => ⟨w__law_lowest,
    hss_cons (hs_par 2 3 rfl sc__law_lowest.nd (by decide) (ha_cons (he_var 0) (ha_cons (he_var 1) (ha_nil))))
    (hss_cons (hs_for (passes_of rfl) rfl (hi_rng1 T.b_range (he_int)) (hg_name 4 sc__law_lowest.nd) (hss_cons (hs_if (ht_eq hr (he_var 3) (he_pk (he_int))) (hss_one (hs_break)) (hss_nil))
    (hss_one (hs_par 2 3 rfl sc__law_lowest.nd (by decide) (ha_cons (he_var 3) (ha_cons (he_mod (he_fnT call_int1 bu_int rfl T.b_int (by decide +kernel) (he_pk (he_var 2))) (he_var 3)) (ha_nil)))))))
    (hss_one (hs_ret (he_tup (ha_cons (he_div (he_var 0) (he_var 2)) (ha_cons (he_div (he_var 1) (he_var 2)) (ha_nil))))))),
    ok__law_lowest h⟩
theorem cal__law_lowest (T : Top P K mg) : Cal P w K mg base "_law_lowest" 1 ["part", "whole"] (spF K mg sp__law_lowest) := cal_of T.d__law_lowest (fun F => fk__law_lowest T F) (fun _ _ _ _ _ _ us hl => match us, hl with | [_, _], _ => rfl)
theorem fk__law_most_right (T : Top P K mg) {f : Addr} {fd : FuncData} (F : FunD K "_law_most_right" "_law_most_right" (defArgs s__law_most_right) (defBody s__law_most_right) (defScope s__law_most_right) [] [] f fd) : FnOk P w K mg base (L2.CX P w) 9 f fd ["length", "lying"] (spF K mg sp__law_most_right) :=
  fn_ok F sc__law_most_right len__law_most_right fun cdv A outer s H E ds Pd ex g hr hx h => ⟨w__law_most_right,
    hss_cons (hs_set 2 sc__law_most_right.nd (hc_callK (calK_most_bent_lying_length T) (hr.mono (by decide)) hx (hk_cons (he_var 1) (hk_cons (he_var 0) (hk_nil)))))
    (hss_cons (hs_set 3 sc__law_most_right.nd (hc_call (cal__law_bent T) (hr.mono (by decide)) hx (ha_cons (he_var 0) (ha_cons (he_var 1) (ha_cons (he_var 2) (ha_nil))))))
    (hss_cons (hs_if (ht_not (ht_tru (he_pk (hc_call (cal__law_same T) (hr.mono (by decide)) hx (ha_cons (hc_callK (calK_greatest_bending_lying_length T) (hr.mono (by decide)) hx (hk_cons (he_var 1) (hk_cons (he_var 0) (hk_nil)))) (ha_cons (he_var 3) (ha_nil))))))) (hss_one (hs_ret (he_bl))) (hss_nil))
    (hss_cons (hs_if (ht_eq hr (he_fnB call_len_seq bu_len rfl T.b_len (by decide +kernel) (he_pk (he_var 1))) (he_pk (he_int))) (hss_one (hs_ret (he_eq hr (he_var 2) (he_pk (he_tup (ha_cons (he_int) (ha_cons (he_int) (ha_nil)))))))) (hss_nil))
    (hss_cons (hs_if (PW.pt (hw_or (ht_not (ht_tru (he_pk (hc_call (cal__law_same T) (hr.mono (by decide)) hx (ha_cons (he_var 2) (ha_cons (he_var 2) (ha_nil))))))) (pw_or1 (ht_ne hr (he_ix (hc_call (cal__law_cut T) (hr.mono (by decide)) hx (ha_cons (he_var 0) (ha_cons (he_var 1) (ha_cons (he_var 2) (ha_nil))))) (he_int)) (he_pk (he_int)))))) (hss_one (hs_ret (he_bl))) (hss_nil))
    (hss_cons (hs_setLc 4 rfl sc__law_most_right.nd (sw_true rfl rfl rfl (by decide +kernel)) (own := [("mark", 6)]) (hi_seq (he_frz (hn_cat (he_frz (hn_cat (he_frz (hn_lst (ha_cons (he_int) (ha_nil)))) (he_pk (he_frz (hn_lc (own := [("one", 5)]) rfl sc__law_most_right.nd (hi_seq (he_var 1)) (blkOk_by (own := [("one", 5)]) (N := N__law_most_right) (sc := defScope s__law_most_right) (by decide +kernel)) (by decide) (fun _ _ _ _ _ _ => hg_name 5 sc__law_most_right.nd) (fun _ _ _ _ _ _ => hts_nil) (fun _ _ _ _ _ _ => he_ix (he_var 5) (he_int))))))) (he_pk (he_frz (hn_lc (own := [("one", 5)]) rfl sc__law_most_right.nd (hi_seq (he_var 1)) (blkOk_by (own := [("one", 5)]) (N := N__law_most_right) (sc := defScope s__law_most_right) (by decide +kernel)) (by decide) (fun _ _ _ _ _ _ => hg_name 5 sc__law_most_right.nd) (fun _ _ _ _ _ _ => hts_nil) (fun _ _ _ _ _ _ => he_ix (he_var 5) (he_int)))))))) (blkOk_by (own := [("mark", 6)]) (N := N__law_most_right) (sc := defScope s__law_most_right) (by decide +kernel)) (by decide) (fun _ _ _ _ _ _ => hg_name 6 sc__law_most_right.nd) (fun _ _ _ _ _ _ => hts_one (ht_lt (he_mul (he_var 6) (he_ix (he_var 2) (he_int))) (he_pk (he_ix (he_var 2) (he_int))))) (fun _ _ _ _ _ _ => he_var 6))
    (hss_cons (hs_if (ht_le hr (he_ix (hc_call (cal__law_cut T) (hr.mono (by decide)) hx (ha_cons (he_var 0) (ha_cons (he_var 1) (ha_cons (he_tup (ha_cons (he_fnB (cr_max rfl) bu_max rfl T.b_max (by decide +kernel) (he_pk (he_var 4))) (ha_cons (he_int) (ha_nil)))) (ha_nil))))) (he_int)) (he_pk (he_int))) (hss_one (hs_ret (he_bl))) (hss_nil))
    (hss_cons (hs_for (passes_of rfl) rfl (hi_rng1 T.b_range (he_int)) (hg_name 7 sc__law_most_right.nd) (hss_cons (hs_set 8 sc__law_most_right.nd (hc_call (cal__law_bent T) (hr.mono (by decide)) hx (ha_cons (he_var 0) (ha_cons (he_var 1) (ha_cons (he_tup (ha_cons (he_mul (he_var 0) (he_var 7)) (ha_cons (he_int) (ha_nil)))) (ha_nil))))))
    (hss_one (hs_if (ht_gt (he_mul (he_ix (he_var 8) (he_int)) (he_ix (he_var 3) (he_int))) (he_pk (he_mul (he_ix (he_var 3) (he_int)) (he_ix (he_var 8) (he_int))))) (hss_one (hs_ret (he_bl))) (hss_nil)))))
    (hss_one (hs_ret (he_bl)))))))))),
    ok__law_most_right h⟩
theorem cal__law_most_right (T : Top P K mg) : Cal P w K mg base "_law_most_right" 9 ["length", "lying"] (spF K mg sp__law_most_right) := cal_of T.d__law_most_right (fun F => fk__law_most_right T F) (fun _ _ _ _ _ _ us hl => match us, hl with | [_, _], _ => rfl)
theorem fk_law (T : Top P K mg) {fd : FuncData} {Tb : Addr} (F : FunD K "law" "law" (defArgs s_law) (defBody s_law) (defScope s_law) [] [] (He.fAd K ("law", none)) fd) (TB : LamX.TabB base mg (He.codeOf K ("law", none)) Tb) : FnOk P w K mg base (L2.CX P w) 13 (He.fAd K ("law", none)) fd ["script"] (spLaw K Tb) :=
  fn_law F sc_law TB fun cdv A outer s H E ns g hr hn lt => ⟨w_law,
    hss_cons (hs_for (passes_of rfl) rfl (hi_rng1 T.b_range (he_max2 rfl rfl T.b_max (he_int) (he_min2 rfl rfl T.b_min (he_int) (he_fnB call_len_seq bu_len rfl T.b_len (by decide +kernel) (he_pk (he_var 0)))))) (hg_name 1 sc_law.nd) (hss_cons (hs_setN 2 sc_law.nd (hcn_call (cal__law_dice T) (hr.mono (by decide)) (ha_cons (he_var 0) (ha_cons (he_var 1) (ha_nil)))))
    (hss_cons (hs_asg (hc_callB 2 (cal__law_drawn T) (hr.mono (by decide)) (ha_nil)) (hg_tup rfl (hgs_cons (hg_name 3 sc_law.nd) (hgs_cons (hg_name 4 sc_law.nd) (hgs_nil)))))
    (hss_cons (hs_set 5 sc_law.nd (hc_callK (calK_end_forces_lying_length T) (hr.mono (by decide)) xokF (hk_cons (he_var 4) (hk_cons (he_var 3) (hk_nil)))))
    (hss_cons (hs_set 6 sc_law.nd (he_fnB (cr_sum rfl) bu_sum rfl T.b_sum (by decide +kernel) (he_pk (he_frz (hn_lc (own := [("one", 7)]) rfl sc_law.nd (hi_seq (he_var 4)) (blkOk_by (own := [("one", 7)]) (N := N_law) (sc := defScope s_law) (by decide +kernel)) (by decide) (fun _ _ _ _ _ _ => hg_name 7 sc_law.nd) (fun _ _ _ _ _ _ => hts_nil) (fun _ _ _ _ _ _ => he_ix (he_var 7) (he_int)))))))
    (hss_cons (hs_if (ht_not (ht_tru (he_pk (hc_call (cal__law_same T) (hr.mono (by decide)) xokF (ha_cons (he_ix (he_var 5) (he_int)) (ha_cons (hc_call (cal__law_cut T) (hr.mono (by decide)) xokF (ha_cons (he_var 3) (ha_cons (he_var 4) (ha_cons (he_tup (ha_cons (he_int) (ha_cons (he_int) (ha_nil)))) (ha_nil))))) (ha_nil))))))) (hss_one (hs_ret (he_bl))) (hss_nil))
    (hss_cons (hs_if (ht_not (ht_tru (he_pk (hc_call (cal__law_same T) (hr.mono (by decide)) xokF (ha_cons (he_ix (he_var 5) (he_int)) (ha_cons (hc_call (cal__law_plus T) (hr.mono (by decide)) xokF (ha_cons (he_tup (ha_cons (he_var 6) (ha_cons (he_int) (ha_nil)))) (ha_cons (he_tup (ha_cons (he_neg (he_ix (he_ix (he_var 5) (he_int)) (he_int))) (ha_cons (he_ix (he_ix (he_var 5) (he_int)) (he_int)) (ha_nil)))) (ha_nil)))) (ha_nil))))))) (hss_one (hs_ret (he_bl))) (hss_nil))
    (hss_cons (hs_for (passes_of rfl) rfl (hi_rng1 T.b_range (he_int)) (hg_name 8 sc_law.nd) (hss_cons (hs_set 9 sc_law.nd (he_add (he_int) (hc_callB 2 (cal__law_roll T) (hr.mono (by decide)) (ha_cons (he_int) (ha_nil)))))
    (hss_cons (hs_set 10 sc_law.nd (hc_call (cal__law_lowest T) (hr.mono (by decide)) xokF (ha_cons (hc_callB 2 (cal__law_roll T) (hr.mono (by decide)) (ha_cons (he_add (he_mul (he_var 3) (he_var 9)) (he_int)) (ha_nil))) (ha_cons (he_var 9) (ha_nil)))))
    (hss_cons (hs_if (ht_not (ht_tru (he_pk (hc_call (cal__law_same T) (hr.mono (by decide)) xokF (ha_cons (hc_callK (calK_bending_place_lying_length T) (hr.mono (by decide)) xokF (hk_cons (he_var 10) (hk_cons (he_var 4) (hk_cons (he_var 3) (hk_nil))))) (ha_cons (hc_call (cal__law_bent T) (hr.mono (by decide)) xokF (ha_cons (he_var 3) (ha_cons (he_var 4) (ha_cons (he_var 10) (ha_nil))))) (ha_nil))))))) (hss_one (hs_ret (he_bl))) (hss_nil))
    (hss_one (hs_if (ht_not (ht_tru (he_pk (hc_call (cal__law_same T) (hr.mono (by decide)) xokF (ha_cons (hc_callK (calK_cut_force_place_lying_length T) (hr.mono (by decide)) xokF (hk_cons (he_var 10) (hk_cons (he_var 4) (hk_cons (he_var 3) (hk_nil))))) (ha_cons (hc_call (cal__law_cut T) (hr.mono (by decide)) xokF (ha_cons (he_var 3) (ha_cons (he_var 4) (ha_cons (he_var 10) (ha_nil))))) (ha_nil))))))) (hss_one (hs_ret (he_bl))) (hss_nil)))))))
    (hss_one (hs_if (ht_not (ht_tru (he_pk (hc_call (cal__law_most_right T) (hr.mono (by decide)) xokF (ha_cons (he_var 3) (ha_cons (he_var 4) (ha_nil))))))) (hss_one (hs_ret (he_bl))) (hss_nil)))))))))))
    (hss_cons (hs_set 11 sc_law.nd (he_frz (hn_lst (ha_cons (he_refused lt ⟨T.x_BadArgument⟩ T.d__law_refused rfl sc__law_refused rfl (by decide) (.inl rfl) (.inl rfl) rfl (fun _ _ _ _ _ _ us hl => match us, hl with | [_], _ => rfl) hr (LamX.lamS_by (sc := defScope s_law) (by decide +kernel)) (fun A outer s H E f c g x hr hx => hc_call (cal_end_forces T) (hr.mono (by decide)) hx (ha_cons (he_int) (ha_cons (he_non) (ha_nil))))) (ha_cons (he_refused lt ⟨T.x_BadArgument⟩ T.d__law_refused rfl sc__law_refused rfl (by decide) (.inl rfl) (.inl rfl) rfl (fun _ _ _ _ _ _ us hl => match us, hl with | [_], _ => rfl) hr (LamX.lamS_by (sc := defScope s_law) (by decide +kernel)) (fun A outer s H E f c g x hr hx => hc_call (cal_end_forces T) (hr.mono (by decide)) hx (ha_cons (he_int) (ha_cons (he_tup (ha_nil)) (ha_nil))))) (ha_cons (he_refused lt ⟨T.x_BadArgument⟩ T.d__law_refused rfl sc__law_refused rfl (by decide) (.inl rfl) (.inl rfl) rfl (fun _ _ _ _ _ _ us hl => match us, hl with | [_], _ => rfl) hr (LamX.lamS_by (sc := defScope s_law) (by decide +kernel)) (fun A outer s H E f c g x hr hx => hc_call (cal_end_forces T) (hr.mono (by decide)) hx (ha_cons (he_int) (ha_cons (he_tup (ha_cons (he_tup (ha_cons (he_int) (ha_cons (he_int) (ha_cons (he_int) (ha_nil))))) (ha_nil))) (ha_nil))))) (ha_cons (he_refused lt ⟨T.x_BadArgument⟩ T.d__law_refused rfl sc__law_refused rfl (by decide) (.inl rfl) (.inl rfl) rfl (fun _ _ _ _ _ _ us hl => match us, hl with | [_], _ => rfl) hr (LamX.lamS_by (sc := defScope s_law) (by decide +kernel)) (fun A outer s H E f c g x hr hx => hc_call (cal_most_bent T) (hr.mono (by decide)) hx (ha_cons (he_int) (ha_cons (he_tup (ha_cons (he_tup (ha_cons (he_int) (ha_cons (he_int) (ha_cons (he_int) (ha_nil))))) (ha_nil))) (ha_nil))))) (ha_cons (he_refused lt ⟨T.x_BadArgument⟩ T.d__law_refused rfl sc__law_refused rfl (by decide) (.inl rfl) (.inl rfl) rfl (fun _ _ _ _ _ _ us hl => match us, hl with | [_], _ => rfl) hr (LamX.lamS_by (sc := defScope s_law) (by decide +kernel)) (fun A outer s H E f c g x hr hx => hc_call (cal_most_bent T) (hr.mono (by decide)) hx (ha_cons (he_int) (ha_cons (he_tup (ha_cons (he_tup (ha_cons (he_int) (ha_cons (he_int) (ha_cons (he_int) (ha_nil))))) (ha_nil))) (ha_nil))))) (ha_cons (he_refused lt ⟨T.x_BadArgument⟩ T.d__law_refused rfl sc__law_refused rfl (by decide) (.inl rfl) (.inl rfl) rfl (fun _ _ _ _ _ _ us hl => match us, hl with | [_], _ => rfl) hr (LamX.lamS_by (sc := defScope s_law) (by decide +kernel)) (fun A outer s H E f c g x hr hx => hc_call (cal_greatest_bending T) (hr.mono (by decide)) hx (ha_cons (he_int) (ha_cons (he_mul (he_tup (ha_cons (he_tup (ha_cons (he_int) (ha_cons (he_int) (ha_cons (he_int) (ha_nil))))) (ha_nil))) (he_int)) (ha_nil))))) (ha_cons (he_refused lt ⟨T.x_BadArgument⟩ T.d__law_refused rfl sc__law_refused rfl (by decide) (.inl rfl) (.inl rfl) rfl (fun _ _ _ _ _ _ us hl => match us, hl with | [_], _ => rfl) hr (LamX.lamS_by (sc := defScope s_law) (by decide +kernel)) (fun A outer s H E f c g x hr hx => hc_call (cal_bending T) (hr.mono (by decide)) hx (ha_cons (he_int) (ha_cons (he_tup (ha_nil)) (ha_cons (he_tup (ha_cons (he_int) (ha_cons (he_int) (ha_nil)))) (ha_nil)))))) (ha_cons (he_refused lt ⟨T.x_BadArgument⟩ T.d__law_refused rfl sc__law_refused rfl (by decide) (.inl rfl) (.inl rfl) rfl (fun _ _ _ _ _ _ us hl => match us, hl with | [_], _ => rfl) hr (LamX.lamS_by (sc := defScope s_law) (by decide +kernel)) (fun A outer s H E f c g x hr hx => hc_call (cal_bending T) (hr.mono (by decide)) hx (ha_cons (he_int) (ha_cons (he_tup (ha_nil)) (ha_cons (he_tup (ha_cons (he_int) (ha_cons (he_int) (ha_nil)))) (ha_nil)))))) (ha_cons (he_refused lt ⟨T.x_BadArgument⟩ T.d__law_refused rfl sc__law_refused rfl (by decide) (.inl rfl) (.inl rfl) rfl (fun _ _ _ _ _ _ us hl => match us, hl with | [_], _ => rfl) hr (LamX.lamS_by (sc := defScope s_law) (by decide +kernel)) (fun A outer s H E f c g x hr hx => hc_call (cal_cut_force T) (hr.mono (by decide)) hx (ha_cons (he_int) (ha_cons (he_tup (ha_nil)) (ha_cons (he_tup (ha_cons (he_neg (he_int)) (ha_cons (he_int) (ha_nil)))) (ha_nil)))))) (ha_cons (he_refused lt ⟨T.x_BadArgument⟩ T.d__law_refused rfl sc__law_refused rfl (by decide) (.inl rfl) (.inl rfl) rfl (fun _ _ _ _ _ _ us hl => match us, hl with | [_], _ => rfl) hr (LamX.lamS_by (sc := defScope s_law) (by decide +kernel)) (fun A outer s H E f c g x hr hx => hc_call (cal_cut_force T) (hr.mono (by decide)) hx (ha_cons (he_int) (ha_cons (he_frz (hn_lst (ha_nil))) (ha_cons (he_int) (ha_nil)))))) (ha_nil))))))))))))))
    (hss_cons (hs_if (ht_ne hr (he_var 11) (he_pk (he_frz (hn_lst (ha_cons (he_str) (ha_cons (he_str) (ha_cons (he_str) (ha_cons (he_str) (ha_cons (he_str) (ha_cons (he_str) (ha_cons (he_str) (ha_cons (he_str) (ha_cons (he_str) (ha_cons (he_str) (ha_nil))))))))))))))) (hss_one (hs_ret (he_bl))) (hss_nil))
    (hss_cons (hs_if (ht_ne hr (hc_call (cal_end_forces T) (hr.mono (by decide)) xokF (ha_cons (he_int) (ha_cons (he_tup (ha_cons (he_tup (ha_cons (he_int) (ha_cons (he_int) (ha_cons (he_int) (ha_nil))))) (ha_nil))) (ha_nil)))) (he_pk (he_tup (ha_cons (he_tup (ha_cons (he_int) (ha_cons (he_int) (ha_nil)))) (ha_cons (he_tup (ha_cons (he_int) (ha_cons (he_int) (ha_nil)))) (ha_nil)))))) (hss_one (hs_ret (he_bl))) (hss_nil))
    (hss_one (hs_ret (he_and (he_eq hr (hc_call (cal_most_bent T) (hr.mono (by decide)) xokF (ha_cons (he_int) (ha_cons (he_tup (ha_cons (he_tup (ha_cons (he_int) (ha_cons (he_int) (ha_cons (he_int) (ha_nil))))) (ha_nil))) (ha_nil)))) (he_pk (he_tup (ha_cons (he_int) (ha_cons (he_int) (ha_nil)))))) (he_and (he_eq hr (hc_call (cal_greatest_bending T) (hr.mono (by decide)) xokF (ha_cons (he_int) (ha_cons (he_tup (ha_cons (he_tup (ha_cons (he_int) (ha_cons (he_int) (ha_cons (he_int) (ha_nil))))) (ha_nil))) (ha_nil)))) (he_pk (he_tup (ha_cons (he_int) (ha_cons (he_int) (ha_nil)))))) (pe_one (he_eq hr (hc_call (cal_most_bent T) (hr.mono (by decide)) xokF (ha_cons (he_int) (ha_cons (he_tup (ha_cons (he_tup (ha_cons (he_int) (ha_cons (he_int) (ha_cons (he_int) (ha_nil))))) (ha_cons (he_tup (ha_cons (he_int) (ha_cons (he_int) (ha_cons (he_int) (ha_nil))))) (ha_nil)))) (ha_nil)))) (he_pk (he_tup (ha_cons (he_int) (ha_cons (he_int) (ha_nil)))))))))))))),
    ok_law hn⟩
end
end R28
end Fz

set_option maxRecDepth 100000
set_option maxHeartbeats 8000000
namespace Fz
namespace R28
open PySem PySem.Spec L2
def pr : Program := PySem.Challenge.pw_stackfirm_k28_whole_beams_that_bend
def fns : List He.DefD := [defOf "demand" s_demand, defOf "is_in" s_is_in, defOf "is_integer" s_is_integer, defOf "is_tuple" s_is_tuple, defOf "divisor_of" s_divisor_of, defOf "fraction" s_fraction, defOf "is_fraction" s_is_fraction, defOf "plus" s_plus, defOf "compare" s_compare, defOf "is_lying" s_is_lying, defOf "demand_beam" s_demand_beam, defOf "demand_place" s_demand_place, defOf "end_forces" s_end_forces, defOf "part_before" s_part_before, defOf "cut_force" s_cut_force, defOf "bending" s_bending, defOf "most_bent" s_most_bent, defOf "greatest_bending" s_greatest_bending, defOf "_law_dice" s__law_dice, defOf "_law_roll" s__law_roll, defOf "_law_pick" s__law_pick, defOf "_law_refused" s__law_refused, defOf "_law_plus" s__law_plus, defOf "_law_same" s__law_same, defOf "_law_bent" s__law_bent, defOf "_law_cut" s__law_cut, defOf "_law_drawn" s__law_drawn, defOf "_law_lowest" s__law_lowest, defOf "_law_most_right" s__law_most_right, defOf "law" s_law]
def fas : List He.Fa := [.glo "demand", .glo "is_in", .glo "is_integer", .glo "is_tuple", .glo "divisor_of", .glo "fraction", .glo "is_fraction", .glo "plus", .glo "compare", .glo "is_lying", .glo "demand_beam", .glo "demand_place", .glo "end_forces", .glo "part_before", .glo "cut_force", .glo "bending", .glo "most_bent", .glo "greatest_bending", .glo "_law_dice", .glo "_law_roll", .glo "_law_pick", .glo "_law_refused", .glo "_law_plus", .glo "_law_same", .glo "_law_bent", .glo "_law_cut", .glo "_law_drawn", .glo "_law_lowest", .glo "_law_most_right", .glo "law", .glo "BadArgument", .free "super", .free "abs", .free "all", .free "bool", .free "int", .free "isinstance", .free "len", .free "max", .free "min", .free "range", .free "set", .free "sorted", .free "sum", .free "tuple", .free "zip", .int "MOST_LENGTH" 240, .int "MOST_LYING" 6, .int "MOST_WEIGHT" 1000]
def er0 : InitT pr "BadArgument" := ⟨"BadArgument.__init__", [("self", .local), ("name", .local), ("__class__", .free), ("super", .globalImplicit)], ⟨6, 17, 6, 21⟩, ⟨6, 23, 6, 27⟩, ⟨7, 8, 7, 13⟩, ⟨7, 8, 7, 15⟩, ⟨7, 8, 7, 24⟩, ⟨7, 25, 7, 29⟩, ⟨7, 8, 7, 30⟩, ⟨7, 8, 7, 30⟩, ⟨8, 8, 8, 12⟩, ⟨8, 8, 8, 17⟩, ⟨8, 20, 8, 24⟩, ⟨8, 8, 8, 24⟩⟩
theorem er0_ok : er0.Ok := ⟨by decide +kernel, by decide +kernel, by decide +kernel, by decide +kernel, by decide +kernel, ⟨_, fun _ _ _ _ => rfl⟩, by decide +kernel⟩
def ers : List (ErrD pr) := [⟨"BadArgument", er0⟩]
abbrev R : PySem.W.OpenRow := PySem.W.OpenLaw.row PySem.Challenge.rw_stackfirm_k28_whole_beams_that_bend
abbrev hk : PySem.W.Hook := hookZ 6 fas fns ers
def ob (s : PySem.W.SharedT) : AlZ := obsZ 6 fas fns ers (HandSHeadRun.getT s)
theorem ob_eq (s : PySem.W.SharedT) : ob s = hk.obs s.abs := obsZ_eq (HandSHeadRun.getT_eq s)
def nm1 : List Str := ["StackError", "BadArgument", "demand", "is_in", "is_integer", "is_tuple", "divisor_of", "fraction", "is_fraction", "plus", "compare", "MOST_LENGTH", "MOST_LYING", "MOST_WEIGHT", "is_lying", "demand_beam", "demand_place", "end_forces", "part_before", "cut_force", "bending", "most_bent", "greatest_bending", "_law_dice", "_law_roll", "_law_pick", "_law_refused", "_law_plus", "_law_same", "_law_bent"]
def nm2 : List Str := ["_law_cut", "_law_drawn", "_law_lowest", "_law_most_right"]
def nms : List Str := nm1 ++ nm2
theorem run (w : World) : HandSHeadRun.RunEq R (PySem.W.view R.prog [38]) hk ob 4000 nms w := by
  intro os
  kernel_rfl
theorem top_of {w : World} {K : PySem.W.Frag} {h : Heap} {mg : Str → Option Value} (X : K.In h) (G : h.Ns mainGlobals mg) (c : SaysZ fas fns ers w h K) : Top pr K mg where
  b_abs := He.free_ok X G (c.fact (.free "abs") (by simp [fas]))
  b_all := He.free_ok X G (c.fact (.free "all") (by simp [fas]))
  b_bool := He.free_ok X G (c.fact (.free "bool") (by simp [fas]))
  b_int := He.free_ok X G (c.fact (.free "int") (by simp [fas]))
  b_isinstance := He.free_ok X G (c.fact (.free "isinstance") (by simp [fas]))
  b_len := He.free_ok X G (c.fact (.free "len") (by simp [fas]))
  b_max := He.free_ok X G (c.fact (.free "max") (by simp [fas]))
  b_min := He.free_ok X G (c.fact (.free "min") (by simp [fas]))
  b_range := He.free_ok X G (c.fact (.free "range") (by simp [fas]))
  b_set := He.free_ok X G (c.fact (.free "set") (by simp [fas]))
  b_sorted := He.free_ok X G (c.fact (.free "sorted") (by simp [fas]))
  b_sum := He.free_ok X G (c.fact (.free "sum") (by simp [fas]))
  b_tuple := He.free_ok X G (c.fact (.free "tuple") (by simp [fas]))
  b_zip := He.free_ok X G (c.fact (.free "zip") (by simp [fas]))
  c_MOST_LENGTH := He.int_ok X G (c.fact (.int "MOST_LENGTH" 240) (by simp [fas]))
  c_MOST_LYING := He.int_ok X G (c.fact (.int "MOST_LYING" 6) (by simp [fas]))
  c_MOST_WEIGHT := He.int_ok X G (c.fact (.int "MOST_WEIGHT" 1000) (by simp [fas]))
  x_BadArgument := c.err X G er0_ok (by simp [ers]) (by simp [fas]) (by simp [fas])
  d_demand := c.top X G (by simp [fns]) (by simp [fas])
  d_is_in := c.top X G (by simp [fns]) (by simp [fas])
  d_is_integer := c.top X G (by simp [fns]) (by simp [fas])
  d_is_tuple := c.top X G (by simp [fns]) (by simp [fas])
  d_divisor_of := c.top X G (by simp [fns]) (by simp [fas])
  d_fraction := c.top X G (by simp [fns]) (by simp [fas])
  d_is_fraction := c.top X G (by simp [fns]) (by simp [fas])
  d_plus := c.top X G (by simp [fns]) (by simp [fas])
  d_compare := c.top X G (by simp [fns]) (by simp [fas])
  d_is_lying := c.top X G (by simp [fns]) (by simp [fas])
  d_demand_beam := c.top X G (by simp [fns]) (by simp [fas])
  d_demand_place := c.top X G (by simp [fns]) (by simp [fas])
  d_end_forces := c.top X G (by simp [fns]) (by simp [fas])
  d_part_before := c.top X G (by simp [fns]) (by simp [fas])
  d_cut_force := c.top X G (by simp [fns]) (by simp [fas])
  d_bending := c.top X G (by simp [fns]) (by simp [fas])
  d_most_bent := c.top X G (by simp [fns]) (by simp [fas])
  d_greatest_bending := c.top X G (by simp [fns]) (by simp [fas])
  d__law_dice := c.top X G (by simp [fns]) (by simp [fas])
  d__law_roll := c.top X G (by simp [fns]) (by simp [fas])
  d__law_pick := c.top X G (by simp [fns]) (by simp [fas])
  d__law_refused := c.top X G (by simp [fns]) (by simp [fas])
  d__law_plus := c.top X G (by simp [fns]) (by simp [fas])
  d__law_same := c.top X G (by simp [fns]) (by simp [fas])
  d__law_bent := c.top X G (by simp [fns]) (by simp [fas])
  d__law_cut := c.top X G (by simp [fns]) (by simp [fas])
  d__law_drawn := c.top X G (by simp [fns]) (by simp [fas])
  d__law_lowest := c.top X G (by simp [fns]) (by simp [fas])
  d__law_most_right := c.top X G (by simp [fns]) (by simp [fas])
end R28
end Fz
open PySem PySem.W PyProof.Rows
theorem PySem.Challenge.cw_stackfirm_k28_whole_beams_that_bend_holds : PySem.Challenge.rw_stackfirm_k28_whole_beams_that_bend.Holds := by
  w_on; o_law
  refine HandSHeadRun.head_any (r := OpenLaw.row PySem.Challenge.rw_stackfirm_k28_whole_beams_that_bend) (q := view (OpenLaw.row PySem.Challenge.rw_stackfirm_k28_whole_beams_that_bend).prog [38]) (H := Fz.R28.hk) (ob := Fz.R28.ob) (M := 4000) (loose := Fz.R28.nms) (d := HandSHeadRun.topDef (OpenLaw.row PySem.Challenge.rw_stackfirm_k28_whole_beams_that_bend).prog 38) (kwd := []) Fz.R28.ob_eq
    (by kernel_rfl) (fun s => by kernel_rfl) Fz.R28.run (by kernel_rfl) (by kernel_rfl) (by kernel_rfl) (by rfl) (by first | assumption | decide +kernel) (by decide +kernel) ⟨rfl, rfl, rfl, rfl, rfl, by decide +kernel⟩ ?hw ?hc
  case hw => w_witness2
  case hc =>
    refine LamX.walk_ofTsE (l := PySem.Challenge.rw_stackfirm_k28_whole_beams_that_bend) (n := 63) (k := 13) (x := "script") (CX := fun w => L2.CX (PySem.Challenge.rw_stackfirm_k28_whole_beams_that_bend).prog w) rfl (by decide) (by kernel_rfl) ⟨rfl, by decide, by decide⟩ ?F (fun _ _ _ _ _ z => Fz.cx_false z)
    intro w mg fa h Y G hmg0
    obtain ⟨K, KX, c⟩ := Y
    have hmg : mg ("law" : PySem.Str) = some (.ref fa) := by
      have e : (HandSHeadRun.topDef (OpenLaw.row PySem.Challenge.rw_stackfirm_k28_whole_beams_that_bend).prog 38).name = ("law" : PySem.Str) := by kernel_rfl
      rw [← e]
      exact hmg0
    have e2 := hmg.symm.trans (He.glo_ok KX G (c.fact (.glo "law") (by simp [Fz.R28.fas])))
    cases e2
    exact ⟨K, KX, Fz.lawAt_of (st := Fz.R28.s_law) KX c (by simp [Fz.R28.fns]) (fun _ _ _ _ _ _ us hl => match us, hl with | [_], _ => rfl) fun F TB => Fz.R28.fk_law (Fz.R28.top_of KX G c) F TB⟩

