import PyProof.Rows.All
import Wide.All
import OpenK.AllK
import Wide.FinOn
import HandS.ForMost
import HandS.Evl
import HandS.Star
import HandS.TupAny
import HandS.IsInst
import HandS.Strs
import HandS.SetFor
import HandS.SortInts
import HandS.Wide
import HandS.Flow
import HandS.Walk
import HandS.Style
import HandS.Zip
import HandS.Conv
import KE.SortData
import KE.DataAny
import KE.DataIsa
import KE.DataMinMax
import KE.DatumIndex
import KE.GoesMore
import KE.GoesZip
import KE.GoesEnum
import KE.KRevSl
import KE.DatumOrd
import KE.DatumMore
import PySem.Challenge.RW_eachtheirown_k21_whole_courses_turned_ab
set_option Elab.async false
set_option linter.all false
set_option maxRecDepth 100000
set_option maxHeartbeats 0
/-! PD: a layer over HandS whose readings speak of data (PyData) instead of heaps. F: the sub-heap of what never changes. -/
namespace PD
open PySem PySem.Spec PyProof.Rows L2

abbrev D := PyData
/-- H' has all that H has -/
def Ex (H H' : Hp) : Prop := ∀ a o, H a = some o → H' a = some o
theorem Ex.refl (H : Hp) : Ex H H := fun _ _ h => h
theorem Ex.trans {H H1 H2 : Hp} (a : Ex H H1) (b : Ex H1 H2) : Ex H H2 := fun x o h => b x o (a x o h)
theorem Ex.new {H : Hp} {p : Addr} {o : HO} (h : H p = none) : Ex H (upd H p o) := fun a u e => by
  rw [upd_ne (ne_of_none e h)]
  exact e
theorem Ex.free {H H' : Hp} (e : Ex H H') {l : Addr} (h : H' l = none) : H l = none := by
  cases q : H l with
  | none => rfl
  | some o =>
    rw [e l o q] at h
    cases h
theorem ex_rd {H H' : Hp} {a : Addr} {u : HO} (e : Ex H H') (h : Rd H a u) : Rd H' a u := by
  rcases h with h | ⟨o, h⟩
  · exact Or.inl (e a _ h)
  · exact Or.inr ⟨o, e a _ h⟩
theorem ex_l {K : PySem.W.Frag} {H H' : Hp} {a : Addr} {xs : List V} (e : Ex H H') (h : SqL K H a xs) : SqL K H' a xs := by
  rcases h with h | h
  · exact Or.inl (ex_rd e h)
  · exact Or.inr h
theorem ex_t {K : PySem.W.Frag} {H H' : Hp} {a : Addr} {xs : List V} (e : Ex H H') (h : SqT K H a xs) : SqT K H' a xs := by
  rcases h with h | h
  · exact Or.inl (ex_rd e h)
  · exact Or.inr h
section
variable {K : PySem.W.Frag} {F F' : Hp}
mutual
theorem dp_up (e : Ex F F') : ∀ (d : D) (v : V), Dp K F v d → Dp K F' v d
  | .none, _, h => by cases h; exact .non
  | .bool _, _, h => by cases h; exact .bl _
  | .int _, _, h => by cases h; exact .int _
  | .str _, _, h => by cases h; exact .str _
  | .list ds, _, h => by
    cases h with
    | lst hs ha => exact .lst (ex_l e hs) (dpa_up e ds _ ha)
  | .tuple ds, _, h => by
    cases h with
    | tup hs ha => exact .tup (ex_t e hs) (dpa_up e ds _ ha)
  | .dict _, _, h => by cases h
theorem dpa_up (e : Ex F F') : ∀ (ds : List D) (vs : List V), DpAll K F vs ds → DpAll K F' vs ds
  | [], _, h => by cases h; exact .nil
  | d :: ds, _, h => by
    cases h with
    | cons h1 h2 => exact .cons (dp_up e d _ h1) (dpa_up e ds _ h2)
end
theorem _root_.L2.Dp.up (e : Ex F F') {v : V} {d : D} (h : Dp K F v d) : Dp K F' v d := dp_up e d v h
theorem _root_.L2.DpAll.up (e : Ex F F') {v : List V} {d : List D} (h : DpAll K F v d) : DpAll K F' v d := dpa_up e d v h
theorem dpa_len : ∀ {vs : List V} {ds : List D}, DpAll K F vs ds → vs.length = ds.length
  | [], _, h => by cases h; rfl
  | _ :: vs, _, h => by
    cases h with
    | cons h1 h2 => simp only [List.length_cons, dpa_len h2]
theorem dpa_app : ∀ {vs ws : List V} {ds es : List D}, DpAll K F vs ds → DpAll K F ws es → DpAll K F (vs ++ ws) (ds ++ es)
  | [], _, _, _, h, q => by cases h; exact q
  | _ :: vs, _, _, _, h, q => by
    cases h with
    | cons h1 h2 => exact .cons h1 (dpa_app h2 q)
theorem dpa_get : ∀ {vs : List V} {ds : List D} {i : Nat} {d : D}, DpAll K F vs ds → ds[i]? = some d → ∃ v, vs[i]? = some v ∧ Dp K F v d
  | [], _, _, _, h, e => by cases h; simp at e
  | v :: vs, _, 0, _, h, e => by
    cases h with
    | cons h1 h2 =>
      simp at e
      subst e
      exact ⟨v, rfl, h1⟩
  | v :: vs, _, i + 1, _, h, e => by
    cases h with
    | cons h1 h2 =>
      simp only [List.getElem?_cons_succ] at e ⊢
      exact dpa_get h2 e
theorem dpa_take : ∀ {vs : List V} {ds : List D} (n : Nat), DpAll K F vs ds → DpAll K F (vs.take n) (ds.take n)
  | [], _, n, h => by cases h; simp; exact .nil
  | v :: vs, _, 0, h => by simp; exact .nil
  | v :: vs, _, n + 1, h => by
    cases h with
    | cons h1 h2 => exact .cons h1 (dpa_take n h2)
theorem dpa_drop : ∀ {vs : List V} {ds : List D} (n : Nat), DpAll K F vs ds → DpAll K F (vs.drop n) (ds.drop n)
  | [], _, n, h => by cases h; simp; exact .nil
  | v :: vs, _, 0, h => h
  | v :: vs, _, n + 1, h => by
    cases h with
    | cons h1 h2 => exact dpa_drop n h2
theorem dpa_set : ∀ {vs : List V} {ds : List D} {v : V} {d : D} (i : Nat), DpAll K F vs ds → Dp K F v d → DpAll K F (vs.set i v) (ds.set i d)
  | [], _, _, _, i, h, q => by cases h; simp; exact .nil
  | v :: vs, _, _, _, 0, h, q => by
    cases h with
    | cons h1 h2 => exact .cons q h2
  | v :: vs, _, _, _, i + 1, h, q => by
    cases h with
    | cons h1 h2 => exact .cons h1 (dpa_set i h2 q)
theorem dpa_rev : ∀ {vs : List V} {ds : List D}, DpAll K F vs ds → DpAll K F vs.reverse ds.reverse
  | [], _, h => by cases h; exact .nil
  | v :: vs, _, h => by
    cases h with
    | cons h1 h2 =>
      rw [List.reverse_cons, List.reverse_cons]
      exact dpa_app (dpa_rev h2) (.cons h1 .nil)
theorem dpa_dropLast {vs : List V} {ds : List D} (h : DpAll K F vs ds) : DpAll K F vs.dropLast ds.dropLast := by
  rw [List.dropLast_eq_take, List.dropLast_eq_take, dpa_len h]
  exact dpa_take _ h
theorem dpa_ints : ∀ ns : List Int, DpAll K F (ns.map V.int) (ns.map PyData.int)
  | [] => .nil
  | n :: ns => .cons (.int n) (dpa_ints ns)
theorem ints_dpa : ∀ {vs : List V} {ns : List Int}, DpAll K F vs (ns.map PyData.int) → vs = ns.map V.int
  | _, [], h => by cases h; rfl
  | _, n :: ns, h => by
    cases h with
    | cons h1 h2 =>
      cases h1
      rw [ints_dpa h2]
      rfl
theorem bools_dpa : ∀ {vs : List V} {ns : List Bool}, DpAll K F vs (ns.map PyData.bool) → vs = ns.map V.bl
  | _, [], h => by cases h; rfl
  | _, n :: ns, h => by
    cases h with
    | cons h1 h2 =>
      cases h1
      rw [bools_dpa h2]
      rfl
end

/-! ### the state -/
/-- what an owned thing holds -/
inductive Ob where
  | lst (ds : List D)
/-- a slot: unknown; data; a thing of this frame's own (l: made here; else a parameter that is changed for the caller) -/
inductive Sl where
  | no | dt (d : D) | ow (l : Bool) (p : Addr) (m : Ob)
abbrev DEnv := List Sl
def ObAt (K : PySem.W.Frag) (F H : Hp) (p : Addr) : Ob → Prop
  | .lst ds => ∃ xs, H p = some (.lst xs) ∧ DpAll K F xs ds
/-- the entry: the heap, its still part, what may be changed for the caller -/
structure Cy where
  H_0 : Hp
  F_0 : Hp
  P : Addr → Prop
  L : Addr → Prop
structure Rp (K : PySem.W.Frag) (c : Cy) (env : DEnv) (σ : L2.St) (F H : Hp) : Prop where
  fh : Ex F H
  base : ∀ a o, c.H_0 a = some o → ¬ c.P a → ¬ c.L a → H a = some o
  lf : ∀ a, c.H_0 a = none → c.L a
  pres : ∀ a o, c.H_0 a = some o → ∃ u, H a = some u
  f0 : Ex c.F_0 F
  fb : ∀ a o, F a = some o → c.F_0 a = some o ∨ c.L a
  len : env.length = σ.length
  val : ∀ (i : Nat) (d : D), env[i]? = some (Sl.dt d) → ∃ v : V, σ[i]? = some (some v) ∧ Dp K F v d
  own : ∀ (i : Nat) (l : Bool) (p : Addr) (m : Ob), env[i]? = some (Sl.ow l p m) → σ[i]? = some (some (V.ref p)) ∧ F p = none ∧ (if l = true then c.L p else c.P p) ∧ ObAt K F H p m
  sep : ∀ (i j : Nat) (l l' : Bool) (p : Addr) (m n : Ob), env[i]? = some (Sl.ow l p m) → env[j]? = some (Sl.ow l' p n) → i = j
/-- F, H grown by new things -/
structure Grow (F H F' H' : Hp) : Prop where
  f : Ex F F'
  h : Ex H H'
  fh : Ex F' H'
  new : ∀ a o, F' a = some o → F a = some o ∨ H a = none
theorem Grow.refl {F H : Hp} (e : Ex F H) : Grow F H F H := ⟨Ex.refl F, Ex.refl H, e, fun _ _ h => .inl h⟩
theorem Grow.trans {F H F1 H1 F2 H2 : Hp} (a : Grow F H F1 H1) (b : Grow F1 H1 F2 H2) : Grow F H F2 H2 :=
  ⟨a.f.trans b.f, a.h.trans b.h, b.fh, fun x o h => by
    rcases b.new x o h with q | q
    · exact a.new x o q
    · exact .inr (a.h.free q)⟩
theorem Grow.one {F H : Hp} {p : Addr} {o : HO} (e : Ex F H) (n : H p = none) : Grow F H (upd F p o) (upd H p o) :=
  ⟨Ex.new (e.free n), Ex.new n, fun a u h => by
    by_cases q : a = p
    · subst q
      rw [upd_same] at h ⊢
      exact h
    · rw [upd_ne q] at h ⊢
      exact e a u h, fun a u h => by
    by_cases q : a = p
    · subst q
      exact .inr n
    · rw [upd_ne q] at h
      exact .inl h⟩
/-- H alone grown -/
theorem Grow.hp {F H H' : Hp} (e : Ex F H) (g : Ex H H') : Grow F H F H' := ⟨Ex.refl F, g, e.trans g, fun _ _ h => .inl h⟩
section
variable {K : PySem.W.Frag} {c : Cy} {env : DEnv} {σ : L2.St} {F H F' H' : Hp}
theorem ObAt.up {p : Addr} {m : Ob} (h : ObAt K F H p m) (f : Ex F F') (g : Ex H H') : ObAt K F' H' p m := by
  cases m with
  | lst ds =>
    obtain ⟨xs, h1, h2⟩ := h
    exact ⟨xs, g p _ h1, h2.up f⟩
theorem ObAt.there {p : Addr} {m : Ob} (h : ObAt K F H p m) : ∃ o, H p = some o := by
  cases m with
  | lst ds =>
    obtain ⟨xs, h1, h2⟩ := h
    exact ⟨_, h1⟩
theorem Rp.grow (R : Rp K c env σ F H) (g : Grow F H F' H') : Rp K c env σ F' H' where
  fh := g.fh
  base := fun a o h n n' => g.h a o (R.base a o h n n')
  lf := R.lf
  pres := fun a o h => let ⟨u, e⟩ := R.pres a o h; ⟨u, g.h a u e⟩
  f0 := R.f0.trans g.f
  fb := fun a o h => by
    rcases g.new a o h with q | q
    · exact R.fb a o q
    · cases z : c.H_0 a with
      | none => exact .inr (R.lf a z)
      | some u =>
        obtain ⟨w, e⟩ := R.pres a u z
        rw [q] at e
        cases e
  len := R.len
  val := fun i d h => by
    obtain ⟨v, h1, h2⟩ := R.val i d h
    exact ⟨v, h1, h2.up g.f⟩
  own := fun i l p m h => by
    obtain ⟨h1, h2, h3, h4⟩ := R.own i l p m h
    refine ⟨h1, ?_, h3, h4.up g.f g.h⟩
    cases q : F' p with
    | none => rfl
    | some o =>
      rcases g.new p o q with z | z
      · rw [h2] at z
        cases z
      · obtain ⟨u, hu⟩ := h4.there
        rw [hu] at z
        cases z
  sep := R.sep
end

section
variable {K : PySem.W.Frag} {c : Cy} {env : DEnv} {σ : L2.St} {F H F' H' : Hp}
theorem get_set_cases {α : Type} {l : List α} {i j : Nat} {a b : α} (h : (l.set i a)[j]? = some b) : (i = j ∧ b = a ∧ j < l.length) ∨ (i ≠ j ∧ l[j]? = some b) := by
  by_cases e : i = j
  · subst e
    rw [List.getElem?_set_self'] at h
    cases q : l[i]? with
    | none => rw [q] at h; simp at h
    | some x =>
      rw [q] at h
      simp at h
      exact .inl ⟨rfl, h.symm, (List.getElem?_eq_some_iff.mp q).1⟩
  · rw [List.getElem?_set_ne e] at h
    exact .inr ⟨e, h⟩
/-- a data slot is stored -/
theorem Rp.set (R : Rp K c env σ F H) (i : Nat) {v : V} {d : D} (h : Dp K F v d) : Rp K c (env.set i (.dt d)) (σ.set i (some v)) F H where
  fh := R.fh
  base := R.base
  lf := R.lf
  pres := R.pres
  f0 := R.f0
  fb := R.fb
  len := by rw [List.length_set, List.length_set, R.len]
  val := fun j e q => by
    rcases get_set_cases q with ⟨rfl, e1, lt⟩ | ⟨ne, q⟩
    · cases e1
      refine ⟨v, ?_, h⟩
      rw [List.getElem?_set_self (by rw [← R.len]; exact lt)]
    · obtain ⟨w, h1, h2⟩ := R.val j e q
      exact ⟨w, by rw [List.getElem?_set_ne ne]; exact h1, h2⟩
  own := fun j l p m q => by
    rcases get_set_cases q with ⟨rfl, e1, lt⟩ | ⟨ne, q⟩
    · cases e1
    · obtain ⟨h1, h2⟩ := R.own j l p m q
      exact ⟨by rw [List.getElem?_set_ne ne]; exact h1, h2⟩
  sep := fun j k l l' p m n q r => by
    rcases get_set_cases q with ⟨rfl, e1, lt⟩ | ⟨ne, q⟩
    · cases e1
    · rcases get_set_cases r with ⟨rfl, e1, lt⟩ | ⟨ne', r⟩
      · cases e1
      · exact R.sep j k l l' p m n q r
/-- a slot is forgotten -/
theorem Rp.drop (R : Rp K c env σ F H) (i : Nat) : Rp K c (env.set i .no) σ F H where
  fh := R.fh
  base := R.base
  lf := R.lf
  pres := R.pres
  f0 := R.f0
  fb := R.fb
  len := by rw [List.length_set, R.len]
  val := fun j e q => by
    rcases get_set_cases q with ⟨rfl, e1, lt⟩ | ⟨ne, q⟩
    · cases e1
    · exact R.val j e q
  own := fun j l p m q => by
    rcases get_set_cases q with ⟨rfl, e1, lt⟩ | ⟨ne, q⟩
    · cases e1
    · exact R.own j l p m q
  sep := fun j k l l' p m n q r => by
    rcases get_set_cases q with ⟨rfl, e1, lt⟩ | ⟨ne, q⟩
    · cases e1
    · rcases get_set_cases r with ⟨rfl, e1, lt⟩ | ⟨ne', r⟩
      · cases e1
      · exact R.sep j k l l' p m n q r
/-- a new list is stored as the frame's own -/
theorem Rp.setOwn (R : Rp K c env σ F H) (i : Nat) {p : Addr} {xs : List V} {ds : List D} (n : H p = none) (h : DpAll K F xs ds) :
    Rp K c (env.set i (.ow true p (.lst ds))) (σ.set i (some (.ref p))) F (upd H p (.lst xs)) where
  fh := R.fh.trans (Ex.new n)
  base := fun a o q z z' => Ex.new n a o (R.base a o q z z')
  lf := R.lf
  pres := fun a o q => let ⟨u, e⟩ := R.pres a o q; ⟨u, Ex.new n a u e⟩
  f0 := R.f0
  fb := R.fb
  len := by rw [List.length_set, List.length_set, R.len]
  val := fun j e q => by
    rcases get_set_cases q with ⟨rfl, e1, lt⟩ | ⟨ne, q⟩
    · cases e1
    · obtain ⟨w, h1, h2⟩ := R.val j e q
      exact ⟨w, by rw [List.getElem?_set_ne ne]; exact h1, h2⟩
  own := fun j l p' m q => by
    rcases get_set_cases q with ⟨rfl, e1, lt⟩ | ⟨ne, q⟩
    · cases e1
      refine ⟨by rw [List.getElem?_set_self (by rw [← R.len]; exact lt)], R.fh.free n, ?_, xs, upd_same, h⟩
      rw [if_pos rfl]
      refine R.lf p ?_
      cases z : c.H_0 p with
      | none => rfl
      | some u =>
        obtain ⟨w, e⟩ := R.pres p u z
        rw [n] at e
        cases e
    · obtain ⟨h1, h2, h3, h4⟩ := R.own j l p' m q
      exact ⟨by rw [List.getElem?_set_ne ne]; exact h1, h2, h3, h4.up (Ex.refl F) (Ex.new n)⟩
  sep := fun j k l l' q m m' a b => by
    have nn : ∀ (t : Nat) (l : Bool) (m : Ob), env[t]? = some (Sl.ow l p m) → False := fun t l m z => by
      obtain ⟨_, _, _, h4⟩ := R.own t l p m z
      obtain ⟨o, ho⟩ := h4.there
      rw [n] at ho
      cases ho
    rcases get_set_cases a with ⟨rfl, e1, lt⟩ | ⟨ne, a⟩
    · cases e1
      rcases get_set_cases b with ⟨rfl, e1, lt⟩ | ⟨ne', b⟩
      · rfl
      · exact (nn _ _ _ b).elim
    · rcases get_set_cases b with ⟨rfl, e1, lt⟩ | ⟨ne', b⟩
      · cases e1
        exact (nn _ _ _ a).elim
      · exact R.sep j k l l' q m m' a b
/-- an owned list is changed -/
theorem Rp.mut (R : Rp K c env σ F H) {i : Nat} {l : Bool} {p : Addr} {m : Ob} {xs : List V} {ds : List D} (hi : env[i]? = some (Sl.ow l p m)) (h : DpAll K F xs ds) :
    Rp K c (env.set i (.ow l p (.lst ds))) σ F (upd H p (.lst xs)) := by
  obtain ⟨o1, o2, o3, o4⟩ := R.own i l p m hi
  have Fne : ∀ a o, F a = some o → a ≠ p := fun a o h z => by
    subst z
    rw [o2] at h
    cases h
  refine ⟨fun a o h => ?_, fun a o q z z' => ?_, R.lf, fun a o q => ?_, R.f0, R.fb, by rw [List.length_set, R.len], fun j e q => ?_, fun j l' p' m' q => ?_, fun j k l l' q m m' a b => ?_⟩
  · rw [upd_ne (Fne a o h)]
    exact R.fh a o h
  · have ne : a ≠ p := fun e => by
      subst e
      cases l with
      | true => exact z' o3
      | false => exact z o3
    rw [upd_ne ne]
    exact R.base a o q z z'
  · by_cases e : a = p
    · subst e
      exact ⟨_, upd_same⟩
    · rw [upd_ne e]
      exact R.pres a o q
  · rcases get_set_cases q with ⟨rfl, e1, lt⟩ | ⟨ne, q⟩
    · cases e1
    · exact R.val j e q
  · rcases get_set_cases q with ⟨rfl, e1, lt⟩ | ⟨ne, q⟩
    · cases e1
      exact ⟨o1, o2, o3, xs, upd_same, h⟩
    · obtain ⟨h1, h2, h3, h4⟩ := R.own j l' p' m' q
      refine ⟨h1, h2, h3, ?_⟩
      have np : p' ≠ p := fun e => ne (R.sep i j l l' p m m' hi (e ▸ q))
      cases m' with
      | lst es =>
        obtain ⟨ys, z1, z2⟩ := h4
        exact ⟨ys, by rw [upd_ne np]; exact z1, z2⟩
  · rcases get_set_cases a with ⟨rfl, e1, lt⟩ | ⟨ne, a⟩
    · cases e1
      rcases get_set_cases b with ⟨rfl, e1, lt⟩ | ⟨ne', b⟩
      · rfl
      · exact R.sep _ _ _ _ _ _ _ hi b
    · rcases get_set_cases b with ⟨rfl, e1, lt⟩ | ⟨ne', b⟩
      · cases e1
        exact R.sep _ _ _ _ _ _ _ a hi
      · exact R.sep j k l l' q m m' a b
/-- an owned list, made here, is given up: it is data from now on -/
theorem Rp.move (R : Rp K c env σ F H) {i : Nat} {p : Addr} {xs : List V} {ds : List D} (hi : env[i]? = some (Sl.ow true p (.lst ds))) (hp : H p = some (.lst xs)) :
    Rp K c (env.set i .no) σ (upd F p (.lst xs)) H := by
  obtain ⟨o1, o2, o3, o4⟩ := R.own i true p _ hi
  rw [if_pos rfl] at o3
  refine ⟨fun a o h => ?_, R.base, R.lf, R.pres, R.f0.trans (Ex.new o2), fun a o h => ?_, by rw [List.length_set, R.len], fun j e q => ?_, fun j l' p' m' q => ?_, fun j k l l' q m m' a b => ?_⟩
  · by_cases e : a = p
    · subst e
      rw [upd_same] at h
      rw [hp]
      exact h
    · rw [upd_ne e] at h
      exact R.fh a o h
  · by_cases e : a = p
    · subst e
      exact .inr o3
    · rw [upd_ne e] at h
      exact R.fb a o h
  · rcases get_set_cases q with ⟨rfl, e1, lt⟩ | ⟨ne, q⟩
    · cases e1
    · obtain ⟨v, h1, h2⟩ := R.val j e q
      exact ⟨v, h1, h2.up (Ex.new o2)⟩
  · rcases get_set_cases q with ⟨rfl, e1, lt⟩ | ⟨ne, q⟩
    · cases e1
    · obtain ⟨h1, h2, h3, h4⟩ := R.own j l' p' m' q
      have np : p' ≠ p := fun e => ne (R.sep i j _ _ p _ _ hi (e ▸ q))
      exact ⟨h1, by rw [upd_ne np]; exact h2, h3, h4.up (Ex.new o2) (Ex.refl H)⟩
  · rcases get_set_cases a with ⟨rfl, e1, lt⟩ | ⟨ne, a⟩
    · cases e1
    · rcases get_set_cases b with ⟨rfl, e1, lt⟩ | ⟨ne', b⟩
      · cases e1
      · exact R.sep j k l l' q m m' a b
end

section
variable {K : PySem.W.Frag} {c : Cy} {env env' : DEnv} {σ σ' : L2.St} {F H F' H' : Hp}
def owns (env : DEnv) (l : Bool) (a : Addr) : Prop := ∃ (i : Nat) (m : Ob), env[i]? = some (Sl.ow l a m)
/-- the entry set to here -/
def Cy.here (c : Cy) (env : DEnv) (F H : Hp) : Cy := ⟨H, F, fun a => c.P a ∧ owns env false a, fun a => c.L a ∧ (H a = none ∨ owns env true a)⟩
theorem Rp.root (R : Rp K c env σ F H) : Rp K (c.here env F H) env σ F H where
  fh := R.fh
  base := fun a o h _ _ => h
  lf := fun a h => ⟨R.lf a (by
    cases z : c.H_0 a with
    | none => rfl
    | some u =>
      obtain ⟨w, e⟩ := R.pres a u z
      rw [show H a = none from h] at e
      cases e), .inl h⟩
  pres := fun a o h => ⟨o, h⟩
  f0 := Ex.refl F
  fb := fun a o h => .inl h
  len := R.len
  val := R.val
  own := fun i l p m h => by
    obtain ⟨h1, h2, h3, h4⟩ := R.own i l p m h
    refine ⟨h1, h2, ?_, h4⟩
    cases l with
    | true => exact ⟨h3, .inr ⟨i, m, h⟩⟩
    | false => exact ⟨h3, i, m, h⟩
  sep := R.sep
theorem Rp.unroot (R : Rp K c env σ F H) (S : Rp K (c.here env F H) env' σ' F' H') : Rp K c env' σ' F' H' where
  fh := S.fh
  base := fun a o h n n' => S.base a o (R.base a o h n n') (fun z => n z.1) fun z => n' z.1
  lf := R.lf
  pres := fun a o h => let ⟨u, e⟩ := R.pres a o h; S.pres a u e
  f0 := R.f0.trans S.f0
  fb := fun a o h => by
    rcases S.fb a o h with q | q
    · exact R.fb a o q
    · exact .inr q.1
  len := S.len
  val := S.val
  own := fun i l p m h => by
    obtain ⟨h1, h2, h3, h4⟩ := S.own i l p m h
    refine ⟨h1, h2, ?_, h4⟩
    cases l with
    | true => exact h3.1
    | false => exact h3.1
  sep := S.sep
/-- what is there, not of the still part, and nobody's own: it stays so -/
structure Apart (env : DEnv) (F H : Hp) (a : Addr) (o : HO) : Prop where
  here : H a = some o
  still : F a = none
  free : ∀ l, ¬ owns env l a
theorem Rp.apart (S : Rp K (c.here env F H) env' σ' F' H') {a : Addr} {o : HO} (h : Apart env F H a o) : Apart env' F' H' a o := by
  have nL : ¬ (c.here env F H).L a := fun z => by
    rcases z.2 with q | q
    · rw [h.here] at q
      cases q
    · exact h.free true q
  have nP : ¬ (c.here env F H).P a := fun z => h.free false z.2
  refine ⟨S.base a o h.here nP nL, ?_, fun l ⟨i, m, q⟩ => ?_⟩
  · cases z : F' a with
    | none => rfl
    | some u =>
      rcases S.fb a u z with q | q
      · have e := h.still
        rw [show F a = some u from q] at e
        cases e
      · exact (nL q).elim
  · obtain ⟨_, _, h3, _⟩ := S.own i l a m q
    cases l with
    | true => exact nL h3
    | false => exact nP h3
end
/-! ### the readings -/
abbrev DK := D → DEnv → Prop
abbrev DE := DEnv → DK → Prop
abbrev DAs := DEnv → (List D → DEnv → Prop) → Prop
abbrev DT := DEnv → (Bool → DEnv → Prop) → Prop
abbrev DG := D → DEnv → (DEnv → Prop) → Prop
abbrev DGs := List D → DEnv → (DEnv → Prop) → Prop
structure EndsD where
  nx : DEnv → Prop
  rt : D → DEnv → Prop
  bk : DEnv → Prop := fun _ => False
  ct : DEnv → Prop := fun _ => False
abbrev DS := EndsD → DEnv → Prop
def Up {α : Type} (t : DEnv → (α → DEnv → Prop) → Prop) : Prop := ∀ (env : DEnv) (Q Q' : α → DEnv → Prop), (∀ a e, Q a e → Q' a e) → t env Q → t env Q'
def UpG {α : Type} (t : α → DEnv → (DEnv → Prop) → Prop) : Prop := ∀ (a : α) (env : DEnv) (Q Q' : DEnv → Prop), (∀ e, Q e → Q' e) → t a env Q → t a env Q'
structure EndsD.le (D D' : EndsD) : Prop where
  nx : ∀ e, D.nx e → D'.nx e
  rt : ∀ d e, D.rt d e → D'.rt d e
  bk : ∀ e, D.bk e → D'.bk e
  ct : ∀ e, D.ct e → D'.ct e
def UpS (t : DS) : Prop := ∀ (env : DEnv) (D D' : EndsD), D.le D' → t D env → t D' env

/-- the slots but ws are as they were -/
def Off (ws : List Nat) (σ σ' : L2.St) : Prop := σ'.length = σ.length ∧ ∀ i, i ∉ ws → σ'[i]? = σ[i]?
section
variable (K : PySem.W.Frag)
def eOf (t : DE) : TE := fun σ H Q => ∃ c F env, Rp K c env σ F H ∧ t env fun d env' => ∀ v F' H', Ex F F' → Rp K c env' σ F' H' → Dp K F' v d → Q v H'
def aOf (t : DAs) : TA := fun σ H Q => ∃ c F env, Rp K c env σ F H ∧ t env fun ds env' => ∀ vs F' H', Ex F F' → Rp K c env' σ F' H' → DpAll K F' vs ds → Q vs H'
def bOf (t : DT) : TT := fun σ H Q => ∃ c F env, Rp K c env σ F H ∧ t env fun b env' => ∀ F' H', Ex F F' → Rp K c env' σ F' H' → Q b H'
/-- a new list -/
def lOf (t : DAs) : TE := fun σ H Q => ∃ c F env, Rp K c env σ F H ∧ t env fun ds env' => ∀ p xs F' H', Ex F F' → Rp K c env' σ F' H' → H' p = none → DpAll K F' xs ds → Q (.ref p) (upd H' p (.lst xs))
def gOf (g : DG) (ws : List Nat) : TG := fun v σ H Q => ∃ c F env d, Rp K c env σ F H ∧ Dp K F v d ∧ g d env fun env' => ∀ σ' F' H', Ex F F' → Rp K c env' σ' F' H' → Off ws σ σ' → Q σ' H'
def gsOf (g : DGs) (ws : List Nat) : TGs := fun vs σ H Q => ∃ c F env ds, Rp K c env σ F H ∧ DpAll K F vs ds ∧ g ds env fun env' => ∀ σ' F' H', Ex F F' → Rp K c env' σ' F' H' → Off ws σ σ' → Q σ' H'
def endsOf (c : Cy) (F : Hp) (E : Ends) : EndsD where
  nx := fun env' => ∀ σ' F' H', Ex F F' → Rp K c env' σ' F' H' → E.nx σ' H'
  rt := fun d env' => ∀ v σ' F' H', Ex F F' → Rp K c env' σ' F' H' → Dp K F' v d → E.rt v H'
  bk := fun env' => ∀ σ' F' H', Ex F F' → Rp K c env' σ' F' H' → E.bk σ' H'
  ct := fun env' => ∀ σ' F' H', Ex F F' → Rp K c env' σ' F' H' → E.ct σ' H'
def sOf (t : DS) : TS := fun E σ H => ∃ c F env, Rp K c env σ F H ∧ t (endsOf K c F E) env
end
theorem endsOf_up {K : PySem.W.Frag} {c : Cy} {F F' : Hp} {E : Ends} (e : Ex F F') : (endsOf K c F E).le (endsOf K c F' E) :=
  ⟨fun _ h σ' F2 H' a => h σ' F2 H' (e.trans a), fun _ _ h v σ' F2 H' a => h v σ' F2 H' (e.trans a), fun _ h σ' F2 H' a => h σ' F2 H' (e.trans a), fun _ h σ' F2 H' a => h σ' F2 H' (e.trans a)⟩
structure PEd (X : Cx) (e : Expr) (t : DE) : Prop where
  up : Up t
  pe : PE X e (eOf X.K t)
structure PAd (X : Cx) (es : List Expr) (t : DAs) : Prop where
  up : Up t
  pa : PA X es (aOf X.K t)
structure PTd (X : Cx) (e : Expr) (t : DT) : Prop where
  up : Up t
  pt : PT X e (bOf X.K t)
structure PWd (X : Cx) (e : Expr) (t : DT) : Prop where
  up : Up t
  pw : PW X e (bOf X.K t)
structure PLd (X : Cx) (e : Expr) (t : DAs) : Prop where
  up : Up t
  pe : PE X e (lOf X.K t)
structure PGd (X : Cx) (e : Expr) (g : DG) (ws : List Nat) : Prop where
  up : UpG g
  pg : PG X e (gOf X.K g ws)
structure PGsd (X : Cx) (e : List Expr) (g : DGs) (ws : List Nat) : Prop where
  up : UpG g
  pg : PGs X e (gsOf X.K g ws)
structure PSd (X : Cx) (s : Stmt) (t : DS) : Prop where
  up : UpS t
  ps : PS X s (sOf X.K t)
structure PSsd (X : Cx) (s : List Stmt) (t : DS) : Prop where
  up : UpS t
  ps : PSs X s (sOf X.K t)

theorem PE.weak {X : Cx} {e : Expr} {t t' : TE} (h : PE X e t) (w : ∀ σ H Q, t' σ H Q → t σ H Q) : PE X e t' := ⟨fun pins s σ H Q I q => h.run pins s σ H Q I (w σ H Q q)⟩
theorem PA.weak {X : Cx} {e : List Expr} {t t' : TA} (h : PA X e t) (w : ∀ σ H Q, t' σ H Q → t σ H Q) : PA X e t' := ⟨fun pos pins s σ H Q I q => h.run pos pins s σ H Q I (w σ H Q q)⟩
theorem PT.weak {X : Cx} {e : Expr} {t t' : TT} (h : PT X e t) (w : ∀ σ H Q, t' σ H Q → t σ H Q) : PT X e t' := ⟨fun pins s σ H Q I q => h.run pins s σ H Q I (w σ H Q q)⟩
theorem PW.weak {X : Cx} {e : Expr} {t t' : TT} (h : PW X e t) (w : ∀ σ H Q, t' σ H Q → t σ H Q) : PW X e t' := ⟨fun wh pins s σ H Q I q => h.run wh pins s σ H Q I (w σ H Q q)⟩
theorem PG.weak {X : Cx} {e : Expr} {t t' : TG} (h : PG X e t) (w : ∀ v σ H Q, t' v σ H Q → t v σ H Q) : PG X e t' := ⟨fun pins s σ H v u Q I r q => h.run pins s σ H v u Q I r (w v σ H Q q)⟩
theorem PGs.weak {X : Cx} {e : List Expr} {t t' : TGs} (h : PGs X e t) (w : ∀ v σ H Q, t' v σ H Q → t v σ H Q) : PGs X e t' := ⟨fun pins s σ H v u Q I r q => h.run pins s σ H v u Q I r (w v σ H Q q)⟩
theorem PS.weak {X : Cx} {e : Stmt} {t t' : TS} (h : PS X e t) (w : ∀ E σ H, t' E σ H → t E σ H) : PS X e t' := ⟨fun pins s σ H E I q => h.run pins s σ H E I (w E σ H q)⟩
theorem PSs.weak {X : Cx} {e : List Stmt} {t t' : TS} (h : PSs X e t) (w : ∀ E σ H, t' E σ H → t E σ H) : PSs X e t' := ⟨fun pins s σ H E I q => h.run pins s σ H E I (w E σ H q)⟩

/-! ### names, constants -/
section
variable {X : Cx} {e a b : Expr} {es : List Expr} {ta tb tc : DE} {pos : Pos}
def dVar (i : Nat) : DE := fun env Q => ∃ d, env[i]? = some (Sl.dt d) ∧ Q d env
def dC (d : D) : DE := fun env Q => Q d env
theorem ed_var {i : Nat} (h : PE X e (tVar i)) : PEd X e (dVar i) :=
  ⟨fun _ _ _ w ⟨d, h, q⟩ => ⟨d, h, w _ _ q⟩, PE.weak h fun σ H Q ⟨c, F, env, R, d, he, q⟩ =>
    let ⟨v, hv, hd⟩ := R.val i d he
    ⟨v, hv, q v F H (Ex.refl F) R hd⟩⟩
theorem ed_c {v : V} {d : D} (h : PE X e (tC v)) (hd : ∀ F, Dp X.K F v d) : PEd X e (dC d) :=
  ⟨fun _ _ _ w q => w _ _ q, PE.weak h fun σ H Q ⟨c, F, env, R, q⟩ => q v F H (Ex.refl F) R (hd F)⟩
theorem ed_int {i j pos} : PEd X (.Constant (.int i) j pos) (dC (.int i)) := ed_c pe_int fun _ => .int _
theorem ed_bl {i j pos} : PEd X (.Constant (.bool i) j pos) (dC (.bool i)) := ed_c pe_bl fun _ => .bl _
theorem ed_str {i j pos} : PEd X (.Constant (.str i) j pos) (dC (.str i)) := ed_c pe_str fun _ => .str _
theorem ed_non {j pos} : PEd X (.Constant .none j pos) (dC .none) := ed_c pe_non fun _ => .non
theorem ed_gi {x : Str} {i : Int} {t : Tok} {pos : Pos} (hg : Gl X x) (hm : X.mg x = some (.int i t)) (hd : (x == ("__debug__" : Str)) = false := by decide) : PEd X (.Name x pos) (dC (.int i)) :=
  ed_c (v := .int i) (pe_glob hg hm ⟨t, rfl⟩ hd) fun _ => .int _
theorem ed_gs {x : Str} {i : Str} {t : Tok} {pos : Pos} (hg : Gl X x) (hm : X.mg x = some (.str i t)) (hd : (x == ("__debug__" : Str)) = false := by decide) : PEd X (.Name x pos) (dC (.str i)) :=
  ed_c (v := .str i) (pe_glob hg hm ⟨t, rfl⟩ hd) fun _ => .str _
/-- a name that is not read through, whatever it holds: an owned list given up -/
def dMove (i : Nat) : DE := fun env Q => ∃ p ds, env[i]? = some (Sl.ow true p (.lst ds)) ∧ Q (.list ds) (env.set i .no)
theorem ed_move {i : Nat} (h : PE X e (tVar i)) : PEd X e (dMove i) :=
  ⟨fun _ _ _ w ⟨p, d, h, q⟩ => ⟨p, d, h, w _ _ q⟩, PE.weak h fun σ H Q ⟨c, F, env, R, p, ds, he, q⟩ => by
    obtain ⟨h1, h2, h3, xs, h4, h5⟩ := R.own i true p _ he
    exact ⟨.ref p, h1, q _ _ H (Ex.new h2) (R.move he h4) (.lst (.inl (.inl upd_same)) (h5.up (Ex.new h2)))⟩⟩

/-! ### two values -/
abbrev F2 := D → D → (D → Prop) → Prop
def d2 (f : F2) (ta tb : DE) : DE := fun env Q => ta env fun x env1 => tb env1 fun y env2 => f x y fun z => Q z env2
def UpF (f : F2) : Prop := ∀ (x y : D) (Q Q' : D → Prop), (∀ z, Q z → Q' z) → f x y Q → f x y Q'
def Link (K : PySem.W.Frag) (r : R2) (f : F2) : Prop := ∀ (F H : Hp) (v w : V) (x y : D) (Qd : D → Prop) (Qr : VK), Ex F H → Dp K F v x → Dp K F w y → f x y Qd →
  (∀ z H' F' d, Grow F H F' H' → Dp K F' z d → Qd d → Qr z H') → r v w H Qr
theorem ed_2 {r : R2} {f : F2} (hpe : ∀ {ta' tb' : TE}, PE X a ta' → PE X b tb' → PE X e (tOp r ta' tb')) (l : Link X.K r f) (m : UpF f) (ha : PEd X a ta) (hb : PEd X b tb) : PEd X e (d2 f ta tb) := by
  refine ⟨fun env Q Q' w h => ha.up _ _ _ (fun x e1 h1 => hb.up _ _ _ (fun y e2 h2 => m x y _ _ (fun z => w z e2) h2) h1) h, PE.weak (hpe ha.pe hb.pe) fun σ H Q ⟨c, F, env, R, h⟩ => ?_⟩
  refine ⟨c, F, env, R, ha.up _ _ _ (fun x e1 h1 v F1 H1 g1 R1 d1 => ?_) h⟩
  refine ⟨c, F1, e1, R1, hb.up _ _ _ (fun y e2 h2 w F2 H2 g2 R2 d2 => ?_) h1⟩
  exact l F2 H2 v w x y _ _ R2.fh (d1.up g2) d2 h2 fun z H' F' d g dz q => q z F' H' ((g1.trans g2).trans g.f) (R2.grow g) dz

/-! ### one value -/
abbrev F1 := D → (D → Prop) → Prop
def d1 (f : F1) (ta : DE) : DE := fun env Q => ta env fun x env1 => f x fun z => Q z env1
def UpF1 (f : F1) : Prop := ∀ (x : D) (Q Q' : D → Prop), (∀ z, Q z → Q' z) → f x Q → f x Q'
def Link1 (K : PySem.W.Frag) (r : V → Hp → VK → Prop) (f : F1) : Prop := ∀ (F H : Hp) (v : V) (x : D) (Qd : D → Prop) (Qr : VK), Ex F H → Dp K F v x → f x Qd →
  (∀ z H' F' d, Grow F H F' H' → Dp K F' z d → Qd d → Qr z H') → r v H Qr
theorem ed_1 {r : V → Hp → VK → Prop} {f : F1} (hpe : ∀ {ta' : TE}, PE X a ta' → PE X e (tUn r ta')) (l : Link1 X.K r f) (m : UpF1 f) (ha : PEd X a ta) : PEd X e (d1 f ta) := by
  refine ⟨fun env Q Q' w h => ha.up _ _ _ (fun x e1 h1 => m x _ _ (fun z => w z e1) h1) h, PE.weak (hpe ha.pe) fun σ H Q ⟨c, F, env, R, h⟩ => ?_⟩
  refine ⟨c, F, env, R, ha.up _ _ _ (fun x e1 h1 v F1 H1 g1 R1 d1 => ?_) h⟩
  exact l F1 H1 v x _ _ R1.fh d1 h1 fun z H' F' d g dz q => q z F' H' (g1.trans g.f) (R1.grow g) dz

/-! ### arguments -/
def dNil : DAs := fun env Q => Q [] env
def dCons (ta : DE) (tr : DAs) : DAs := fun env Q => ta env fun x env1 => tr env1 fun xs env2 => Q (x :: xs) env2
def dStar (ta : DE) (tr : DAs) : DAs := fun env Q => ta env fun x env1 => ∃ ys, (x = .list ys ∨ x = .tuple ys) ∧ tr env1 fun xs env2 => Q (ys ++ xs) env2
variable {tr : DAs}
theorem ad_nil : PAd X [] dNil := ⟨fun _ _ _ w q => w _ _ q, PA.weak pa_nil fun σ H Q ⟨c, F, env, R, q⟩ => q [] F H (Ex.refl F) R .nil⟩
theorem ad_cons (ha : PEd X a ta) (hr : PAd X es tr) (hs : starEach (a :: es) X.env = (false, eval a X.env) :: starEach es X.env := by rfl) : PAd X (a :: es) (dCons ta tr) := by
  refine ⟨fun env Q Q' w h => ha.up _ _ _ (fun x e1 h1 => hr.up _ _ _ (fun y e2 h2 => w _ _ h2) h1) h, PA.weak (pa_cons ha.pe hr.pa hs) fun σ H Q ⟨c, F, env, R, h⟩ => ?_⟩
  refine ⟨c, F, env, R, ha.up _ _ _ (fun x e1 h1 v F1 H1 g1 R1 d1 => ?_) h⟩
  refine ⟨c, F1, e1, R1, hr.up _ _ _ (fun ys e2 h2 ws F2 H2 g2 R2 d2 => ?_) h1⟩
  exact h2 _ _ _ (g1.trans g2) R2 (.cons (d1.up g2) d2)
theorem ad_star {p : Pos} (ha : PEd X a ta) (hr : PAd X es tr) (hs : starEach (.Starred a p :: es) X.env = (true, eval a X.env) :: starEach es X.env := by rfl) : PAd X (.Starred a p :: es) (dStar ta tr) := by
  refine ⟨fun env Q Q' w h => ha.up _ _ _ (fun x e1 ⟨ys, hy, h1⟩ => ⟨ys, hy, hr.up _ _ _ (fun y e2 h2 => w _ _ h2) h1⟩) h, PA.weak (StX.pa_star ha.pe hr.pa hs) fun σ H Q ⟨c, F, env, R, h⟩ => ?_⟩
  refine ⟨c, F, env, R, ha.up _ _ _ (fun x e1 ⟨ys, hy, h1⟩ v F1 H1 g1 R1 d1 => ?_) h⟩
  have key : ∃ p xs, v = V.ref p ∧ (SqT X.K H1 p xs ∨ SqL X.K H1 p xs) ∧ DpAll X.K F1 xs ys := by
    rcases hy with rfl | rfl
    · cases d1 with
      | lst s1 s2 => exact ⟨_, _, rfl, .inr (ex_l R1.fh s1), s2⟩
    · cases d1 with
      | tup s1 s2 => exact ⟨_, _, rfl, .inl (ex_t R1.fh s1), s2⟩
  obtain ⟨p, xs, e1', e2', e3'⟩ := key
  refine ⟨p, xs, e1', e2', c, F1, e1, R1, hr.up _ _ _ (fun zs e2 h2 ws F2 H2 g2 R2 d2 => ?_) h1⟩
  exact h2 _ _ _ (g1.trans g2) R2 (dpa_app (e3'.up g2) d2)

/-! ### displays -/
def dTup (t : DAs) : DE := fun env Q => t env fun ds env' => ds.length ≤ 16777216 ∧ Q (.tuple ds) env'
def dLst (t : DAs) : DE := fun env Q => t env fun ds env' => ds.length ≤ 16777216 ∧ Q (.list ds) env'
def dLstN (t : DAs) : DAs := fun env Q => t env fun ds env' => ds.length ≤ 16777216 ∧ Q ds env'
variable {t : DAs}
theorem ed_tup {x1} (h : PAd X es t) : PEd X (.Tuple es x1 pos) (dTup t) := by
  refine ⟨fun env Q Q' w h' => h.up _ _ _ (fun x e1 h1 => ⟨h1.1, w _ _ h1.2⟩) h', PE.weak (pe_tup h.pa) fun σ H Q ⟨c, F, env, R, h'⟩ => ?_⟩
  refine ⟨c, F, env, R, h.up _ _ _ (fun ds e1 h1 vs F1 H1 g1 R1 d1 => ⟨by rw [dpa_len d1, sizeLine_eq]; exact h1.1, fun p np => ?_⟩) h'⟩
  have g := Grow.one (o := .tup vs) R1.fh np
  exact h1.2 _ _ _ (g1.trans g.f) (R1.grow g) (.tup (.inl (.inl upd_same)) (d1.up g.f))
theorem ld_lst (h : PAd X es t) : PLd X (.List es pos) (dLstN t) := by
  refine ⟨fun env Q Q' w h' => h.up _ _ _ (fun x e1 h1 => ⟨h1.1, w _ _ h1.2⟩) h', PE.weak (pe_lst h.pa) fun σ H Q ⟨c, F, env, R, h'⟩ => ?_⟩
  exact ⟨c, F, env, R, h.up _ _ _ (fun ds e1 h1 vs F1 H1 g1 R1 d1 => ⟨by rw [dpa_len d1, sizeLine_eq]; exact h1.1, fun p np => h1.2 p vs F1 H1 g1 R1 np d1⟩) h'⟩
/-- a new list as data -/
def dNew (t : DAs) : DE := fun env Q => t env fun ds env' => Q (.list ds) env'
theorem ed_new (h : PLd X e t) : PEd X e (dNew t) := by
  refine ⟨fun env Q Q' w h' => h.up _ _ _ (fun x e1 h1 => w _ _ h1) h', PE.weak h.pe fun σ H Q ⟨c, F, env, R, h'⟩ => ?_⟩
  refine ⟨c, F, env, R, h.up _ _ _ (fun ds e1 h1 p xs F1 H1 g1 R1 np d1 => ?_) h'⟩
  have g := Grow.one (o := .lst xs) R1.fh np
  exact h1 _ _ _ (g1.trans g.f) (R1.grow g) (.lst (.inl (.inl upd_same)) (d1.up g.f))

/-! ### tests -/
def dB (t : DE) : DT := fun env Q => t env fun d env' => ∃ b, d = .bool b ∧ Q b env'
def bAnd (t u : DT) : DT := fun env Q => t env fun b env' => if b = true then u env' Q else Q false env'
def bOr (t u : DT) : DT := fun env Q => t env fun b env' => if b = true then Q true env' else u env' Q
def bNot (t : DT) : DT := fun env Q => t env fun b env' => Q (!b) env'
variable {tt tu : DT}
theorem Up.dB (h : Up ta) : Up (dB ta) := fun _ _ _ w q => h _ _ _ (fun _ _ ⟨b, e, q⟩ => ⟨b, e, w _ _ q⟩) q
theorem Up.and (h : Up tt) (h' : Up tu) : Up (bAnd tt tu) := fun _ _ _ w q => h _ _ _ (fun b _ q => by
  cases b with
  | true => exact h' _ _ _ w q
  | false => exact w _ _ q) q
theorem Up.or (h : Up tt) (h' : Up tu) : Up (bOr tt tu) := fun _ _ _ w q => h _ _ _ (fun b _ q => by
  cases b with
  | true => exact w _ _ q
  | false => exact h' _ _ _ w q) q
theorem Up.not (h : Up tt) : Up (bNot tt) := fun _ _ _ w q => h _ _ _ (fun b _ q => w _ _ q) q
theorem td_val (h : PEd X e ta) (he : ∀ whole, isTrue e X.env whole = (do let v ← whole; standAt e.pos; holding [v] (truthy v)) := by intro _; rfl) : PTd X e (dB ta) :=
  ⟨h.up.dB, PT.weak (pt_val h.pe he) fun σ H Q ⟨c, F, env, R, q⟩ => ⟨c, F, env, R, h.up _ _ _ (fun d env' ⟨b, e, q⟩ v F' H' g R' dp => by
    subst e
    cases dp
    exact ⟨b, rfl, q F' H' g R'⟩) q⟩⟩
theorem td_2 {r : R2} {f : F2} (hpe : ∀ {ta' tb' : TE}, PE X a ta' → PE X b tb' → PT X e (tTest (tOp r ta' tb'))) (l : Link X.K r f) (m : UpF f) (ha : PEd X a ta) (hb : PEd X b tb) : PTd X e (dB (d2 f ta tb)) := by
  refine ⟨Up.dB fun env Q Q' w h => ha.up _ _ _ (fun x e1 h1 => hb.up _ _ _ (fun y e2 h2 => m x y _ _ (fun z => w z e2) h2) h1) h, PT.weak (hpe ha.pe hb.pe) fun σ H Q ⟨c, F, env, R, h⟩ => ?_⟩
  refine ⟨c, F, env, R, ha.up _ _ _ (fun x e1 h1 v F1 H1 g1 R1 d1 => ?_) h⟩
  refine ⟨c, F1, e1, R1, hb.up _ _ _ (fun y e2 h2 w F2 H2 g2 R2 d2 => ?_) h1⟩
  refine l F2 H2 v w x y _ _ R2.fh (d1.up g2) d2 h2 fun z H' F' d g dz ⟨k, ek, q⟩ => ?_
  subst ek
  cases dz
  exact ⟨k, rfl, q F' H' ((g1.trans g2).trans g.f) (R2.grow g)⟩
theorem wd_and1 (ha : PTd X a tt) : PWd X (.BoolOp .And [a] pos) tt := ⟨ha.up, pw_and1 ha.pt⟩
theorem wd_or1 (ha : PTd X a tt) : PWd X (.BoolOp .Or [a] pos) tt := ⟨ha.up, pw_or1 ha.pt⟩
theorem wd_and (ha : PTd X a tt) (hb : PWd X (.BoolOp .And (b :: es) pos) tu) : PWd X (.BoolOp .And (a :: b :: es) pos) (bAnd tt tu) :=
  ⟨ha.up.and hb.up, PW.weak (pw_and ha.pt hb.pw) fun σ H Q ⟨c, F, env, R, q⟩ => ⟨c, F, env, R, ha.up _ _ _ (fun k env' q F' H' g R' => by
    cases k with
    | true =>
      rw [if_pos rfl] at q ⊢
      exact ⟨c, F', env', R', hb.up _ _ _ (fun k2 e2 q F2 H2 g2 R2 => q F2 H2 (g.trans g2) R2) q⟩
    | false =>
      rw [if_neg Bool.false_ne_true] at q ⊢
      exact q F' H' g R') q⟩⟩
theorem wd_or (ha : PTd X a tt) (hb : PWd X (.BoolOp .Or (b :: es) pos) tu) : PWd X (.BoolOp .Or (a :: b :: es) pos) (bOr tt tu) :=
  ⟨ha.up.or hb.up, PW.weak (pw_or ha.pt hb.pw) fun σ H Q ⟨c, F, env, R, q⟩ => ⟨c, F, env, R, ha.up _ _ _ (fun k env' q F' H' g R' => by
    cases k with
    | false =>
      rw [if_neg Bool.false_ne_true] at q ⊢
      exact ⟨c, F', env', R', hb.up _ _ _ (fun k2 e2 q F2 H2 g2 R2 => q F2 H2 (g.trans g2) R2) q⟩
    | true =>
      rw [if_pos rfl] at q ⊢
      exact q F' H' g R') q⟩⟩
theorem td_w (h : PWd X e tt) : PTd X e tt := ⟨h.up, h.pw.pt⟩
theorem td_not (ha : PTd X a tt) : PTd X (.UnaryOp .Not a pos) (bNot tt) :=
  ⟨ha.up.not, PT.weak (pt_not ha.pt) fun σ H Q ⟨c, F, env, R, q⟩ => ⟨c, F, env, R, q⟩⟩
/-- and, or, not as values of truth values -/
def dAnd (t u : DE) : DE := fun env Q => t env fun d env' => ∃ b, d = .bool b ∧ if b = true then u env' Q else Q (.bool false) env'
def dOr (t u : DE) : DE := fun env Q => t env fun d env' => ∃ b, d = .bool b ∧ if b = true then Q (.bool true) env' else u env' Q
def dNot (t : DE) : DE := fun env Q => t env fun d env' => ∃ b, d = .bool b ∧ Q (.bool (!b)) env'
def dIf (c : DT) (t u : DE) : DE := fun env Q => c env fun b env' => if b = true then t env' Q else u env' Q
theorem ed_one {op} (h : PEd X a ta) : PEd X (.BoolOp op [a] pos) ta := ⟨h.up, pe_one h.pe⟩
theorem ed_and (ha : PEd X a ta) (hb : PEd X (.BoolOp .And (b :: es) pos) tb) : PEd X (.BoolOp .And (a :: b :: es) pos) (dAnd ta tb) := by
  refine ⟨fun env Q Q' w h => ha.up _ _ _ (fun x e1 ⟨k, ek, q⟩ => ⟨k, ek, ?_⟩) h, PE.weak (pe_and ha.pe hb.pe) fun σ H Q ⟨c, F, env, R, q⟩ => ⟨c, F, env, R, ha.up _ _ _ (fun d env' ⟨k, ek, q⟩ v F' H' g R' dp => ?_) q⟩⟩
  · cases k with
    | true => exact hb.up _ _ _ w q
    | false => exact w _ _ q
  · subst ek
    cases dp
    refine ⟨k, rfl, ?_⟩
    cases k with
    | true =>
      rw [if_pos rfl] at q ⊢
      exact ⟨c, F', env', R', hb.up _ _ _ (fun k2 e2 q v F2 H2 g2 R2 => q v F2 H2 (g.trans g2) R2) q⟩
    | false =>
      rw [if_neg Bool.false_ne_true] at q ⊢
      exact q _ F' H' g R' (.bl _)
theorem ed_or (ha : PEd X a ta) (hb : PEd X (.BoolOp .Or (b :: es) pos) tb) : PEd X (.BoolOp .Or (a :: b :: es) pos) (dOr ta tb) := by
  refine ⟨fun env Q Q' w h => ha.up _ _ _ (fun x e1 ⟨k, ek, q⟩ => ⟨k, ek, ?_⟩) h, PE.weak (pe_or ha.pe hb.pe) fun σ H Q ⟨c, F, env, R, q⟩ => ⟨c, F, env, R, ha.up _ _ _ (fun d env' ⟨k, ek, q⟩ v F' H' g R' dp => ?_) q⟩⟩
  · cases k with
    | false => exact hb.up _ _ _ w q
    | true => exact w _ _ q
  · subst ek
    cases dp
    refine ⟨k, rfl, ?_⟩
    cases k with
    | false =>
      rw [if_neg Bool.false_ne_true] at q ⊢
      exact ⟨c, F', env', R', hb.up _ _ _ (fun k2 e2 q v F2 H2 g2 R2 => q v F2 H2 (g.trans g2) R2) q⟩
    | true =>
      rw [if_pos rfl] at q ⊢
      exact q _ F' H' g R' (.bl _)
theorem ed_not (ha : PEd X a ta) : PEd X (.UnaryOp .Not a pos) (dNot ta) := by
  refine ⟨fun env Q Q' w h => ha.up _ _ _ (fun x e1 ⟨k, ek, q⟩ => ⟨k, ek, w _ _ q⟩) h, PE.weak (pe_not ha.pe) fun σ H Q ⟨c, F, env, R, q⟩ => ⟨c, F, env, R, ha.up _ _ _ (fun d env' ⟨k, ek, q⟩ v F' H' g R' dp => ?_) q⟩⟩
  subst ek
  cases dp
  exact ⟨k, rfl, q _ F' H' g R' (.bl _)⟩
theorem ed_if {x : Expr} (hc : PTd X x tt) (ha : PEd X a ta) (hb : PEd X b tb) : PEd X (.IfExp x a b pos) (dIf tt ta tb) := by
  refine ⟨fun env Q Q' w h => hc.up _ _ _ (fun k e1 q => ?_) h, PE.weak (pe_ifExp hc.pt ha.pe hb.pe) fun σ H Q ⟨c, F, env, R, q⟩ => ⟨c, F, env, R, hc.up _ _ _ (fun k env' q F' H' g R' => ?_) q⟩⟩
  · cases k with
    | false => exact hb.up _ _ _ w q
    | true => exact ha.up _ _ _ w q
  · cases k with
    | false =>
      rw [if_neg Bool.false_ne_true] at q ⊢
      exact ⟨c, F', env', R', hb.up _ _ _ (fun k2 e2 q v F2 H2 g2 R2 => q v F2 H2 (g.trans g2) R2) q⟩
    | true =>
      rw [if_pos rfl] at q ⊢
      exact ⟨c, F', env', R', ha.up _ _ _ (fun k2 e2 q v F2 H2 g2 R2 => q v F2 H2 (g.trans g2) R2) q⟩
end
end PD

namespace PD
open PySem PySem.Spec PyProof.Rows L2
/-! ### operators on data -/
def fAdd : F2 := fun x y Q => match x, y with
  | .int i, .int j => Q (.int (i + j))
  | .tuple xs, .tuple ys => xs.length + ys.length ≤ 16777216 ∧ Q (.tuple (xs ++ ys))
  | .list xs, .list ys => xs.length + ys.length ≤ 16777216 ∧ Q (.list (xs ++ ys))
  | .str a, .str b => a.length + b.length ≤ 16777216 ∧ Q (.str (a ++ b))
  | _, _ => False
def fSub : F2 := fun x y Q => match x, y with
  | .int i, .int j => Q (.int (i - j))
  | _, _ => False
def fMul : F2 := fun x y Q => match x, y with
  | .int i, .int j => (i.natAbs < 2 ^ 1500 ∧ j.natAbs < 2 ^ 1500) ∧ Q (.int (i * j))
  | _, _ => False
def fDiv : F2 := fun x y Q => match x, y with
  | .int i, .int j => (0 < j ∧ j.natAbs < 2 ^ 1500) ∧ Q (.int (i / j))
  | _, _ => False
def fMod : F2 := fun x y Q => match x, y with
  | .int i, .int j => 0 < j ∧ Q (.int (i % j))
  | _, _ => False
def fPow : F2 := fun x y Q => match x, y with
  | .int i, .int j => (0 ≤ j ∧ j ≤ 1000 ∧ i.natAbs < 2 ^ 1500) ∧ Q (.int (i ^ j.toNat))
  | _, _ => False
def fNeg : F1 := fun x Q => match x with
  | .int i => Q (.int (-i))
  | _ => False
theorem up_add : UpF fAdd := fun x y Q Q' w h => by cases x <;> cases y <;> first | exact w _ h | exact ⟨h.1, w _ h.2⟩ | exact h.elim
theorem up_sub : UpF fSub := fun x y Q Q' w h => by cases x <;> cases y <;> first | exact w _ h | exact ⟨h.1, w _ h.2⟩ | exact h.elim
theorem up_mul : UpF fMul := fun x y Q Q' w h => by cases x <;> cases y <;> first | exact ⟨h.1, w _ h.2⟩ | exact h.elim
theorem up_div : UpF fDiv := fun x y Q Q' w h => by cases x <;> cases y <;> first | exact ⟨h.1, w _ h.2⟩ | exact h.elim
theorem up_mod : UpF fMod := fun x y Q Q' w h => by cases x <;> cases y <;> first | exact ⟨h.1, w _ h.2⟩ | exact h.elim
theorem up_pow : UpF fPow := fun x y Q Q' w h => by cases x <;> cases y <;> first | exact ⟨h.1, w _ h.2⟩ | exact h.elim
theorem up_neg : UpF1 fNeg := fun x Q Q' w h => by cases x <;> first | exact w _ h | exact h.elim
section
variable {K : PySem.W.Frag} {F H : Hp}
theorem dp_int {v : V} {i : Int} (h : Dp K F v (.int i)) : v = .int i := by cases h; rfl
theorem dp_bool {v : V} {i : Bool} (h : Dp K F v (.bool i)) : v = .bl i := by cases h; rfl
theorem dp_str {v : V} {i : Str} (h : Dp K F v (.str i)) : v = .str i := by cases h; rfl
theorem dp_none {v : V} (h : Dp K F v .none) : v = .non := by cases h; rfl
theorem dp_tup {v : V} {ds : List D} (h : Dp K F v (.tuple ds)) : ∃ p xs, v = .ref p ∧ SqT K F p xs ∧ DpAll K F xs ds := by
  cases h with
  | tup a b => exact ⟨_, _, rfl, a, b⟩
theorem dp_lst {v : V} {ds : List D} (h : Dp K F v (.list ds)) : ∃ p xs, v = .ref p ∧ SqL K F p xs ∧ DpAll K F xs ds := by
  cases h with
  | lst a b => exact ⟨_, _, rfl, a, b⟩
theorem natAbs_log {i : Int} {n : Nat} (hn : 0 < n) (h : i.natAbs < 2 ^ n) : i.natAbs.log2 < n := PySem.Flt.log2_lt_of hn h
end
/-- list + list, whatever they are -/
def rCatLst (K : PySem.W.Frag) : R2 := fun x y H Q => ∃ a b xs ys, x = .ref a ∧ y = .ref b ∧ SqL K H a xs ∧ SqL K H b ys ∧ xs.length + ys.length ≤ sizeLine ∧ ∀ p, H p = none → Q (.ref p) (upd H p (.lst (xs ++ ys)))
section
variable {X : Cx}
def lstIsL {h : Heap} {a : Addr} {its : Array Value} (p : PlainL h a its) : Prop := True
theorem or_powW : OpR X (binaryOp .Pow) (rI (fun i j => 0 ≤ j ∧ j ≤ 1000 ∧ i.natAbs < 2 ^ 1500) fun i j => .int (i ^ j.toNat)) := opI fun i j _ _ _ _ _ hc q => by
  obtain ⟨h1, h2, h3⟩ := hc
  refine pow_int h1 ?_ q
  have b : Builtin.Int.intBits i ≤ 1500 := by
    have hl := natAbs_log (i := i) (by decide : 0 < 1500) h3
    unfold Builtin.Int.intBits
    split <;> omega
  have e1 : (Builtin.Int.intBits i : Int) * j ≤ 1500 * 1000 := by
    have b' : (Builtin.Int.intBits i : Int) ≤ 1500 := by omega
    exact Int.mul_le_mul b' h2 h1 (by decide)
  exact Int.le_trans e1 (by decide)
def CDivX (_ j : Int) : Prop := 0 < j ∧ j.natAbs < 2 ^ 1500
def CMulX (i j : Int) : Prop := i.natAbs < 2 ^ 1500 ∧ j.natAbs < 2 ^ 1500
theorem or_divX : OpR X (binaryOp .FloorDiv) (rI CDivX fun i j => .int (i / j)) := by
  intro pins s σ H x y v u Q I rx ry ⟨i, j, e1, e2, hc, q⟩
  exact op_fdivW pins s σ H x y v u Q I rx ry ⟨i, j, e1, e2, ⟨hc.1, Nat.lt_trans (natAbs_log (by decide : 0 < 1500) hc.2) (by decide)⟩, q⟩
theorem or_mulX : OpR X (binaryOp .Mult) (rI CMulX fun i j => .int (i * j)) := by
  intro pins s σ H x y v u Q I rx ry ⟨i, j, e1, e2, hc, q⟩
  refine op_mulW pins s σ H x y v u Q I rx ry ⟨i, j, e1, e2, ?_, q⟩
  have a := natAbs_log (by decide : 0 < 1500) hc.1
  have b := natAbs_log (by decide : 0 < 1500) hc.2
  show i.natAbs.log2 + j.natAbs.log2 < 1000000
  omega
end
theorem link_I {K : PySem.W.Frag} {C : Int → Int → Prop} {g : Int → Int → V} {gd : Int → Int → D} (hg : ∀ i j F, Dp K F (g i j) (gd i j)) {f : F2}
    (hf : ∀ x y Q, f x y Q → ∃ i j, x = .int i ∧ y = .int j ∧ C i j ∧ Q (gd i j)) : Link K (rI C g) f := by
  intro F H v w x y Qd Qr e hv hw hq k
  obtain ⟨i, j, rfl, rfl, hc, q⟩ := hf _ _ _ hq
  rw [dp_int hv, dp_int hw]
  exact ⟨i, j, rfl, rfl, hc, k _ H F _ (Grow.refl e) (hg i j F) q⟩
theorem link_I0 {K : PySem.W.Frag} {g : Int → Int → V} {gd : Int → Int → D} (hg : ∀ i j F, Dp K F (g i j) (gd i j)) {f : F2}
    (hf : ∀ x y Q, f x y Q → ∃ i j, x = .int i ∧ y = .int j ∧ Q (gd i j)) : Link K (rI0 g) f := by
  intro F H v w x y Qd Qr e hv hw hq k
  obtain ⟨i, j, rfl, rfl, q⟩ := hf _ _ _ hq
  rw [dp_int hv, dp_int hw]
  exact ⟨i, j, rfl, rfl, k _ H F _ (Grow.refl e) (hg i j F) q⟩
section
variable {X : Cx} {a b : Expr} {ta tb : DE} {pos : Pos}
theorem ed_sub (ha : PEd X a ta) (hb : PEd X b tb) : PEd X (.BinOp a .Sub b pos) (d2 fSub ta tb) :=
  ed_2 (fun h1 h2 => pe_op op_sub h1 h2) (link_I0 (gd := fun i j => .int (i - j)) (fun i j F => .int _) fun x y Q h => by cases x <;> cases y <;> first | exact ⟨_, _, rfl, rfl, h⟩ | exact h.elim) up_sub ha hb
theorem ed_mul (ha : PEd X a ta) (hb : PEd X b tb) : PEd X (.BinOp a .Mult b pos) (d2 fMul ta tb) :=
  ed_2 (fun h1 h2 => pe_op or_mulX h1 h2) (link_I (gd := fun i j => .int (i * j)) (fun i j F => .int _) fun x y Q h => by cases x <;> cases y <;> first | exact ⟨_, _, rfl, rfl, h.1, h.2⟩ | exact h.elim) up_mul ha hb
theorem ed_div (ha : PEd X a ta) (hb : PEd X b tb) : PEd X (.BinOp a .FloorDiv b pos) (d2 fDiv ta tb) :=
  ed_2 (fun h1 h2 => pe_op or_divX h1 h2) (link_I (gd := fun i j => .int (i / j)) (fun i j F => .int _) fun x y Q h => by cases x <;> cases y <;> first | exact ⟨_, _, rfl, rfl, h.1, h.2⟩ | exact h.elim) up_div ha hb
theorem ed_mod (ha : PEd X a ta) (hb : PEd X b tb) : PEd X (.BinOp a .Mod b pos) (d2 fMod ta tb) :=
  ed_2 (fun h1 h2 => pe_op op_mod h1 h2) (link_I (gd := fun i j => .int (i % j)) (fun i j F => .int _) fun x y Q h => by cases x <;> cases y <;> first | exact ⟨_, _, rfl, rfl, h.1, h.2⟩ | exact h.elim) up_mod ha hb
theorem ed_pow (ha : PEd X a ta) (hb : PEd X b tb) : PEd X (.BinOp a .Pow b pos) (d2 fPow ta tb) :=
  ed_2 (fun h1 h2 => pe_op or_powW h1 h2) (link_I (gd := fun i j => .int (i ^ j.toNat)) (fun i j F => .int _) fun x y Q h => by cases x <;> cases y <;> first | exact ⟨_, _, rfl, rfl, h.1, h.2⟩ | exact h.elim) up_pow ha hb
theorem ed_neg (ha : PEd X a ta) : PEd X (.UnaryOp .USub a pos) (d1 fNeg ta) :=
  ed_1 (fun h1 => pe_un un_neg h1) (fun F H v x Qd Qr e hv h k => by
    cases x <;> first | (rw [dp_int hv]; exact ⟨_, rfl, k _ H F _ (Grow.refl e) (.int _) h⟩) | exact h.elim) up_neg ha
end
/-! ### + -/
section
variable {X : Cx}
theorem or_catLst : OpR X (binaryOp .Add) (rCatLst X.K) := by
  intro pins s σ H x y v u Q I rx ry ⟨a, b, xs, ys, e1, e2, ha, hb, hz, q⟩
  subst e1; subst e2
  cases rx
  cases ry
  obtain ⟨its, r1, p1, z1⟩ := I.list ha
  obtain ⟨its2, r2, p2, z2⟩ := I.list hb
  have l1 := r1.length
  have l2 := r2.length
  obtain ⟨⟨cls, dd, data, sl⟩, ho, hc, n, hd⟩ := p1.isList
  obtain ⟨⟨cls2, dd2, data2, sl2⟩, ho2, hc2, n2, hd2⟩ := p2.isList
  simp only at hc hd hc2 hd2
  subst hc hd hc2 hd2
  refine concat_meets ⟨_, ho, rfl⟩ ⟨_, ho2, rfl⟩ noFill_list_add seq_list_add PySem.F.slot_list_add PySem.F.entry_list_add (PySem.F.args_list_add_2 _ _) (list_addW a b its.toArray its2.toArray n n2 dd dd2 sl sl2 (by rw [List.size_toArray, List.size_toArray]; omega)) ⟨ho, ho2, ?_⟩
  have ea : its.toArray ++ its2.toArray = (its ++ its2).toArray := by simp
  rw [ea]
  exact ⟨.ref _, _, I.lnew (t' := s.toks) (r1.append r2) (by rw [List.length_append]; omega), rfl, q _ I.fresh⟩
def rAddD (K : PySem.W.Frag) : R2 := fun x y H Q => (∃ i j, x = .int i ∧ y = .int j ∧ Q (.int (i + j)) H) ∨ (rCatA K x y H Q ∨ (rCatLst K x y H Q ∨ ∃ i j, x = .str i ∧ y = .str j ∧ i.length + j.length ≤ sizeLine ∧ Q (.str (i ++ j)) H))
theorem or_addD : OpR X (binaryOp .Add) (rAddD X.K) := OpR.or op_add (OpR.or op_catA (OpR.or or_catLst op_add_str))
end
theorem link_add {K : PySem.W.Frag} : Link K (rAddD K) fAdd := by
  intro F H v w x y Qd Qr e hv hw hq k
  cases x <;> cases y <;> first | exact hq.elim | skip
  case int.int i j =>
    rw [dp_int hv, dp_int hw]
    exact .inl ⟨i, j, rfl, rfl, k _ H F _ (Grow.refl e) (.int _) hq⟩
  case str.str i j =>
    rw [dp_str hv, dp_str hw]
    exact .inr (.inr (.inr ⟨i, j, rfl, rfl, by rw [sizeLine_eq]; exact hq.1, k _ H F _ (Grow.refl e) (.str _) hq.2⟩))
  case list.list xs ys =>
    obtain ⟨p, vs, rfl, s1, a1⟩ := dp_lst hv
    obtain ⟨p2, ws, rfl, s2, a2⟩ := dp_lst hw
    refine .inr (.inr (.inl ⟨p, p2, vs, ws, rfl, rfl, ex_l e s1, ex_l e s2, by rw [dpa_len a1, dpa_len a2, sizeLine_eq]; exact hq.1, fun q nq => ?_⟩))
    have g := Grow.one (o := .lst (vs ++ ws)) e nq
    exact k _ _ _ _ g (.lst (.inl (.inl upd_same)) ((dpa_app a1 a2).up g.f)) hq.2
  case tuple.tuple xs ys =>
    obtain ⟨p, vs, rfl, s1, a1⟩ := dp_tup hv
    obtain ⟨p2, ws, rfl, s2, a2⟩ := dp_tup hw
    refine .inr (.inl ⟨p, p2, vs, ws, rfl, rfl, ex_t e s1, ex_t e s2, by rw [dpa_len a1, dpa_len a2, sizeLine_eq]; exact hq.1, fun z => ?_, fun z z2 => ?_, fun z z2 q nq => ?_⟩)
    · subst z
      cases a1
      exact k _ H F _ (Grow.refl e) (.tup s2 a2) hq.2
    · subst z2
      cases a2
      have h2 := hq.2
      rw [List.append_nil] at h2
      exact k _ H F _ (Grow.refl e) (.tup s1 a1) h2
    · have g := Grow.one (o := .tup (vs ++ ws)) e nq
      exact k _ _ _ _ g (.tup (.inl (.inl upd_same)) ((dpa_app a1 a2).up g.f)) hq.2
/-! ### == and the like on data -/
section
variable {K : PySem.W.Frag} {F : Hp}
mutual
theorem dp_plain : ∀ (d : D) (v : V), Dp K F v d → d.plain = true
  | .none, _, _ => rfl
  | .bool _, _, _ => rfl
  | .int _, _, _ => rfl
  | .str _, _, _ => rfl
  | .list ds, _, h => by
    cases h with
    | lst a b => exact dpa_plain ds _ b
  | .tuple ds, _, h => by
    cases h with
    | tup a b => exact dpa_plain ds _ b
  | .dict _, _, h => by cases h
theorem dpa_plain : ∀ (ds : List D) (vs : List V), DpAll K F vs ds → PyData.plainAll ds = true
  | [], _, _ => rfl
  | d :: ds, _, h => by
    cases h with
    | cons a b =>
      show (PyData.plain d && PyData.plainAll ds) = true
      rw [dp_plain d _ a, dpa_plain ds _ b]
      rfl
end
end
def shal (x y : D) : Prop := x.depth ≤ 64 ∨ y.depth ≤ 64
theorem shal_min {x y : D} (h : shal x y) : min x.depth y.depth ≤ 64 := by
  rcases h with h | h
  · exact Nat.le_trans (Nat.min_le_left _ _) h
  · exact Nat.le_trans (Nat.min_le_right _ _) h
def fEq : F2 := fun x y Q => shal x y ∧ Q (.bool (PyData.eqv x y))
def fNe : F2 := fun x y Q => shal x y ∧ Q (.bool (!PyData.eqv x y))
/-- an order: ints, or data alike -/
def fCmp (p : Int → Int → Bool) (g : D → D → Bool) : F2 := fun x y Q => match x, y with
  | .int i, .int j => Q (.bool (p i j))
  | x, y => PySem.W.alike x y = true ∧ x ≠ .none ∧ shal x y ∧ Q (.bool (g x y))
def fLt : F2 := fCmp (fun i j => decide (i < j)) fun x y => PySem.W.dataLt x y
def fLe : F2 := fCmp (fun i j => decide (i ≤ j)) fun x y => !PySem.W.dataLt y x
def fGt : F2 := fCmp (fun i j => decide (j < i)) fun x y => PySem.W.dataLt y x
def fGe : F2 := fCmp (fun i j => decide (j ≤ i)) fun x y => !PySem.W.dataLt x y
theorem fCmp_int (p : Int → Int → Bool) (g : D → D → Bool) (i j : Int) (Q : D → Prop) : fCmp p g (.int i) (.int j) Q = Q (.bool (p i j)) := rfl
def fIn (neg : Bool) : F2 := fun x y Q => match y with
  | .list ys => (PyData.depthAll ys ≤ 64 ∨ x.depth ≤ 64) ∧ Q (.bool (if neg then !(ys.any fun z => PyData.eqv z x) else ys.any fun z => PyData.eqv z x))
  | .tuple ys => (PyData.depthAll ys ≤ 64 ∨ x.depth ≤ 64) ∧ Q (.bool (if neg then !(ys.any fun z => PyData.eqv z x) else ys.any fun z => PyData.eqv z x))
  | _ => False
def isNone : D → Bool
  | .none => true
  | _ => false
def fIsN : F1 := fun x Q => Q (.bool (isNone x))
def fNotN : F1 := fun x Q => Q (.bool (!isNone x))
theorem up_eq : UpF fEq := fun x y Q Q' w h => ⟨h.1, w _ h.2⟩
theorem up_ne : UpF fNe := fun x y Q Q' w h => ⟨h.1, w _ h.2⟩
theorem up_cmp {p : Int → Int → Bool} {g : D → D → Bool} : UpF (fCmp p g) := fun x y Q Q' w h => by
  cases x <;> cases y <;> first | exact w _ h | exact ⟨h.1, h.2.1, h.2.2.1, w _ h.2.2.2⟩
theorem up_in {neg : Bool} : UpF (fIn neg) := fun x y Q Q' w h => by cases y <;> first | exact ⟨h.1, w _ h.2⟩ | exact h.elim
/-- a comparison by data -/
def rCmpD (K : PySem.W.Frag) (f : F2) : R2 := fun x y H Q => ∃ d e F, Ex F H ∧ Dp K F x d ∧ Dp K F y e ∧ f d e fun z => ∃ k, z = .bool k ∧ Q (.bl k) H
theorem link_cmpD {K : PySem.W.Frag} {f : F2} (m : UpF f) (hb : ∀ x y Q, f x y Q → f x y fun z => ∃ k, z = .bool k ∧ Q z) : Link K (rCmpD K f) f := by
  intro F H v w x y Qd Qr e hv hw hq k
  refine ⟨x, y, F, e, hv, hw, m _ _ _ _ (fun z ⟨b, eb, q⟩ => ⟨b, eb, ?_⟩) (hb x y Qd hq)⟩
  subst eb
  exact k _ H F _ (Grow.refl e) (.bl _) q
section
variable {X : Cx}
theorem reads_of {pins : List (Addr × Obj)} {σ : L2.St} {H F : Hp} {s : Shared} {v : V} {u : Value} {d : D} (I : Inv X pins σ H s) (e : Ex F H) (h : Dp X.K F v d) (r : RelV v u) : ∃ as, Reads s.heap u d as :=
  Dp.reads I d v u (h.up e) r
theorem or_eqD (hu : X.A.units + 100 < cLine) : OpR X (compareOp .Eq) (rCmpD X.K fEq) := by
  intro pins s σ H x y v u Q I rx ry ⟨d, e, F, he, hd, hy, hs, k, ek, q⟩
  obtain ⟨as, ra⟩ := reads_of I he hd rx
  obtain ⟨bs, rb⟩ := reads_of I he hy ry
  cases ek
  exact PySem.SeqAt.eq_plain ra rb (dp_plain _ _ hd) (dp_plain _ _ hy) (by have := shal_min hs; omega) ⟨.bl _, H, I, rfl, q⟩
theorem or_neD (hu : X.A.units + 100 < cLine) : OpR X (compareOp .NotEq) (rCmpD X.K fNe) := by
  intro pins s σ H x y v u Q I rx ry ⟨d, e, F, he, hd, hy, hs, k, ek, q⟩
  obtain ⟨as, ra⟩ := reads_of I he hd rx
  obtain ⟨bs, rb⟩ := reads_of I he hy ry
  cases ek
  exact PySem.SeqAt.ne_plain ra rb (dp_plain _ _ hd) (dp_plain _ _ hy) (by have := shal_min hs; omega) ⟨.bl _, H, I, rfl, q⟩
theorem or_cmpD {op : CmpOp} {p : Int → Int → Bool} {g : D → D → Bool} (hi : OpR X (compareOp op) (rI0 fun i j => .bl (p i j)))
    (hg : ∀ {s : Shared} {a b : Value} {da db : D} {as bs : List Addr} {Q : Value → Shared → Prop} {E : Value → Shared → Prop}, Reads s.heap a da as → Reads s.heap b db bs → PySem.W.alike da db = true → da ≠ .none → X.A.units + min da.depth db.depth < cLine → Q (.bool (g da db)) s → wpAny (model X.prog X.w) X.A (compareOp op a b) Q E s)
    (hu : X.A.units + 100 < cLine) : OpR X (compareOp op) (rCmpD X.K (fCmp p g)) := by
  intro pins s σ H x y v u Q I rx ry ⟨d, e, F, he, hd, hy, h⟩
  obtain ⟨as, ra⟩ := reads_of I he hd rx
  obtain ⟨bs, rb⟩ := reads_of I he hy ry
  have gen : (PySem.W.alike d e = true ∧ d ≠ .none ∧ shal d e ∧ ∃ k, PyData.bool (g d e) = .bool k ∧ Q (.bl k) H) → wpAny (model X.prog X.w) X.A (compareOp op v u) (EP X pins σ Q) X.xe s := fun ⟨h1, h2, h3, k, ek, q⟩ => by
    cases ek
    exact hg ra rb h1 h2 (by have := shal_min h3; omega) ⟨.bl _, H, I, rfl, q⟩
  by_cases c : ∃ i j, d = .int i ∧ e = .int j
  · obtain ⟨i, j, rfl, rfl⟩ := c
    obtain ⟨k, ek, q⟩ := h
    cases ek
    refine hi pins s σ H x y v u Q I rx ry ?_
    rw [dp_int hd, dp_int hy]
    exact ⟨i, j, rfl, rfl, q⟩
  · refine gen ?_
    cases d <;> cases e <;> first | exact h | exact absurd ⟨_, _, rfl, rfl⟩ c
theorem or_ltD (hu : X.A.units + 100 < cLine) : OpR X (compareOp .Lt) (rCmpD X.K fLt) := or_cmpD op_lt (fun a b c d e f => PySem.W.lt_data a b c d e f) hu
theorem or_leD (hu : X.A.units + 100 < cLine) : OpR X (compareOp .LtE) (rCmpD X.K fLe) := or_cmpD op_le (fun a b c d e f => PySem.W.le_data a b c d e f) hu
theorem or_gtD (hu : X.A.units + 100 < cLine) : OpR X (compareOp .Gt) (rCmpD X.K fGt) := or_cmpD op_gt (fun a b c d e f => PySem.W.gt_data a b c d e f) hu
theorem or_geD (hu : X.A.units + 100 < cLine) : OpR X (compareOp .GtE) (rCmpD X.K fGe) := or_cmpD op_ge (fun a b c d e f => PySem.W.ge_data a b c d e f) hu
theorem or_inD (hu : X.A.units + 100 < cLine) : OpR X (compareOp .In) (rCmpD X.K (fIn false)) := by
  intro pins s σ H x y v u Q I rx ry ⟨d, e, F, he, hd, hy, h⟩
  obtain ⟨as, ra⟩ := reads_of I he hd rx
  obtain ⟨bs, rb⟩ := reads_of I he hy ry
  have pd := dp_plain _ _ hd
  have pe := dp_plain _ _ hy
  cases e <;> first | exact h.elim | skip
  case list ys =>
    obtain ⟨h1, k, ek, q⟩ := h
    cases ek
    exact PySem.SeqAt.in_list_data rb ra pe pd (by rcases h1 with z | z <;> omega) ⟨.bl _, H, I, rfl, q⟩
  case tuple ys =>
    obtain ⟨h1, k, ek, q⟩ := h
    cases ek
    exact PySem.SeqAt.in_tuple_data rb ra pe pd (by rcases h1 with z | z <;> omega) ⟨.bl _, H, I, rfl, q⟩
theorem or_notInD (hu : X.A.units + 100 < cLine) : OpR X (compareOp .NotIn) (rCmpD X.K (fIn true)) := by
  intro pins s σ H x y v u Q I rx ry ⟨d, e, F, he, hd, hy, h⟩
  obtain ⟨as, ra⟩ := reads_of I he hd rx
  obtain ⟨bs, rb⟩ := reads_of I he hy ry
  have pd := dp_plain _ _ hd
  have pe := dp_plain _ _ hy
  cases e <;> first | exact h.elim | skip
  case list ys =>
    obtain ⟨h1, k, ek, q⟩ := h
    cases ek
    exact PySem.SeqAt.notIn_list_data rb ra pe pd (by rcases h1 with z | z <;> omega) ⟨.bl _, H, I, rfl, q⟩
  case tuple ys =>
    obtain ⟨h1, k, ek, q⟩ := h
    cases ek
    exact PySem.SeqAt.notIn_tuple_data rb ra pe pd (by rcases h1 with z | z <;> omega) ⟨.bl _, H, I, rfl, q⟩
end
theorem isb_eq : ∀ x y Q, fEq x y Q → fEq x y fun z => ∃ k, z = .bool k ∧ Q z := fun _ _ _ h => ⟨h.1, _, rfl, h.2⟩
theorem isb_ne : ∀ x y Q, fNe x y Q → fNe x y fun z => ∃ k, z = .bool k ∧ Q z := fun _ _ _ h => ⟨h.1, _, rfl, h.2⟩
theorem isb_cmp {p : Int → Int → Bool} {g : D → D → Bool} : ∀ x y Q, fCmp p g x y Q → fCmp p g x y fun z => ∃ k, z = .bool k ∧ Q z := fun x y Q h => by
  cases x <;> cases y <;> first | exact ⟨_, rfl, h⟩ | exact ⟨h.1, h.2.1, h.2.2.1, _, rfl, h.2.2.2⟩
theorem isb_in {neg : Bool} : ∀ x y Q, fIn neg x y Q → fIn neg x y fun z => ∃ k, z = .bool k ∧ Q z := fun x y Q h => by
  cases y <;> first | exact ⟨h.1, _, rfl, h.2⟩ | exact h.elim
section
variable {X : Cx} {a b : Expr} {ta tb : DE} {pos : Pos}
theorem ed_add (ha : PEd X a ta) (hb : PEd X b tb) : PEd X (.BinOp a .Add b pos) (d2 fAdd ta tb) :=
  ed_2 (fun h1 h2 => pe_op or_addD h1 h2) link_add up_add ha hb
theorem ed_eq (hu : X.A.units + 100 < cLine) (ha : PEd X a ta) (hb : PEd X b tb) : PEd X (.Compare a [.Eq] [b] pos) (d2 fEq ta tb) := ed_2 (fun h1 h2 => pe_cmpR (or_eqD hu) h1 h2 (nomark _)) (link_cmpD up_eq isb_eq) up_eq ha hb
theorem ed_ne (hu : X.A.units + 100 < cLine) (ha : PEd X a ta) (hb : PEd X b tb) : PEd X (.Compare a [.NotEq] [b] pos) (d2 fNe ta tb) := ed_2 (fun h1 h2 => pe_cmpR (or_neD hu) h1 h2 (nomark _)) (link_cmpD up_ne isb_ne) up_ne ha hb
theorem ed_lt (hu : X.A.units + 100 < cLine) (ha : PEd X a ta) (hb : PEd X b tb) : PEd X (.Compare a [.Lt] [b] pos) (d2 fLt ta tb) := ed_2 (fun h1 h2 => pe_cmpR (or_ltD hu) h1 h2 (nomark _)) (link_cmpD up_cmp isb_cmp) up_cmp ha hb
theorem ed_le (hu : X.A.units + 100 < cLine) (ha : PEd X a ta) (hb : PEd X b tb) : PEd X (.Compare a [.LtE] [b] pos) (d2 fLe ta tb) := ed_2 (fun h1 h2 => pe_cmpR (or_leD hu) h1 h2 (nomark _)) (link_cmpD up_cmp isb_cmp) up_cmp ha hb
theorem ed_gt (hu : X.A.units + 100 < cLine) (ha : PEd X a ta) (hb : PEd X b tb) : PEd X (.Compare a [.Gt] [b] pos) (d2 fGt ta tb) := ed_2 (fun h1 h2 => pe_cmpR (or_gtD hu) h1 h2 (nomark _)) (link_cmpD up_cmp isb_cmp) up_cmp ha hb
theorem ed_ge (hu : X.A.units + 100 < cLine) (ha : PEd X a ta) (hb : PEd X b tb) : PEd X (.Compare a [.GtE] [b] pos) (d2 fGe ta tb) := ed_2 (fun h1 h2 => pe_cmpR (or_geD hu) h1 h2 (nomark _)) (link_cmpD up_cmp isb_cmp) up_cmp ha hb
theorem ed_in (hu : X.A.units + 100 < cLine) (hm : behindInMarks .In b = false) (ha : PEd X a ta) (hb : PEd X b tb) : PEd X (.Compare a [.In] [b] pos) (d2 (fIn false) ta tb) := ed_2 (fun h1 h2 => pe_cmpR (or_inD hu) h1 h2 hm) (link_cmpD up_in isb_in) up_in ha hb
theorem ed_notIn (hu : X.A.units + 100 < cLine) (hm : behindInMarks .NotIn b = false) (ha : PEd X a ta) (hb : PEd X b tb) : PEd X (.Compare a [.NotIn] [b] pos) (d2 (fIn true) ta tb) := ed_2 (fun h1 h2 => pe_cmpR (or_notInD hu) h1 h2 hm) (link_cmpD up_in isb_in) up_in ha hb
theorem td_eq (hu : X.A.units + 100 < cLine) (ha : PEd X a ta) (hb : PEd X b tb) : PTd X (.Compare a [.Eq] [b] pos) (dB (d2 fEq ta tb)) := td_2 (fun h1 h2 => pt_cmpR (or_eqD hu) h1 h2 (nomark _)) (link_cmpD up_eq isb_eq) up_eq ha hb
theorem td_ne (hu : X.A.units + 100 < cLine) (ha : PEd X a ta) (hb : PEd X b tb) : PTd X (.Compare a [.NotEq] [b] pos) (dB (d2 fNe ta tb)) := td_2 (fun h1 h2 => pt_cmpR (or_neD hu) h1 h2 (nomark _)) (link_cmpD up_ne isb_ne) up_ne ha hb
theorem td_lt (hu : X.A.units + 100 < cLine) (ha : PEd X a ta) (hb : PEd X b tb) : PTd X (.Compare a [.Lt] [b] pos) (dB (d2 fLt ta tb)) := td_2 (fun h1 h2 => pt_cmpR (or_ltD hu) h1 h2 (nomark _)) (link_cmpD up_cmp isb_cmp) up_cmp ha hb
theorem td_le (hu : X.A.units + 100 < cLine) (ha : PEd X a ta) (hb : PEd X b tb) : PTd X (.Compare a [.LtE] [b] pos) (dB (d2 fLe ta tb)) := td_2 (fun h1 h2 => pt_cmpR (or_leD hu) h1 h2 (nomark _)) (link_cmpD up_cmp isb_cmp) up_cmp ha hb
theorem td_gt (hu : X.A.units + 100 < cLine) (ha : PEd X a ta) (hb : PEd X b tb) : PTd X (.Compare a [.Gt] [b] pos) (dB (d2 fGt ta tb)) := td_2 (fun h1 h2 => pt_cmpR (or_gtD hu) h1 h2 (nomark _)) (link_cmpD up_cmp isb_cmp) up_cmp ha hb
theorem td_ge (hu : X.A.units + 100 < cLine) (ha : PEd X a ta) (hb : PEd X b tb) : PTd X (.Compare a [.GtE] [b] pos) (dB (d2 fGe ta tb)) := td_2 (fun h1 h2 => pt_cmpR (or_geD hu) h1 h2 (nomark _)) (link_cmpD up_cmp isb_cmp) up_cmp ha hb
theorem td_in (hu : X.A.units + 100 < cLine) (hm : behindInMarks .In b = false) (ha : PEd X a ta) (hb : PEd X b tb) : PTd X (.Compare a [.In] [b] pos) (dB (d2 (fIn false) ta tb)) := td_2 (fun h1 h2 => pt_cmpR (or_inD hu) h1 h2 hm) (link_cmpD up_in isb_in) up_in ha hb
theorem td_notIn (hu : X.A.units + 100 < cLine) (hm : behindInMarks .NotIn b = false) (ha : PEd X a ta) (hb : PEd X b tb) : PTd X (.Compare a [.NotIn] [b] pos) (dB (d2 (fIn true) ta tb)) := td_2 (fun h1 h2 => pt_cmpR (or_notInD hu) h1 h2 hm) (link_cmpD up_in isb_in) up_in ha hb
/-- is None -/
def dIsN (t : DE) : DE := d1 fIsN t
def dNotN (t : DE) : DE := d1 fNotN t
theorem non_of {K : PySem.W.Frag} {F : Hp} {v : V} {d : D} (h : Dp K F v d) : decide (v = .non) = isNone d := by
  cases h <;> rfl
theorem notnon_of {K : PySem.W.Frag} {F : Hp} {v : V} {d : D} (h : Dp K F v d) : (!decide (v = .non)) = !isNone d := by
  cases h <;> rfl
theorem ed_isN {j pos'} (ha : PEd X a ta) : PEd X (.Compare a [.Is] [.Constant .none j pos'] pos) (dIsN ta) :=
  ⟨fun env Q Q' w h => ha.up _ _ _ (fun x e1 h1 => w _ _ h1) h, PE.weak (pe_cmp (pc_isN ha.pe) rfl) fun σ H Q ⟨c, F, env, R, h⟩ => ⟨c, F, env, R, ha.up _ _ _ (fun x e1 h1 v F1 H1 g1 R1 d1 => by
    have := h1 (.bl (decide (v = .non))) F1 H1 g1 R1 (by rw [non_of d1]; exact Dp.bl _)
    exact this) h⟩⟩
theorem ed_notN {j pos'} (ha : PEd X a ta) : PEd X (.Compare a [.IsNot] [.Constant .none j pos'] pos) (dNotN ta) :=
  ⟨fun env Q Q' w h => ha.up _ _ _ (fun x e1 h1 => w _ _ h1) h, PE.weak (pe_cmp (pc_notN ha.pe) rfl) fun σ H Q ⟨c, F, env, R, h⟩ => ⟨c, F, env, R, ha.up _ _ _ (fun x e1 h1 v F1 H1 g1 R1 d1 => by
    have := h1 (.bl (!decide (v = .non))) F1 H1 g1 R1 (by rw [notnon_of d1]; exact Dp.bl _)
    exact this) h⟩⟩
theorem td_isN {j pos'} (ha : PEd X a ta) : PTd X (.Compare a [.Is] [.Constant .none j pos'] pos) (dB (dIsN ta)) :=
  ⟨Up.dB (ed_isN (pos := pos) (j := j) (pos' := pos') ha).up, PT.weak (pt_cmp (pc_isN ha.pe) rfl) fun σ H Q ⟨c, F, env, R, h⟩ => ⟨c, F, env, R, ha.up _ _ _ (fun x e1 ⟨k, ek, h1⟩ v F1 H1 g1 R1 d1 => by
    refine ⟨_, rfl, ?_⟩
    rw [non_of d1]
    cases ek
    exact h1 F1 H1 g1 R1) h⟩⟩
theorem td_notN {j pos'} (ha : PEd X a ta) : PTd X (.Compare a [.IsNot] [.Constant .none j pos'] pos) (dB (dNotN ta)) :=
  ⟨Up.dB (ed_notN (pos := pos) (j := j) (pos' := pos') ha).up, PT.weak (pt_cmp (pc_notN ha.pe) rfl) fun σ H Q ⟨c, F, env, R, h⟩ => ⟨c, F, env, R, ha.up _ _ _ (fun x e1 ⟨k, ek, h1⟩ v F1 H1 g1 R1 d1 => by
    refine ⟨_, rfl, ?_⟩
    rw [notnon_of d1]
    cases ek
    exact h1 F1 H1 g1 R1) h⟩⟩
end
end PD

namespace PD
open PySem PySem.Spec PyProof.Rows L2
open PySem.W (AlikeAll minD maxD)
/-! ### subscripts -/
def fIx : F2 := fun x y Q => match x, y with
  | .list ds, .int i => ∃ d, atI ds i = some d ∧ Q d
  | .tuple ds, .int i => ∃ d, atI ds i = some d ∧ Q d
  | _, _ => False
theorem up_ix : UpF fIx := fun x y Q Q' w h => by
  cases x <;> cases y <;> first | exact h.elim | (obtain ⟨d, a, b⟩ := h; exact ⟨d, a, w _ b⟩)
theorem dpa_at {K : PySem.W.Frag} {F : Hp} {vs : List V} {ds : List D} {i : Int} {d : D} (h : DpAll K F vs ds) (e : atI ds i = some d) : ∃ v, atI vs i = some v ∧ Dp K F v d := by
  unfold atI at e ⊢
  rw [dpa_len h]
  cases q : ixN ds.length i with
  | none => rw [q] at e; cases e
  | some j =>
    rw [q] at e
    exact dpa_get h e
def rIxD (K : PySem.W.Frag) : R2 := fun x y H Q => rIxL K x y H Q ∨ rIxT K x y H Q
theorem link_ix {K : PySem.W.Frag} : Link K (rIxD K) fIx := by
  intro F H v w x y Qd Qr e hv hw hq k
  cases x <;> cases y <;> first | exact hq.elim | skip
  case list.int ds i =>
    obtain ⟨d, h1, h2⟩ := hq
    obtain ⟨p, vs, rfl, s1, a1⟩ := dp_lst hv
    obtain ⟨u, h3, h4⟩ := dpa_at a1 h1
    rw [dp_int hw]
    exact .inl ⟨p, vs, i, u, rfl, rfl, ex_l e s1, h3, k u H F d (Grow.refl e) h4 h2⟩
  case tuple.int ds i =>
    obtain ⟨d, h1, h2⟩ := hq
    obtain ⟨p, vs, rfl, s1, a1⟩ := dp_tup hv
    obtain ⟨u, h3, h4⟩ := dpa_at a1 h1
    rw [dp_int hw]
    exact .inr ⟨p, vs, i, u, rfl, rfl, ex_t e s1, h3, k u H F d (Grow.refl e) h4 h2⟩
section
variable {X : Cx} {a b e : Expr} {es : List Expr} {ta tb tc : DE} {pos : Pos}
theorem ed_ix (hs : PlainIx b) (ha : PEd X a ta) (hb : PEd X b tb) : PEd X (.Subscript a b pos) (d2 fIx ta tb) :=
  ed_2 (fun h1 h2 => pe_ix (IxR.or ix_list ix_tup) h1 h2 hs) link_ix up_ix ha hb
/-- the item of an owned list -/
def dIxO (i : Nat) (tb : DE) : DE := fun env Q => ∃ l p m, env[i]? = some (Sl.ow l p m) ∧ tb env fun y env1 => ∃ ds j d, env1[i]? = some (Sl.ow l p (.lst ds)) ∧ y = .int j ∧ atI ds j = some d ∧ Q d env1
theorem ed_ixO {i : Nat} (hs : PlainIx b) (ha : PE X a (tVar i)) (hb : PEd X b tb) : PEd X (.Subscript a b pos) (dIxO i tb) := by
  refine ⟨fun env Q Q' w ⟨l, p, m, h0, h⟩ => ⟨l, p, m, h0, hb.up _ _ _ (fun y e1 ⟨ds, j, d, h1, h2, h3, h4⟩ => ⟨ds, j, d, h1, h2, h3, w _ _ h4⟩) h⟩, ?_⟩
  refine PE.weak (pe_ix (pos := pos) (IxR.or (X := X) ix_list ix_tup) ha hb.pe hs) fun σ H Q ⟨c, F, env, R, l, p, m, h0, h⟩ => ?_
  obtain ⟨q1, q2, q3, q4⟩ := R.own i l p m h0
  refine ⟨_, q1, c, F, env, R, hb.up _ _ _ (fun y e1 ⟨ds, j, d, h1, h2, h3, h4⟩ w F1 H1 g1 R1 d1 => ?_) h⟩
  obtain ⟨_, _, _, xs, q4, q5⟩ := R1.own i l p _ h1
  subst h2
  obtain ⟨u, z1, z2⟩ := dpa_at q5 h3
  rw [dp_int d1]
  exact .inl ⟨p, xs, j, u, rfl, rfl, .inl (.inl q4), z1, h4 u F1 H1 g1 R1 z2⟩

/-! ### slices -/
abbrev DO := DEnv → (Option Int → DEnv → Prop) → Prop
def oOf (K : PySem.W.Frag) (t : DO) : TO := fun σ H Q => ∃ c F env, Rp K c env σ F H ∧ t env fun o env' => ∀ F' H', Ex F F' → Rp K c env' σ F' H' → Q o H'
structure POd (X : Cx) (e : Option Expr) (t : DO) : Prop where
  up : Up t
  po : PO X e (oOf X.K t)
theorem PO.weak {X : Cx} {e : Option Expr} {t t' : TO} (h : PO X e t) (w : ∀ σ H Q, t' σ H Q → t σ H Q) : PO X e t' := ⟨fun pins s σ H Q I q => h.run pins s σ H Q I (w σ H Q q)⟩
def dNo : DO := fun env Q => Q none env
def dSome (t : DE) : DO := fun env Q => t env fun d env' => ∃ i, d = .int i ∧ Q (some i) env'
theorem od_no : POd X none dNo := ⟨fun _ _ _ w q => w _ _ q, PO.weak po_none fun σ H Q ⟨c, F, env, R, q⟩ => q F H (Ex.refl F) R⟩
theorem od_some (h : PEd X e ta) : POd X (some e) (dSome ta) := ⟨fun _ _ _ w q => h.up _ _ _ (fun d e1 ⟨i, e, q⟩ => ⟨i, e, w _ _ q⟩) q,
  PO.weak (po_some h.pe) fun σ H Q ⟨c, F, env, R, q⟩ => ⟨c, F, env, R, h.up _ _ _ (fun d e1 ⟨i, e, q⟩ v F1 H1 g1 R1 d1 => by
    subst e
    exact ⟨i, dp_int d1, q F1 H1 g1 R1⟩) q⟩⟩
def cutD (ds : List D) (lo hi : Option Int) : List D := (ds.drop (HT.sIx ds.length 0 lo)).take (HT.sIx ds.length ds.length hi - HT.sIx ds.length 0 lo)
def fSl (x : D) (lo hi : Option Int) (Q : D → Prop) : Prop := match x with
  | .list ds => Q (.list (cutD ds lo hi))
  | .tuple ds => Q (.tuple (cutD ds lo hi))
  | _ => False
def dSl (ta : DE) (tl th : DO) : DE := fun env Q => ta env fun x e1 => tl e1 fun l e2 => th e2 fun u e3 => fSl x l u fun z => Q z e3
theorem up_sl {x : D} {l u : Option Int} {Q Q' : D → Prop} (w : ∀ z, Q z → Q' z) (h : fSl x l u Q) : fSl x l u Q' := by
  cases x <;> first | exact w _ h | exact h.elim
theorem dpa_cut {K : PySem.W.Frag} {F : Hp} {vs : List V} {ds : List D} (h : DpAll K F vs ds) (lo hi : Option Int) : DpAll K F (cutV vs lo hi) (cutD ds lo hi) := by
  unfold cutV cutD
  rw [dpa_len h]
  exact dpa_take _ (dpa_drop _ h)
theorem sl_link {K : PySem.W.Frag} {F H : Hp} {v : V} {lo hi : Option Int} {Qd : D → Prop} {Qr : VK} (e : Ex F H) : ∀ {x : D}, Dp K F v x → fSl x lo hi Qd → (∀ z H' F' d, Grow F H F' H' → Dp K F' z d → Qd d → Qr z H') → rSlL K v lo hi H Qr ∨ rSlA K v lo hi H Qr
  | .list ds, hv, h, k => by
    obtain ⟨p, vs, rfl, s1, a1⟩ := dp_lst hv
    refine .inl ⟨p, vs, rfl, ex_l e s1, fun q nq => ?_⟩
    have gr := Grow.one (o := .lst (cutV vs lo hi)) e nq
    exact k _ _ _ _ gr (.lst (.inl (.inl upd_same)) ((dpa_cut a1 lo hi).up gr.f)) h
  | .tuple ds, hv, h, k => by
    obtain ⟨p, vs, rfl, s1, a1⟩ := dp_tup hv
    refine .inr ⟨p, vs, rfl, ex_t e s1, fun ⟨z1, z2⟩ => ?_, fun _ q nq => ?_⟩
    · have ec : cutD ds lo hi = ds := by
        unfold cutD
        rw [dpa_len a1] at z1 z2
        rw [z1, z2]
        simp
      exact k _ H F _ (Grow.refl e) (by rw [ec]; exact .tup s1 a1) h
    · have gr := Grow.one (o := .tup (cutV vs lo hi)) e nq
      exact k _ _ _ _ gr (.tup (.inl (.inl upd_same)) ((dpa_cut a1 lo hi).up gr.f)) h
  | .none, _, h, _ => h.elim
  | .bool _, _, h, _ => h.elim
  | .int _, _, h, _ => h.elim
  | .str _, _, h, _ => h.elim
  | .dict _, _, h, _ => h.elim
theorem ed_slice {lo hi : Option Expr} {tl th : DO} {p2 : Pos} (ha : PEd X a ta) (hl : POd X lo tl) (hh : POd X hi th) : PEd X (.Subscript a (.Slice lo hi none p2) pos) (dSl ta tl th) :=
  ⟨fun env Q Q' w h => ha.up _ _ _ (fun x e1 h => hl.up _ _ _ (fun l e2 h => hh.up _ _ _ (fun u e3 h => up_sl (fun z => w z e3) h) h) h) h,
    PE.weak (pe_slice (SlR.or (X := X) sl_list sl_tupA) ha.pe hl.po hh.po) fun σ H Q ⟨c, F, env, R, h⟩ => ⟨c, F, env, R, ha.up _ _ _ (fun x e1 h v F1 H1 g1 R1 d1 => ⟨c, F1, e1, R1, hl.up _ _ _ (fun l e2 h F2 H2 g2 R2 => ⟨c, F2, e2, R2, hh.up _ _ _ (fun u e3 h F3 H3 g3 R3 =>
      sl_link R3.fh ((d1.up g2).up g3) h fun z H' F' d g dz q => q z F' H' (((g1.trans g2).trans g3).trans g.f) (R3.grow g) dz) h⟩) h⟩) h⟩⟩

/-! ### chains -/
def dChain (f f' : F2) (ta tb tc : DE) : DE := fun env Q => ta env fun x e1 => tb e1 fun y e2 => f x y fun z => ∃ k, z = .bool k ∧ if k = true then tc e2 fun w e3 => f' y w fun z' => Q z' e3 else Q (.bool false) e2
section
variable {r r' : R2} {f f' : F2}
theorem up_chain (ha : Up ta) (hb : Up tb) (hc : Up tc) (m : UpF f) (m' : UpF f') : Up (dChain f f' ta tb tc) := fun env Q Q' w h => ha _ _ _ (fun x e1 h => hb _ _ _ (fun y e2 h => m _ _ _ _ (fun z ⟨k, ek, h⟩ => ⟨k, ek, by
  cases k with
  | true => exact hc _ _ _ (fun w' e3 h => m' _ _ _ _ (fun z' => w z' e3) h) h
  | false => exact w _ _ h⟩) h) h) h
theorem chain_link {K : PySem.W.Frag} (l : Link K r f) (l' : Link K r' f') (ha : Up ta) (hb : Up tb) (hc : Up tc) (m : UpF f) (m' : UpF f') {σ : L2.St} {H : Hp} {Q : VK} {c : Cy} {F : Hp} {env : DEnv} (R : Rp K c env σ F H)
    (h : dChain f f' ta tb tc env fun d env' => ∀ v F' H', Ex F F' → Rp K c env' σ F' H' → Dp K F' v d → Q v H') : tChain r r' (eOf K ta) (eOf K tb) (eOf K tc) σ H Q := by
  refine ⟨c, F, env, R, ha _ _ _ (fun x e1 h v F1 H1 g1 R1 d1 => ⟨c, F1, e1, R1, hb _ _ _ (fun y e2 h w F2 H2 g2 R2 d2 => ?_) h⟩) h⟩
  refine l F2 H2 v w x y _ _ R2.fh (d1.up g2) d2 h fun z H' F' d g dz ⟨k, ek, q⟩ => ?_
  subst ek
  cases dz
  refine ⟨k, rfl, ?_⟩
  cases k with
  | true =>
    rw [if_pos rfl] at q ⊢
    refine ⟨c, F', e2, R2.grow g, hc _ _ _ (fun w' e3 h w2 F3 H3 g3 R3 d3 => ?_) q⟩
    refine l' F3 H3 w w2 y w' _ _ R3.fh ((d2.up g.f).up g3) d3 h fun z' H4 F4 d4 g4 dz4 q4 => q4 z' F4 H4 ((((g1.trans g2).trans g.f).trans g3).trans g4.f) (R3.grow g4) dz4
  | false =>
    rw [if_neg Bool.false_ne_true] at q ⊢
    exact q _ F' H' ((g1.trans g2).trans g.f) (R2.grow g) (.bl _)
variable {c : Expr} {op op' : CmpOp}
theorem ed_chain (ho : OpR X (compareOp op) r) (ho' : OpR X (compareOp op') r') (l : Link X.K r f) (l' : Link X.K r' f') (m : UpF f) (m' : UpF f') (ha : PEd X a ta) (hb : PEd X b tb) (hc : PEd X c tc)
    (hm : lastMarks [op, op'] [b, c] = false := by with_unfolding_all rfl) : PEd X (.Compare a [op, op'] [b, c] pos) (dChain f f' ta tb tc) :=
  ⟨up_chain ha.up hb.up hc.up m m', PE.weak (pe_chain ho ho' ha.pe hb.pe hc.pe hm) fun σ H Q ⟨_, _, _, R, h⟩ => chain_link l l' ha.up hb.up hc.up m m' R h⟩
theorem td_chain (ho : OpR X (compareOp op) r) (ho' : OpR X (compareOp op') r') (l : Link X.K r f) (l' : Link X.K r' f') (m : UpF f) (m' : UpF f') (ha : PEd X a ta) (hb : PEd X b tb) (hc : PEd X c tc)
    (hm : lastMarks [op, op'] [b, c] = false := by with_unfolding_all rfl) : PTd X (.Compare a [op, op'] [b, c] pos) (dB (dChain f f' ta tb tc)) :=
  ⟨Up.dB (up_chain ha.up hb.up hc.up m m'), PT.weak (pt_chain ho ho' ha.pe hb.pe hc.pe hm) fun σ H Q ⟨c0, F, env, R, h⟩ => by
    refine chain_link l l' ha.up hb.up hc.up m m' R (up_chain ha.up hb.up hc.up m m' _ _ _ (fun d e ⟨k, ek, q⟩ v F' H' g R' dp => ?_) h)
    subst ek
    cases dp
    exact ⟨k, rfl, q F' H' g R'⟩⟩
end
/-- the order's own pieces for chains, by the operator -/
theorem ol_lt {K : PySem.W.Frag} : Link K (rCmpD K fLt) fLt := link_cmpD up_cmp isb_cmp
theorem ol_le {K : PySem.W.Frag} : Link K (rCmpD K fLe) fLe := link_cmpD up_cmp isb_cmp
theorem ol_gt {K : PySem.W.Frag} : Link K (rCmpD K fGt) fGt := link_cmpD up_cmp isb_cmp
theorem ol_ge {K : PySem.W.Frag} : Link K (rCmpD K fGe) fGe := link_cmpD up_cmp isb_cmp
theorem ol_eq {K : PySem.W.Frag} : Link K (rCmpD K fEq) fEq := link_cmpD up_eq isb_eq
theorem ol_ne {K : PySem.W.Frag} : Link K (rCmpD K fNe) fNe := link_cmpD up_ne isb_ne
end

/-! ### calls of what is built in -/
abbrev FC := List D → (D → Prop) → Prop
abbrev FL := List D → (List D → Prop) → Prop
def dCall (f : FC) (t : DAs) : DE := fun env Q => t env fun ds env1 => f ds fun z => Q z env1
def lCall (f : FL) (t : DAs) : DAs := fun env Q => t env fun ds env1 => f ds fun z => Q z env1
def UpC (f : FC) : Prop := ∀ (ds : List D) (Q Q' : D → Prop), (∀ z, Q z → Q' z) → f ds Q → f ds Q'
def UpL (f : FL) : Prop := ∀ (ds : List D) (Q Q' : List D → Prop), (∀ z, Q z → Q' z) → f ds Q → f ds Q'
abbrev RCall := List V → Hp → VK → Prop
def LinkC (K : PySem.W.Frag) (r : RCall) (f : FC) : Prop := ∀ (F H : Hp) (vs : List V) (ds : List D) (Qd : D → Prop) (Qr : VK), Ex F H → DpAll K F vs ds → f ds Qd →
  (∀ z H' F' d, Grow F H F' H' → Dp K F' z d → Qd d → Qr z H') → r vs H Qr
def LinkL (K : PySem.W.Frag) (r : RCall) (f : FL) : Prop := ∀ (F H : Hp) (vs : List V) (ds : List D) (Qd : List D → Prop) (Qr : VK), Ex F H → DpAll K F vs ds → f ds Qd →
  (∀ p xs H' F' d, Grow F H F' H' → H' p = none → DpAll K F' xs d → Qd d → Qr (.ref p) (upd H' p (.lst xs))) → r vs H Qr
section
variable {X : Cx} {e : Expr} {es : List Expr} {t : DAs} {r : RCall}
theorem ed_call {f : FC} (hpe : ∀ {t' : TA}, PA X es t' → PE X e (tCB r t')) (l : LinkC X.K r f) (m : UpC f) (ha : PAd X es t) : PEd X e (dCall f t) := by
  refine ⟨fun env Q Q' w h => ha.up _ _ _ (fun x e1 h1 => m _ _ _ (fun z => w z e1) h1) h, PE.weak (hpe ha.pa) fun σ H Q ⟨c, F, env, R, h⟩ => ⟨c, F, env, R, ha.up _ _ _ (fun x e1 h1 v F1 H1 g1 R1 d1 => ?_) h⟩⟩
  exact l F1 H1 v x _ _ R1.fh d1 h1 fun z H' F' d g dz q => q z F' H' (g1.trans g.f) (R1.grow g) dz
theorem ld_call {f : FL} (hpe : ∀ {t' : TA}, PA X es t' → PE X e (tCB r t')) (l : LinkL X.K r f) (m : UpL f) (ha : PAd X es t) : PLd X e (lCall f t) := by
  refine ⟨fun env Q Q' w h => ha.up _ _ _ (fun x e1 h1 => m _ _ _ (fun z => w z e1) h1) h, PE.weak (hpe ha.pa) fun σ H Q ⟨c, F, env, R, h⟩ => ⟨c, F, env, R, ha.up _ _ _ (fun x e1 h1 v F1 H1 g1 R1 d1 => ?_) h⟩⟩
  exact l F1 H1 v x _ _ R1.fh d1 h1 fun p xs H' F' d g np dz q => q p xs F' H' (g1.trans g.f) (R1.grow g) np dz
end
def cLen : FC := fun ds Q => match ds with
  | [.list xs] => Q (.int xs.length)
  | [.tuple xs] => Q (.int xs.length)
  | [.str x] => x.length ≤ 16777216 ∧ Q (.int x.length)
  | _ => False
def cInt : FC := fun ds Q => match ds with
  | [.int i] => Q (.int i)
  | [.bool b] => Q (.int (if b = true then 1 else 0))
  | _ => False
def cAbs : FC := fun ds Q => match ds with
  | [.int i] => Q (.int i.natAbs)
  | _ => False
def cMax2 : FC := fun ds Q => match ds with
  | [.int i, .int j] => Q (.int (max i j))
  | _ => False
def cMin2 : FC := fun ds Q => match ds with
  | [.int i, .int j] => Q (.int (min i j))
  | _ => False
def cMinL : FC := fun ds Q => match ds with
  | [.list (x :: xs)] => AlikeAll (x :: xs) ∧ PyData.depthAll (x :: xs) ≤ 64 ∧ Q (minD x xs)
  | [.tuple (x :: xs)] => AlikeAll (x :: xs) ∧ PyData.depthAll (x :: xs) ≤ 64 ∧ Q (minD x xs)
  | _ => False
def cMaxL : FC := fun ds Q => match ds with
  | [.list (x :: xs)] => AlikeAll (x :: xs) ∧ PyData.depthAll (x :: xs) ≤ 64 ∧ Q (maxD x xs)
  | [.tuple (x :: xs)] => AlikeAll (x :: xs) ∧ PyData.depthAll (x :: xs) ≤ 64 ∧ Q (maxD x xs)
  | _ => False
def cSum : FC := fun ds Q => ∃ ns : List Int, ds = [.list (ns.map PyData.int)] ∧ Q (.int ns.sum)
def cAll : FC := fun ds Q => ∃ bs : List Bool, ds = [.list (bs.map PyData.bool)] ∧ Q (.bool (bs.all id))
def cAny : FC := fun ds Q => ∃ bs : List Bool, ds = [.list (bs.map PyData.bool)] ∧ Q (.bool (bs.any id))
def cTuple : FC := fun ds Q => match ds with
  | [.list xs] => Q (.tuple xs)
  | [.tuple xs] => Q (.tuple xs)
  | _ => False
def cList : FL := fun ds Q => match ds with
  | [.list xs] => Q xs
  | [.tuple xs] => Q xs
  | _ => False
def cSortI : FL := fun ds Q => ∃ ns : List Int, ds = [.list (ns.map PyData.int)] ∧ ∀ ns' : List Int, ns'.Perm ns → ns'.Pairwise (· ≤ ·) → Q (ns'.map PyData.int)
section
variable {K : PySem.W.Frag} {F : Hp}
theorem dpa1 {vs : List V} {d : D} (h : DpAll K F vs [d]) : ∃ v, vs = [v] ∧ Dp K F v d := by
  cases h with
  | cons a b => cases b; exact ⟨_, rfl, a⟩
theorem dpa2 {vs : List V} {d d' : D} (h : DpAll K F vs [d, d']) : ∃ v w, vs = [v, w] ∧ Dp K F v d ∧ Dp K F w d' := by
  cases h with
  | cons a b =>
    obtain ⟨w, e, q⟩ := dpa1 b
    subst e
    exact ⟨_, _, rfl, a, q⟩
end
theorem one_cases {P : List D → Prop} (h1 : ∀ d, P [d]) (h0 : P []) (h2 : ∀ d d' r, P (d :: d' :: r)) : ∀ ds, P ds
  | [] => h0
  | [d] => h1 d
  | d :: d' :: r => h2 d d' r
section
variable {X : Cx}
theorem lk_len : LinkC X.K (fun xs H Q => ∃ x n, xs = [x] ∧ LenV X.K x H n ∧ Q (.int n) H) cLen := by
  intro F H vs ds Qd Qr e hv hq k
  match ds, hq with
  | [.list xs], hq =>
    obtain ⟨v, rfl, h⟩ := dpa1 hv
    obtain ⟨p, ws, rfl, s1, a1⟩ := dp_lst h
    exact ⟨_, _, rfl, .inl ⟨ws, ex_l e s1, rfl⟩, k _ H F _ (Grow.refl e) (.int _) (by rw [dpa_len a1]; exact hq)⟩
  | [.tuple xs], hq =>
    obtain ⟨v, rfl, h⟩ := dpa1 hv
    obtain ⟨p, ws, rfl, s1, a1⟩ := dp_tup h
    exact ⟨_, _, rfl, .inr ⟨ws, ex_t e s1, rfl⟩, k _ H F _ (Grow.refl e) (.int _) (by rw [dpa_len a1]; exact hq)⟩
  | [.str x], hq =>
    obtain ⟨v, rfl, h⟩ := dpa1 hv
    rw [dp_str h]
    exact ⟨_, _, rfl, ⟨by rw [sizeLine_eq]; exact hq.1, rfl⟩, k _ H F _ (Grow.refl e) (.int _) hq.2⟩
theorem lk_int : LinkC X.K (fun xs H Q => (∃ i, xs = [.int i] ∧ Q (.int i) H) ∨ ∃ k, xs = [.bl k] ∧ Q (.int (if k then 1 else 0)) H) cInt := by
  intro F H vs ds Qd Qr e hv hq k
  match ds, hq with
  | [.int i], hq =>
    obtain ⟨v, rfl, h⟩ := dpa1 hv
    rw [dp_int h]
    exact .inl ⟨i, rfl, k _ H F _ (Grow.refl e) (.int _) hq⟩
  | [.bool b], hq =>
    obtain ⟨v, rfl, h⟩ := dpa1 hv
    rw [dp_bool h]
    exact .inr ⟨b, rfl, k _ H F _ (Grow.refl e) (.int _) hq⟩
theorem lk_abs : LinkC X.K (fun xs H Q => ∃ i, xs = [.int i] ∧ Q (.int (if i < 0 then -i else i)) H) cAbs := by
  intro F H vs ds Qd Qr e hv hq k
  match ds, hq with
  | [.int i], hq =>
    obtain ⟨v, rfl, h⟩ := dpa1 hv
    rw [dp_int h]
    refine ⟨i, rfl, k _ H F (.int i.natAbs) (Grow.refl e) ?_ hq⟩
    have z : (if i < 0 then -i else i) = (i.natAbs : Int) := by split <;> omega
    rw [z]
    exact .int _
theorem lk_max2 : LinkC X.K (fun xs H Q => ∃ i j, xs = [.int i, .int j] ∧ Q (.int (if j > i then j else i)) H) cMax2 := by
  intro F H vs ds Qd Qr e hv hq k
  match ds, hq with
  | [.int i, .int j], hq =>
    obtain ⟨v, w, rfl, h1, h2⟩ := dpa2 hv
    rw [dp_int h1, dp_int h2]
    refine ⟨i, j, rfl, k _ H F (.int (max i j)) (Grow.refl e) ?_ hq⟩
    have z : (if j > i then j else i) = max i j := by split <;> omega
    rw [z]
    exact .int _
theorem lk_min2 : LinkC X.K (fun xs H Q => ∃ i j, xs = [.int i, .int j] ∧ Q (.int (if j < i then j else i)) H) cMin2 := by
  intro F H vs ds Qd Qr e hv hq k
  match ds, hq with
  | [.int i, .int j], hq =>
    obtain ⟨v, w, rfl, h1, h2⟩ := dpa2 hv
    rw [dp_int h1, dp_int h2]
    refine ⟨i, j, rfl, k _ H F (.int (min i j)) (Grow.refl e) ?_ hq⟩
    have z : (if j < i then j else i) = min i j := by split <;> omega
    rw [z]
    exact .int _
theorem lk_sum : LinkC X.K (rSum X.K) cSum := by
  intro F H vs ds Qd Qr e hv ⟨ns, e1, hq⟩ k
  subst e1
  obtain ⟨v, rfl, h⟩ := dpa1 hv
  obtain ⟨p, ws, rfl, s1, a1⟩ := dp_lst h
  rw [ints_dpa a1] at s1
  exact ⟨p, ns, rfl, ex_l e s1, k _ H F _ (Grow.refl e) (.int _) hq⟩
theorem lk_all : LinkC X.K (rAll X.K) cAll := by
  intro F H vs ds Qd Qr e hv ⟨ns, e1, hq⟩ k
  subst e1
  obtain ⟨v, rfl, h⟩ := dpa1 hv
  obtain ⟨p, ws, rfl, s1, a1⟩ := dp_lst h
  rw [bools_dpa a1] at s1
  exact ⟨p, ns, rfl, ex_l e s1, k _ H F _ (Grow.refl e) (.bl _) hq⟩
theorem lk_any : LinkC X.K (rAny X.K) cAny := by
  intro F H vs ds Qd Qr e hv ⟨ns, e1, hq⟩ k
  subst e1
  obtain ⟨v, rfl, h⟩ := dpa1 hv
  obtain ⟨p, ws, rfl, s1, a1⟩ := dp_lst h
  rw [bools_dpa a1] at s1
  exact ⟨p, ns, rfl, ex_l e s1, k _ H F _ (Grow.refl e) (.bl _) hq⟩
theorem lk_tuple : LinkC X.K (fun xs H Q => ∃ p ys, xs = [.ref p] ∧ ((SqL X.K H p ys ∧ ∀ l, H l = none → Q (.ref l) (upd H l (.tup ys))) ∨ (SqT X.K H p ys ∧ Q (.ref p) H))) cTuple := by
  intro F H vs ds Qd Qr e hv hq k
  match ds, hq with
  | [.list xs], hq =>
    obtain ⟨v, rfl, h⟩ := dpa1 hv
    obtain ⟨p, ws, rfl, s1, a1⟩ := dp_lst h
    refine ⟨p, ws, rfl, .inl ⟨ex_l e s1, fun l nl => ?_⟩⟩
    have g := Grow.one (o := .tup ws) e nl
    exact k _ _ _ _ g (.tup (.inl (.inl upd_same)) (a1.up g.f)) hq
  | [.tuple xs], hq =>
    obtain ⟨v, rfl, h⟩ := dpa1 hv
    obtain ⟨p, ws, rfl, s1, a1⟩ := dp_tup h
    exact ⟨p, ws, rfl, .inr ⟨ex_t e s1, k _ H F _ (Grow.refl e) (.tup s1 a1) hq⟩⟩
theorem lk_list : LinkL X.K (fun xs H Q => ∃ p ys, xs = [.ref p] ∧ (SqL X.K H p ys ∨ SqT X.K H p ys) ∧ ∀ l, H l = none → Q (.ref l) (upd H l (.lst ys))) cList := by
  intro F H vs ds Qd Qr e hv hq k
  match ds, hq with
  | [.list xs], hq =>
    obtain ⟨v, rfl, h⟩ := dpa1 hv
    obtain ⟨p, ws, rfl, s1, a1⟩ := dp_lst h
    exact ⟨p, ws, rfl, .inl (ex_l e s1), fun l nl => k l ws H F _ (Grow.refl e) nl a1 hq⟩
  | [.tuple xs], hq =>
    obtain ⟨v, rfl, h⟩ := dpa1 hv
    obtain ⟨p, ws, rfl, s1, a1⟩ := dp_tup h
    exact ⟨p, ws, rfl, .inr (ex_t e s1), fun l nl => k l ws H F _ (Grow.refl e) nl a1 hq⟩
theorem lk_sortI : LinkL X.K (rSortedI X.K) cSortI := by
  intro F H vs ds Qd Qr e hv ⟨ns, e1, hq⟩ k
  subst e1
  obtain ⟨v, rfl, h⟩ := dpa1 hv
  obtain ⟨p, ws, rfl, s1, a1⟩ := dp_lst h
  rw [ints_dpa a1] at s1
  exact ⟨p, ns, rfl, ex_l e s1, fun ns' q hp hs nq => k q _ H F _ (Grow.refl e) nq (dpa_ints ns') (hq ns' hp hs)⟩
/-- min, max of data -/
def rBest (K : PySem.W.Frag) (f : FC) : RCall := fun vs H Q => ∃ F ds, Ex F H ∧ DpAll K F vs ds ∧ f ds fun d => ∀ v, Dp K F v d → Q v H
theorem lk_best {f : FC} (m : UpC f) : LinkC X.K (rBest X.K f) f := by
  intro F H vs ds Qd Qr e hv hq k
  exact ⟨F, ds, e, hv, m _ _ _ (fun d q v hd => k v H F d (Grow.refl e) hd q) hq⟩
theorem vals_at {vs : List V} {us : List Value} (r : Vals vs us) {i : Nat} {u : Value} (h : us[i]? = some u) : ∃ v, vs[i]? = some v ∧ RelV v u := by
  have hl := r.length
  have hi : i < us.length := (List.getElem?_eq_some_iff.mp h).1
  obtain ⟨u', h1, h2⟩ := r.get (i := i) (x := vs[i]'(by omega)) (List.getElem?_eq_getElem (by omega))
  rw [h] at h1
  cases h1
  exact ⟨_, List.getElem?_eq_getElem (by omega), h2⟩
theorem dpa_get' {K : PySem.W.Frag} {F : Hp} : ∀ {vs : List V} {ds : List D} {i : Nat} {v : V}, DpAll K F vs ds → vs[i]? = some v → ∃ d, ds[i]? = some d ∧ Dp K F v d
  | [], _, _, _, h, e => by simp at e
  | v :: vs, _, 0, _, h, e => by
    cases h with
    | cons h1 h2 =>
      simp at e
      subst e
      exact ⟨_, rfl, h1⟩
  | v :: vs, _, i + 1, _, h, e => by
    cases h with
    | cons h1 h2 =>
      simp only [List.getElem?_cons_succ] at e ⊢
      exact dpa_get' h2 e
/-- the least item is one of the items -/
theorem best_is {pins : List (Addr × Obj)} {σ : L2.St} {H F : Hp} {s : Shared} {vs : List V} {us : List Value} {ds : List D} {d : D} {i : Nat} {v : Value} {h' : Heap} {bs : List Addr} (I : Inv X pins σ H s) (e : Ex F H) (a : DpAll X.K F vs ds) (r : Vals vs us)
    (hi : us[i]? = some v) (hr : Reads h' v d bs) (hk : ∀ b o, s.heap.get? b = some o → h'.get? b = some o) : ∃ w, RelV w v ∧ Dp X.K F w d := by
  obtain ⟨w, hw, rw'⟩ := vals_at r hi
  obtain ⟨d', hd, dp⟩ := dpa_get' a hw
  obtain ⟨as, q⟩ := reads_of I e dp rw'
  have q' := PyProof.Rows.Reads.keeps hk q
  have ee : d' = d := PySem.SeqAt.plain_unique d' d v as bs (dp_plain _ _ dp) q' hr
  subst ee
  exact ⟨w, rw', dp⟩
theorem cr_minD (hc : X.calm = true) (hu : X.A.units + 100 < cLine) : CallR X (.builtin "min") (rBest X.K cMinL) := by
  intro pins s σ H vs us Q I r ⟨F, ds, e, hv, h⟩
  match ds, h with
  | [.list (x :: xs)], h =>
    obtain ⟨v, rfl, hd⟩ := dpa1 hv
    obtain ⟨p, ws, rfl, s1, a1⟩ := dp_lst hd
    obtain ⟨its, rv, pl, _⟩ := I.list (ex_l e s1)
    rw [Vals.ref1 r]
    obtain ⟨as, hr⟩ := Dp.readsAll I (x :: xs) ws its (a1.up e) rv
    refine PySem.W.min_list_data (I.ok.hd hc) pl.isList hr h.1 (by have := h.2.1; omega) fun i v h' tk bs hi hrd hk => ?_
    obtain ⟨w, r1, d1⟩ := best_is I e a1 rv (by simpa using hi) hrd hk
    exact ⟨w, H, I.kept hk, r1, h.2.2 w d1⟩
  | [.tuple (x :: xs)], h =>
    obtain ⟨v, rfl, hd⟩ := dpa1 hv
    obtain ⟨p, ws, rfl, s1, a1⟩ := dp_tup hd
    obtain ⟨its, rv, pl, _⟩ := I.tuple (ex_t e s1)
    rw [Vals.ref1 r]
    obtain ⟨as, hr⟩ := Dp.readsAll I (x :: xs) ws its (a1.up e) rv
    refine PySem.W.min_tuple_data (I.ok.hd hc) (show s.heap.IsTuple p its.toArray from pl) hr h.1 (by have := h.2.1; omega) fun i v h' tk bs hi hrd hk => ?_
    obtain ⟨w, r1, d1⟩ := best_is I e a1 rv (by simpa using hi) hrd hk
    exact ⟨w, H, I.kept hk, r1, h.2.2 w d1⟩
theorem cr_maxD (hc : X.calm = true) (hu : X.A.units + 100 < cLine) : CallR X (.builtin "max") (rBest X.K cMaxL) := by
  intro pins s σ H vs us Q I r ⟨F, ds, e, hv, h⟩
  match ds, h with
  | [.list (x :: xs)], h =>
    obtain ⟨v, rfl, hd⟩ := dpa1 hv
    obtain ⟨p, ws, rfl, s1, a1⟩ := dp_lst hd
    obtain ⟨its, rv, pl, _⟩ := I.list (ex_l e s1)
    rw [Vals.ref1 r]
    obtain ⟨as, hr⟩ := Dp.readsAll I (x :: xs) ws its (a1.up e) rv
    refine PySem.W.max_list_data (I.ok.hd hc) pl.isList hr h.1 (by have := h.2.1; omega) fun i v h' tk bs hi hrd hk => ?_
    obtain ⟨w, r1, d1⟩ := best_is I e a1 rv (by simpa using hi) hrd hk
    exact ⟨w, H, I.kept hk, r1, h.2.2 w d1⟩
  | [.tuple (x :: xs)], h =>
    obtain ⟨v, rfl, hd⟩ := dpa1 hv
    obtain ⟨p, ws, rfl, s1, a1⟩ := dp_tup hd
    obtain ⟨its, rv, pl, _⟩ := I.tuple (ex_t e s1)
    rw [Vals.ref1 r]
    obtain ⟨as, hr⟩ := Dp.readsAll I (x :: xs) ws its (a1.up e) rv
    refine PySem.W.max_tuple_data (I.ok.hd hc) (show s.heap.IsTuple p its.toArray from pl) hr h.1 (by have := h.2.1; omega) fun i v h' tk bs hi hrd hk => ?_
    obtain ⟨w, r1, d1⟩ := best_is I e a1 rv (by simpa using hi) hrd hk
    exact ⟨w, H, I.kept hk, r1, h.2.2 w d1⟩
end
theorem up_len : UpC cLen := fun ds Q Q' w h => by
  match ds, h with
  | [.list xs], h => exact w _ h
  | [.tuple xs], h => exact w _ h
  | [.str x], h => exact ⟨h.1, w _ h.2⟩
theorem up_int : UpC cInt := fun ds Q Q' w h => by
  match ds, h with
  | [.int xs], h => exact w _ h
  | [.bool xs], h => exact w _ h
theorem up_abs : UpC cAbs := fun ds Q Q' w h => by
  match ds, h with
  | [.int xs], h => exact w _ h
theorem up_max2 : UpC cMax2 := fun ds Q Q' w h => by
  match ds, h with
  | [.int xs, .int ys], h => exact w _ h
theorem up_min2 : UpC cMin2 := fun ds Q Q' w h => by
  match ds, h with
  | [.int xs, .int ys], h => exact w _ h
theorem up_minL : UpC cMinL := fun ds Q Q' w h => by
  match ds, h with
  | [.list (x :: xs)], h => exact ⟨h.1, h.2.1, w _ h.2.2⟩
  | [.tuple (x :: xs)], h => exact ⟨h.1, h.2.1, w _ h.2.2⟩
theorem up_maxL : UpC cMaxL := fun ds Q Q' w h => by
  match ds, h with
  | [.list (x :: xs)], h => exact ⟨h.1, h.2.1, w _ h.2.2⟩
  | [.tuple (x :: xs)], h => exact ⟨h.1, h.2.1, w _ h.2.2⟩
theorem up_sum : UpC cSum := fun ds Q Q' w ⟨n, e, h⟩ => ⟨n, e, w _ h⟩
theorem up_all : UpC cAll := fun ds Q Q' w ⟨n, e, h⟩ => ⟨n, e, w _ h⟩
theorem up_any : UpC cAny := fun ds Q Q' w ⟨n, e, h⟩ => ⟨n, e, w _ h⟩
theorem up_tuple : UpC cTuple := fun ds Q Q' w h => by
  match ds, h with
  | [.list xs], h => exact w _ h
  | [.tuple xs], h => exact w _ h
theorem up_list : UpL cList := fun ds Q Q' w h => by
  match ds, h with
  | [.list xs], h => exact w _ h
  | [.tuple xs], h => exact w _ h
theorem up_sortI : UpL cSortI := fun ds Q Q' w ⟨n, e, h⟩ => ⟨n, e, fun a b c => w _ (h a b c)⟩
/-! ### isinstance of data -/
def fIs (T : String) : F1 := fun x Q => match T with
  | "int" => Q (.bool x.isInt)
  | "bool" => Q (.bool x.isBool)
  | "str" => Q (.bool x.isStr)
  | "tuple" => Q (.bool x.isTuple)
  | "list" => Q (.bool x.isList)
  | _ => False
end PD

namespace PD
open PySem PySem.Spec PyProof.Rows L2
/-! ### isinstance -/
section
variable {X : Cx} {a e : Expr} {ta : DE} {pos : Pos}
def rIsD (K : PySem.W.Frag) (T : String) (f : D → Bool) : RCall := fun xs H Q => ∃ v d F, xs = [v, .ty T] ∧ Ex F H ∧ Dp K F v d ∧ Q (.bl (f d)) H
theorem cr_isD {T : String} {f : D → Bool} (raw : ∀ {A : Around} {E : Value → Shared → Prop} {s : Shared} {v : Value} {d : D} {as : List Addr} {Q : Value → Shared → Prop}, Reads s.heap v d as → (∀ tk, s.toks ≤ tk → Q (.bool (f d)) { s with toks := tk }) → wpAny (model X.prog X.w) A (call (.builtin "isinstance") [v, .type T]) Q E s) :
    CallR X (.builtin "isinstance") (rIsD X.K T f) := by
  intro pins s σ H vs us Q I r ⟨v, d, F, e, g, hd, q⟩
  subst e
  obtain ⟨u, w, rfl, r1, r2⟩ := vals2 r
  cases r2
  obtain ⟨as, ra⟩ := reads_of I g hd r1
  exact raw ra fun tk _ => ⟨.bl _, H, I.tok tk, rfl, q⟩
def dIs (f : D → Bool) (ta : DE) : DE := fun env Q => ta env fun x e1 => Q (.bool (f x)) e1
theorem ed_is {T : String} {f : D → Bool} {t : Str} {p p2 : Pos} (cr : CallR X (.builtin "isinstance") (rIsD X.K T f)) (hT : bootBuiltins t = some (.type T)) (hg2 : Gl X t) (hm2 : X.mg t = none) (hg : Gl X "isinstance") (hm : X.mg "isinstance" = none)
    (ha : PEd X a ta) (hs1 : starEach [a, .Name t p2] X.env = (false, eval a X.env) :: starEach [.Name t p2] X.env := by rfl) (hs2 : starEach [.Name t p2] X.env = (false, eval (.Name t p2) X.env) :: starEach [] X.env := by rfl) (hpl : (backTo pos (starEach [.Name t p2] X.env)).any (·.1) = false := by rfl)
    (hn : t ≠ "__name__" := by decide) (hd : (t == ("__debug__" : Str)) = false := by decide) :
    PEd X (.Call (.Name "isinstance" p) [a, .Name t p2] [] pos) (dIs f ta) :=
  ⟨fun _ _ _ w h => ha.up _ _ _ (fun x e1 h => w _ _ h) h, PE.weak (pe_callB cr hg hm boot_isinstance (pa_cons ha.pe (pa_cons (pe_bltn (v := .ty T) hg2 hm2 hT rfl hn hd) pa_nil hs2) hs1) (by decide) (by decide) hs1 hpl) fun σ H Q ⟨c, F, env, R, h⟩ =>
    ⟨c, F, env, R, ha.up _ _ _ (fun x e1 h v F1 H1 g1 R1 d1 => ⟨v, x, F1, rfl, R1.fh, d1, h _ F1 H1 g1 R1 (.bl _)⟩) h⟩⟩
theorem cr_isInt : CallR X (.builtin "isinstance") (rIsD X.K "int" PyData.isInt) := cr_isD PySem.W.isinstance_int_data
theorem cr_isBool : CallR X (.builtin "isinstance") (rIsD X.K "bool" PyData.isBool) := cr_isD PySem.W.isinstance_bool_data
theorem cr_isStr : CallR X (.builtin "isinstance") (rIsD X.K "str" PyData.isStr) := cr_isD PySem.W.isinstance_str_data
theorem cr_isTuple : CallR X (.builtin "isinstance") (rIsD X.K "tuple" PyData.isTuple) := cr_isD PySem.W.isinstance_tuple_data
theorem cr_isList : CallR X (.builtin "isinstance") (rIsD X.K "list" PyData.isList) := cr_isD PySem.W.isinstance_list_data
end
/-! ### targets -/
section
variable {X : Cx} {a e : Expr} {es : List Expr} {pos : Pos} {g : DG} {gs : DGs} {ws ws' : List Nat}
theorem Off.refl {ws : List Nat} {σ : L2.St} : Off ws σ σ := ⟨rfl, fun _ _ => rfl⟩
theorem Off.trans {σ σ1 σ2 : L2.St} (a : Off ws σ σ1) (b : Off ws' σ1 σ2) : Off (ws ++ ws') σ σ2 :=
  ⟨b.1.trans a.1, fun i h => (b.2 i fun z => h (List.mem_append_right _ z)).trans (a.2 i fun z => h (List.mem_append_left _ z))⟩
theorem Off.one {σ : L2.St} {i : Nat} {x : Option V} : Off [i] σ (σ.set i x) := ⟨List.length_set, fun j h => List.getElem?_set_ne (fun e => h (by rw [e]; simp))⟩
theorem wipe_at {σ : L2.St} : ∀ {vs : List Nat} {i : Nat}, i ∈ vs → (wipe σ vs)[i]? = if i < σ.length then some none else none
  | v :: vs, i, h => by
    unfold wipe
    by_cases e : v = i
    · subst e
      rw [List.getElem?_set_self', ← L2.wipe_length σ vs]
      by_cases hl : v < (wipe σ vs).length
      · rw [if_pos hl, List.getElem?_eq_getElem hl]
        rfl
      · rw [if_neg hl, List.getElem?_eq_none (by omega)]
        rfl
    · rw [List.getElem?_set_ne e]
      rcases List.mem_cons.mp h with z | z
      · exact absurd z.symm e
      · exact wipe_at z
theorem Off.wipe {σ σ' : L2.St} {vs : List Nat} (h : Off ws σ σ') (hs : ∀ i ∈ ws, i ∈ vs) : L2.wipe σ' vs = L2.wipe σ vs := by
  apply List.ext_getElem?
  intro i
  by_cases hi : i ∈ vs
  · rw [wipe_at hi, wipe_at hi, h.1]
  · rw [wipe_out hi, wipe_out hi]
    exact h.2 i fun z => hi (hs i z)
def gSet (i : Nat) : DG := fun d env Q => Q (env.set i (.dt d))
theorem gd_name {i : Nat} (h : PG X e (gName i)) : PGd X e (gSet i) [i] :=
  ⟨fun _ _ _ _ w q => w _ q, PG.weak h fun v σ H Q ⟨c, F, env, d, R, dp, q⟩ => q _ F H (Ex.refl F) (R.set i dp) Off.one⟩
def gNilD : DGs := fun ds env Q => ds = [] ∧ Q env
def gConsD (g : DG) (gs : DGs) : DGs := fun ds env Q => ∃ d r, ds = d :: r ∧ g d env fun e1 => gs r e1 Q
theorem gsd_nil : PGsd X [] gNilD [] := ⟨fun _ _ _ _ w ⟨e, q⟩ => ⟨e, w _ q⟩, PGs.weak pgs_nil fun v σ H Q ⟨c, F, env, ds, R, dp, e, q⟩ => by
  subst e
  cases dp
  exact ⟨rfl, q σ F H (Ex.refl F) R Off.refl⟩⟩
theorem gsd_cons (h1 : PGd X e g ws) (h2 : PGsd X es gs ws') (hs : (assignEach (e :: es) X.env).map (·.2) = assign e X.env :: (assignEach es X.env).map (·.2) := by rfl) : PGsd X (e :: es) (gConsD g gs) (ws ++ ws') := by
  refine ⟨fun _ _ _ _ w ⟨d, r, e, q⟩ => ⟨d, r, e, h1.up _ _ _ _ (fun e1 q => h2.up _ _ _ _ w q) q⟩, PGs.weak (pgs_cons h1.pg h2.pg hs) fun v σ H Q ⟨c, F, env, ds, R, dp, d, r, e, q⟩ => ?_⟩
  subst e
  cases dp with
  | cons a b =>
    refine ⟨_, _, rfl, c, F, env, d, R, a, h1.up _ _ _ _ (fun e1 q σ1 F1 H1 g1 R1 o1 => ?_) q⟩
    exact ⟨c, F1, e1, r, R1, b.up g1, h2.up _ _ _ _ (fun e2 q σ2 F2 H2 g2 R2 o2 => q σ2 F2 H2 (g1.trans g2) R2 (o1.trans o2)) q⟩
/-- unpacking a tuple of n -/
def gTupD (n : Nat) (gs : DGs) : DG := fun d env Q => ∃ ds, d = .tuple ds ∧ ds.length = n ∧ gs ds env Q
theorem gd_tup {k n : Nat} (hc : X.calm = true) (h : PGsd X es gs ws) (hn : (assignEach es X.env).length = n := by rfl) (hst : (assignEach es X.env).findIdx? (·.1) = none := by rfl) : PGd X (.Tuple es k pos) (gTupD n gs) ws := by
  refine ⟨fun _ _ _ _ w ⟨ds, e, hl, q⟩ => ⟨ds, e, hl, h.up _ _ _ _ w q⟩, PG.weak (pg_tup hc h.pg hn hst) fun v σ H Q ⟨c, F, env, d, R, dp, ds, e, hl, q⟩ => ?_⟩
  subst e
  obtain ⟨p, xs, rfl, s1, a1⟩ := dp_tup dp
  exact ⟨p, xs, rfl, ex_t R.fh s1, by rw [dpa_len a1, hl], c, F, env, ds, R, a1, q⟩
end
/-! ### what is walked -/
def ItOk (K : PySem.W.Frag) (J : It) (F : Hp) (ds : List D) : Prop := ∃ (G : Hp → Prop) (Y : Nat → Hp → V → Hp → Prop), Walk J ds.length G Y ∧ (∀ F' H, Ex F F' → Ex F' H → G H) ∧
  ∀ i F' H x H', i < ds.length → Ex F F' → Ex F' H → Y i H x H' → ∃ F2 d, ds[i]? = some d ∧ Grow F' H F2 H' ∧ Dp K F2 x d
theorem ItOk.up {K : PySem.W.Frag} {J : It} {F F' : Hp} {ds : List D} (h : ItOk K J F ds) (e : Ex F F') : ItOk K J F' ds := by
  obtain ⟨G, Y, W, hG, hY⟩ := h
  exact ⟨G, Y, W, fun F2 H a b => hG F2 H (e.trans a) b, fun i F2 H x H' hi a b y => hY i F2 H x H' hi (e.trans a) b y⟩
abbrev DI := DEnv → (List D → DEnv → Prop) → Prop
def iOf (K : PySem.W.Frag) (w : DI) : TI := fun σ H R => ∃ c F env, Rp K c env σ F H ∧ w env fun ds env' => ∀ J F' H', Ex F F' → Rp K c env' σ F' H' → ItOk K J F' ds → R J H'
structure PId (X : Cx) (tg iter : Expr) (w : DI) : Prop where
  up : Up w
  pi : PI X tg iter (iOf X.K w)
theorem PI.weak {X : Cx} {tg e : Expr} {t t' : TI} (h : PI X tg e t) (w : ∀ σ H Q, t' σ H Q → t σ H Q) : PI X tg e t' := ⟨fun pins s σ H Q I q => h.run pins s σ H Q I (w σ H Q q)⟩
section
variable {X : Cx} {tg e a b : Expr} {es : List Expr} {ta : DE} {t : DAs} {pos : Pos}
/-- a list or a tuple -/
def iSeqV (K : PySem.W.Frag) (tl : TE) : TI := fun σ H R => tl σ H fun x H1 => ∃ a, x = .ref a ∧ ((∃ xs, SqL K H1 a xs) ∧ R (Itl K a) H1 ∨ (∃ xs, SqT K H1 a xs) ∧ R (Itt K a) H1)
theorem pi_seqV {tl : TE} (hl : PE X e tl) : PI X tg e (iSeqV X.K tl) := by
  refine ⟨fun pins s σ H R I h => ?_⟩
  have l1 := (pi_list (tg := tg) (show PE X e (fun σ H Q => tl σ H fun x H1 => Q x H1) from hl))
  refine thn (hl.run pins s σ H _ I h) fun v s1 ⟨x, H1, I1, r1, q1⟩ => ?_
  obtain ⟨a, ea, q⟩ := q1
  subst ea
  cases r1
  -- by a name that is known: the two rules' own second halves
  rcases q with ⟨⟨xs, hq⟩, q⟩ | ⟨⟨xs, hq⟩, q⟩
  · obtain ⟨its, rv, p, hz⟩ := I1.list hq
    refine wpAny_pyIter_list p.isList ⟨s1.heap.objs.size, [s1.heap.objs.size], _, _, H1, rfl, I1.kept (t' := s1.toks) fun b o z => Heap.get?_push_of_some _ z, turn_list a _, ⟨_, Heap.get?_push_size _ rfl, rfl, rfl⟩, fun b hb => ?_, q⟩
    obtain rfl : b = s1.heap.objs.size := by simpa using hb
    exact I1.fpOk (Nat.le_refl _) (I1.hok.fresh (Nat.le_refl _))
  · obtain ⟨its, rv, p, hz⟩ := I1.tuple hq
    refine wpAny_pyIter_tuple (show s1.heap.IsTuple a its.toArray from p) ⟨s1.heap.objs.size, [s1.heap.objs.size], _, _, H1, rfl, I1.kept (t' := s1.toks) fun b o z => Heap.get?_push_of_some _ z, turn_tuple a _, ⟨_, Heap.get?_push_size _ rfl, rfl, rfl⟩, fun b hb => ?_, q⟩
    obtain rfl : b = s1.heap.objs.size := by simpa using hb
    exact I1.fpOk (Nat.le_refl _) (I1.hok.fresh (Nat.le_refl _))
theorem itok_list {K : PySem.W.Frag} {F : Hp} {p : Addr} {xs : List V} {ds : List D} (s1 : SqL K F p xs) (a1 : DpAll K F xs ds) : ItOk K (Itl K p) F ds := by
  refine ⟨fun H => SqL K H p xs, YAt xs, by rw [← dpa_len a1]; exact walk_list, fun F' H e1 e2 => ex_l e2 (ex_l e1 s1), fun i F' H x H' hi e1 e2 y => ?_⟩
  obtain ⟨rfl, hx⟩ := y
  obtain ⟨d, h1, h2⟩ := dpa_get' a1 hx
  exact ⟨F', d, h1, Grow.refl e2, h2.up e1⟩
theorem itok_tup {K : PySem.W.Frag} {F : Hp} {p : Addr} {xs : List V} {ds : List D} (s1 : SqT K F p xs) (a1 : DpAll K F xs ds) : ItOk K (Itt K p) F ds := by
  refine ⟨fun H => SqT K H p xs, YAt xs, by rw [← dpa_len a1]; exact walk_tup, fun F' H e1 e2 => ex_t e2 (ex_t e1 s1), fun i F' H x H' hi e1 e2 y => ?_⟩
  obtain ⟨rfl, hx⟩ := y
  obtain ⟨d, h1, h2⟩ := dpa_get' a1 hx
  exact ⟨F', d, h1, Grow.refl e2, h2.up e1⟩
def iSeq (ta : DE) : DI := fun env Q => ta env fun d e1 => ∃ ds, (d = .list ds ∨ d = .tuple ds) ∧ Q ds e1
theorem id_seq (ha : PEd X e ta) : PId X tg e (iSeq ta) := by
  refine ⟨fun _ _ _ w q => ha.up _ _ _ (fun d e1 ⟨ds, h, q⟩ => ⟨ds, h, w _ _ q⟩) q, PI.weak (pi_seqV ha.pe) fun σ H Q ⟨c, F, env, R, h⟩ => ⟨c, F, env, R, ha.up _ _ _ (fun d e1 ⟨ds, h, q⟩ v F1 H1 g1 R1 d1 => ?_) h⟩⟩
  rcases h with rfl | rfl
  · obtain ⟨p, xs, rfl, s1, a1⟩ := dp_lst d1
    exact ⟨p, rfl, .inl ⟨⟨xs, ex_l R1.fh s1⟩, q _ F1 H1 g1 R1 (itok_list s1 a1)⟩⟩
  · obtain ⟨p, xs, rfl, s1, a1⟩ := dp_tup d1
    exact ⟨p, rfl, .inr ⟨⟨xs, ex_t R1.fh s1⟩, q _ F1 H1 g1 R1 (itok_tup s1 a1)⟩⟩
/-- ranges -/
def rangeD (lo c : Int) (n : Nat) : List D := (List.range n).map fun i => PyData.int (lo + (i : Nat) * c)
theorem rangeD_get {lo c : Int} {n i : Nat} (h : i < n) : (rangeD lo c n)[i]? = some (.int (lo + (i : Nat) * c)) := by
  unfold rangeD
  rw [List.getElem?_map, List.getElem?_range h]
  rfl
theorem rangeD_len {lo c : Int} {n : Nat} : (rangeD lo c n).length = n := by unfold rangeD; simp
theorem itok_range {K : PySem.W.Frag} {F : Hp} {lo : Int} {n : Nat} : ItOk K (Itr lo n) F (rangeD lo 1 n) := by
  refine ⟨fun _ => True, YFn fun i => .int (lo + i), by rw [rangeD_len]; exact walk_range, fun _ _ _ _ => True.intro, fun i F' H x H' hi e1 e2 y => ?_⟩
  obtain ⟨rfl, rfl⟩ := y
  rw [rangeD_len] at hi
  exact ⟨F', _, rangeD_get hi, Grow.refl e2, by rw [Int.mul_one]; exact .int _⟩
theorem itok_rangeC {K : PySem.W.Frag} {F : Hp} {lo c : Int} {n : Nat} : ItOk K (Itc lo c n) F (rangeD lo c n) := by
  refine ⟨fun _ => True, YFn fun i => .int (lo + (i : Nat) * c), by rw [rangeD_len]; exact walk_rangeC, fun _ _ _ _ => True.intro, fun i F' H x H' hi e1 e2 y => ?_⟩
  obtain ⟨rfl, rfl⟩ := y
  rw [rangeD_len] at hi
  exact ⟨F', _, rangeD_get hi, Grow.refl e2, .int _⟩
def iR1 (t : DAs) : DI := fun env Q => t env fun ds e1 => ∃ j : Int, ds = [.int j] ∧ (-(2 ^ 62) ≤ j ∧ j < 2 ^ 62) ∧ Q (rangeD 0 1 j.toNat) e1
def iR2 (t : DAs) : DI := fun env Q => t env fun ds e1 => ∃ i j : Int, ds = [.int i, .int j] ∧ (-(2 ^ 62) ≤ i ∧ i < 2 ^ 62 ∧ -(2 ^ 62) ≤ j ∧ j < 2 ^ 62) ∧ Q (rangeD i 1 (j - i).toNat) e1
def iR3 (t : DAs) : DI := fun env Q => t env fun ds e1 => ∃ (i j c : Int) (n : Nat), ds = [.int i, .int j, .int c] ∧ RgC i j c n ∧ Q (rangeD i c n) e1
theorem id_r1 {p : Pos} (hg : Gl X "range") (hm : X.mg "range" = none) (ha : PAd X [a] t) (hs : starEach [a] X.env = [(false, eval a X.env)] := by rfl) : PId X tg (.Call (.Name "range" p) [a] [] pos) (iR1 t) := by
  refine ⟨fun _ _ _ w q => ha.up _ _ _ (fun d e1 ⟨j, h1, h2, q⟩ => ⟨j, h1, h2, w _ _ q⟩) q, PI.weak (pi_range1 hg hm ha.pa hs) fun σ H Q ⟨c, F, env, R, h⟩ => ⟨c, F, env, R, ha.up _ _ _ (fun d e1 ⟨j, h1, h2, q⟩ v F1 H1 g1 R1 d1 => ?_) h⟩⟩
  subst h1
  obtain ⟨v', rfl, z⟩ := dpa1 d1
  exact ⟨j, by rw [dp_int z], h2.1, h2.2, q _ F1 H1 g1 R1 itok_range⟩
theorem id_r2 {p : Pos} (hg : Gl X "range") (hm : X.mg "range" = none) (ha : PAd X [a, b] t) (hs : starEach [a, b] X.env = [(false, eval a X.env), (false, eval b X.env)] := by rfl) (hs2 : starEach [b] X.env = [(false, eval b X.env)] := by rfl) : PId X tg (.Call (.Name "range" p) [a, b] [] pos) (iR2 t) := by
  refine ⟨fun _ _ _ w q => ha.up _ _ _ (fun d e1 ⟨i, j, h1, h2, q⟩ => ⟨i, j, h1, h2, w _ _ q⟩) q, PI.weak (pi_range2 hg hm ha.pa hs hs2) fun σ H Q ⟨c, F, env, R, h⟩ => ⟨c, F, env, R, ha.up _ _ _ (fun d e1 ⟨i, j, h1, h2, q⟩ v F1 H1 g1 R1 d1 => ?_) h⟩⟩
  subst h1
  obtain ⟨v', w', rfl, z, z'⟩ := dpa2 d1
  exact ⟨i, j, by rw [dp_int z, dp_int z'], h2, q _ F1 H1 g1 R1 itok_range⟩
end
/-! ### for -/
def forD (g : DG) (tb : DS) (E : EndsD) : List D → DEnv → Prop
  | [], env => E.nx env
  | d :: ds, env => g d env fun e1 => tb { nx := forD g tb E ds, rt := E.rt, bk := E.nx, ct := forD g tb E ds } e1
def dFor (w : DI) (g : DG) (tb : DS) : DS := fun E env => w env fun ds e1 => forD g tb E ds e1
theorem forD_up {g : DG} {tb : DS} (hg : UpG g) (hb : UpS tb) {E E' : EndsD} (l : E.le E') : ∀ (ds : List D) (env : DEnv), forD g tb E ds env → forD g tb E' ds env
  | [], env, h => l.nx _ h
  | d :: ds, env, h => hg _ _ _ _ (fun e1 h => hb e1 { nx := forD g tb E ds, rt := E.rt, bk := E.nx, ct := forD g tb E ds } { nx := forD g tb E' ds, rt := E'.rt, bk := E'.nx, ct := forD g tb E' ds } ⟨fun e h => forD_up hg hb l ds e h, l.rt, l.nx, fun e h => forD_up hg hb l ds e h⟩ h) h
section
variable {X : Cx} {tg iter : Expr} {body : List Stmt} {w : DI} {g : DG} {tb : DS} {ws : List Nat} {pos : Pos}
theorem sd_for (hp : PassesOwn (model X.prog X.w) X.A X.env X.xe) (hc : X.calm = true) (hi : PId X tg iter w) (hg : PGd X tg g ws) (hb : PSsd X body tb)
    (hs : ∀ x, foldedSetIterable iter X.env x = pure x := by intro _; rfl) : PSd X (.For tg iter body [] pos) (dFor w g tb) := by
  refine ⟨fun env E E' l h => hi.up _ _ _ (fun ds e1 h => forD_up hg.up hb.up l ds e1 h) h, PS.weak (ps_for hp hc hi.pi hg.pg hb.ps hs) fun E σ H ⟨c, F, env, R, h⟩ => ⟨c, F, env, R, hi.up _ _ _ (fun ds e1 h J F1 H1 g1 R1 ok => ?_) h⟩⟩
  obtain ⟨G, Y, W, hG, hY⟩ := ok
  refine for_it W (fun i σ' H' => ∃ F' env', Ex F1 F' ∧ Rp X.K c env' σ' F' H' ∧ forD g tb (endsOf X.K c F E) (ds.drop i) env') ⟨F1, e1, Ex.refl F1, R1, h⟩ (fun i σ' H' _ ⟨F', env', e, R', _⟩ => hG F' H' e R'.fh) (fun i x σ' H' H2 hlt ⟨F', env', e, R', q⟩ y => ?_) fun σ' H' ⟨F', env', e, R', q⟩ => ?_
  · obtain ⟨F2, d, hd, gr, dp⟩ := hY i F' H' x H2 hlt e R'.fh y
    have hdr : ds.drop i = d :: ds.drop (i + 1) := by
      have hlt' : i < ds.length := hlt
      rw [List.drop_eq_getElem_cons hlt']
      rw [List.getElem?_eq_getElem hlt'] at hd
      rw [Option.some.inj hd]
    rw [hdr] at q
    refine ⟨c, F2, env', d, R'.grow gr, dp, hg.up _ _ _ _ (fun e2 q σ3 F3 H3 g3 R3 _ => ⟨c, F3, e2, R3, hb.up _ _ _ ⟨fun e3 q σ4 F4 H4 g4 R4 => ⟨F4, e3, ((e.trans gr.f).trans g3).trans g4, R4, q⟩, fun d e3 q v σ4 F4 H4 g4 R4 dp4 => ?_, fun e3 q σ4 F4 H4 g4 R4 => ?_, fun e3 q σ4 F4 H4 g4 R4 => ⟨F4, e3, ((e.trans gr.f).trans g3).trans g4, R4, q⟩⟩ q⟩) q⟩
    · exact q v σ4 F4 H4 ((((g1.trans e).trans gr.f).trans g3).trans g4) R4 dp4
    · exact q σ4 F4 H4 ((((g1.trans e).trans gr.f).trans g3).trans g4) R4
  · rw [List.drop_of_length_le (Nat.le_refl _)] at q
    exact q σ' F' H' (g1.trans e) R'
end
end PD

namespace PD
open PySem PySem.Spec PyProof.Rows L2
/-! ### comprehensions -/
def wipeD (env : DEnv) : List Nat → DEnv
  | [] => env
  | v :: vs => (wipeD env vs).set v .no
def keepD : Option Sl → Sl
  | some (.dt d) => .dt d
  | _ => .no
def restD (e1 e2 : DEnv) : List Nat → DEnv
  | [] => e2
  | v :: vs => (restD e1 e2 vs).set v (keepD e1[v]?)
section
variable {K : PySem.W.Frag} {c : Cy} {env env1 env2 : DEnv} {σ σ' : L2.St} {F H F' H' : Hp}
theorem Rp.dropV (R : Rp K c env σ F H) (i : Nat) : Rp K c (env.set i .no) (σ.set i none) F H where
  fh := R.fh
  base := R.base
  lf := R.lf
  pres := R.pres
  f0 := R.f0
  fb := R.fb
  len := by rw [List.length_set, List.length_set, R.len]
  val := fun j e q => by
    rcases get_set_cases q with ⟨rfl, e1, lt⟩ | ⟨ne, q⟩
    · cases e1
    · obtain ⟨v, h1, h2⟩ := R.val j e q
      exact ⟨v, by rw [List.getElem?_set_ne ne]; exact h1, h2⟩
  own := fun j l p m q => by
    rcases get_set_cases q with ⟨rfl, e1, lt⟩ | ⟨ne, q⟩
    · cases e1
    · obtain ⟨h1, h2⟩ := R.own j l p m q
      exact ⟨by rw [List.getElem?_set_ne ne]; exact h1, h2⟩
  sep := fun j k l l' p m n q r => by
    rcases get_set_cases q with ⟨rfl, e1, lt⟩ | ⟨ne, q⟩
    · cases e1
    · rcases get_set_cases r with ⟨rfl, e1, lt⟩ | ⟨ne', r⟩
      · cases e1
      · exact R.sep j k l l' p m n q r
theorem Rp.wipe (R : Rp K c env σ F H) : ∀ vs : List Nat, Rp K c (wipeD env vs) (L2.wipe σ vs) F H
  | [] => R
  | v :: vs => (R.wipe vs).dropV v
theorem wipeD_len : ∀ vs : List Nat, (wipeD env vs).length = env.length
  | [] => rfl
  | v :: vs => by unfold wipeD; rw [List.length_set, wipeD_len vs]
theorem restD_len : ∀ vs : List Nat, (restD env1 env2 vs).length = env2.length
  | [] => rfl
  | v :: vs => by unfold restD; rw [List.length_set, restD_len vs]
theorem restD_at : ∀ {vs : List Nat} {j : Nat} {x : Sl}, j ∈ vs → (restD env1 env2 vs)[j]? = some x → x = keepD env1[j]?
  | v :: vs, j, x, h, e => by
    unfold restD at e
    rcases get_set_cases e with ⟨rfl, e1, lt⟩ | ⟨ne, q⟩
    · exact e1
    · rcases List.mem_cons.mp h with z | z
      · exact absurd z.symm ne
      · exact restD_at z q
theorem restD_out : ∀ {vs : List Nat} {j : Nat}, j ∉ vs → (restD env1 env2 vs)[j]? = env2[j]?
  | [], _, _ => rfl
  | v :: vs, j, h => by
    unfold restD
    rw [List.getElem?_set_ne (fun e => h (by rw [e]; simp))]
    exact restD_out fun z => h (List.mem_cons_of_mem _ z)
theorem keep_dt {x : Option Sl} {d : D} (h : Sl.dt d = keepD x) : x = some (.dt d) := by
  unfold keepD at h
  split at h
  · cases h; rfl
  · cases h
theorem keep_ow {x : Option Sl} {l p m} (h : Sl.ow l p m = keepD x) : False := by
  unfold keepD at h
  split at h <;> cases h
theorem Rp.rest {vs : List Nat} (S : Rp K c env2 (L2.wipe σ vs) F H) (hv : ∀ (i : Nat) (d : D), env1[i]? = some (Sl.dt d) → ∃ v : V, σ[i]? = some (some v) ∧ Dp K F v d) : Rp K c (restD env1 env2 vs) σ F H where
  fh := S.fh
  base := S.base
  lf := S.lf
  pres := S.pres
  f0 := S.f0
  fb := S.fb
  len := by rw [restD_len, S.len, L2.wipe_length]
  val := fun j d q => by
    by_cases hj : j ∈ vs
    · exact hv j d (keep_dt (restD_at hj q))
    · rw [restD_out hj] at q
      obtain ⟨v, h1, h2⟩ := S.val j d q
      rw [wipe_out hj] at h1
      exact ⟨v, h1, h2⟩
  own := fun j l p m q => by
    by_cases hj : j ∈ vs
    · exact (keep_ow (restD_at hj q)).elim
    · rw [restD_out hj] at q
      obtain ⟨h1, h2⟩ := S.own j l p m q
      rw [wipe_out hj] at h1
      exact ⟨h1, h2⟩
  sep := fun j k l l' p m n q r => by
    by_cases hj : j ∈ vs
    · exact (keep_ow (restD_at hj q)).elim
    · by_cases hk : k ∈ vs
      · exact (keep_ow (restD_at hk r)).elim
      · rw [restD_out hj] at q
        rw [restD_out hk] at r
        exact S.sep j k l l' p m n q r
/-- the heap without what stands at a -/
def hide (H : Hp) (a : Addr) : Hp := fun b => if b = a then none else H b
theorem hide_at {H : Hp} {a : Addr} : hide H a a = none := by unfold hide; rw [if_pos rfl]
theorem hide_ne {H : Hp} {a b : Addr} (h : b ≠ a) : hide H a b = H b := by unfold hide; rw [if_neg h]
theorem upd_hide {H : Hp} {a : Addr} {o : HO} (h : H a = some o) : upd (hide H a) a o = H := by
  funext b
  by_cases e : b = a
  · subst e
    rw [upd_same, h]
  · rw [upd_ne e, hide_ne e]
theorem Rp.hide (R : Rp K c env σ F H) {a : Addr} {o : HO} (h : Apart env F H a o) (h0 : c.H_0 a = none) : Rp K c env σ F (hide H a) where
  fh := fun b u q => by
    have ne : b ≠ a := fun e => by
      subst e
      rw [h.still] at q
      cases q
    rw [hide_ne ne]
    exact R.fh b u q
  base := fun b u q n n' => by
    have ne : b ≠ a := fun e => by
      subst e
      rw [h0] at q
      cases q
    rw [hide_ne ne]
    exact R.base b u q n n'
  lf := R.lf
  pres := fun b u q => by
    have ne : b ≠ a := fun e => by
      subst e
      rw [h0] at q
      cases q
    rw [hide_ne ne]
    exact R.pres b u q
  f0 := R.f0
  fb := R.fb
  len := R.len
  val := R.val
  own := fun i l p m q => by
    obtain ⟨h1, h2, h3, h4⟩ := R.own i l p m q
    have ne : p ≠ a := fun e => by
      subst e
      exact h.free l ⟨i, m, q⟩
    refine ⟨h1, h2, h3, ?_⟩
    cases m with
    | lst ds =>
      obtain ⟨xs, z1, z2⟩ := h4
      exact ⟨xs, by rw [hide_ne ne]; exact z1, z2⟩
  sep := R.sep
/-- a new thing is laid that nobody speaks of -/
theorem Rp.lay (R : Rp K c env σ F H) {a : Addr} {o : HO} (n : H a = none) : Rp K c env σ F (upd H a o) ∧ Apart env F (upd H a o) a o := by
  refine ⟨R.grow (Grow.hp R.fh (Ex.new n)), upd_same, R.fh.free n, fun l ⟨i, m, q⟩ => ?_⟩
  obtain ⟨_, _, _, h4⟩ := R.own i l a m q
  obtain ⟨u, hu⟩ := h4.there
  rw [n] at hu
  cases hu
/-- what stands apart is changed -/
theorem Rp.other (R : Rp K c env σ F H) {a : Addr} {o o' : HO} (h : Apart env F H a o) (h0 : c.H_0 a = none) : Rp K c env σ F (upd H a o') ∧ Apart env F (upd H a o') a o' := by
  have e : upd H a o' = upd (PD.hide H a) a o' := by
    funext b
    by_cases e : b = a
    · subst e
      rw [upd_same, upd_same]
    · rw [upd_ne e, upd_ne e, hide_ne e]
  have R2 := (R.hide h h0).lay (o := o') hide_at
  rw [e]
  exact R2
end
def compD (vs : List Nat) (g : DG) (tt : DT) (te : DE) : List D → DEnv → (List D → DEnv → Prop) → Prop
  | [], env, Q => Q [] env
  | d :: ds, env, Q => g d (wipeD env vs) fun e1 => tt e1 fun b e2 => if b = true then te e2 fun y e3 => compD vs g tt te ds e3 fun ys e4 => Q (y :: ys) e4 else compD vs g tt te ds e2 Q
def dComp (w : DI) (g : DG) (tt : DT) (te : DE) (vs : List Nat) : DAs := fun env Q => w env fun ds e1 => ds.length ≤ 16777216 ∧ compD vs g tt te ds e1 fun ys e2 => Q ys (restD e1 e2 vs)
theorem compD_up {vs : List Nat} {g : DG} {tt : DT} {te : DE} (hg : UpG g) (ht : Up tt) (he : Up te) : ∀ (ds : List D) (env : DEnv) (Q Q' : List D → DEnv → Prop), (∀ a e, Q a e → Q' a e) → compD vs g tt te ds env Q → compD vs g tt te ds env Q'
  | [], env, Q, Q', w, h => w _ _ h
  | d :: ds, env, Q, Q', w, h => hg _ _ _ _ (fun e1 h => ht _ _ _ (fun b e2 h => by
      cases b with
      | true => exact he _ _ _ (fun y e3 h => compD_up hg ht he ds e3 _ _ (fun ys e4 => w _ e4) h) h
      | false => exact compD_up hg ht he ds e2 _ _ w h) h) h
/-- the tests of a clause -/
def dYes : DT := fun env Q => Q true env
structure PTsd (X : Cx) (ifs : List Expr) (t : DT) : Prop where
  up : Up t
  pts : PTs X ifs (bOf X.K t)
theorem PTs.weak {X : Cx} {e : List Expr} {t t' : TT} (h : PTs X e t) (w : ∀ σ H Q, t' σ H Q → t σ H Q) : PTs X e t' := ⟨fun pins s σ H Q I q => h.run pins s σ H Q I (w σ H Q q)⟩
theorem tsd_nil {X : Cx} : PTsd X [] dYes := ⟨fun _ _ _ w h => w _ _ h, PTs.weak pts_nil fun σ H Q ⟨c, F, env, R, h⟩ => h F H (Ex.refl F) R⟩
theorem tsd_one {X : Cx} {e : Expr} {t : DT} (h : PTd X e t) : PTsd X [e] t := ⟨h.up, pts_one h.pt⟩
section
variable {X : Cx} {elt tg iter : Expr} {ifs : List Expr} {scope : Scope} {own : List (Str × Nat)} {pos : Pos} {w : DI} {g : DG} {tt : DT} {te : DE} {ws : List Nat}
theorem wipeD_out {env : DEnv} : ∀ {vs : List Nat} {j : Nat}, j ∉ vs → (wipeD env vs)[j]? = env[j]?
  | [], _, _ => rfl
  | v :: vs, j, h => by
    unfold wipeD
    rw [List.getElem?_set_ne (fun e => h (by rw [e]; simp))]
    exact wipeD_out fun z => h (List.mem_cons_of_mem _ z)
theorem restD_in {env1 env2 : DEnv} : ∀ {vs : List Nat} {j : Nat}, j ∈ vs → (restD env1 env2 vs)[j]? = if j < env2.length then some (keepD env1[j]?) else none
  | v :: vs, j, h => by
    unfold restD
    by_cases e : v = j
    · subst e
      have hlen := restD_len (env1 := env1) (env2 := env2) vs
      rw [List.getElem?_set_self']
      by_cases hl : v < env2.length
      · rw [if_pos hl, List.getElem?_eq_getElem (l := restD env1 env2 vs) (i := v) (by omega)]
        rfl
      · rw [if_neg hl, List.getElem?_eq_none (l := restD env1 env2 vs) (i := v) (by omega)]
        rfl
    · rw [List.getElem?_set_ne e]
      rcases List.mem_cons.mp h with z | z
      · exact absurd z.symm e
      · exact restD_in z
theorem restD_wipe {env1 env2 : DEnv} {vs : List Nat} : restD env1 (wipeD env2 vs) vs = restD env1 env2 vs := by
  apply List.ext_getElem?
  intro j
  by_cases h : j ∈ vs
  · rw [restD_in h, restD_in h, wipeD_len]
  · rw [restD_out h, restD_out h, wipeD_out h]
theorem wipe_wipe {σ : L2.St} {vs : List Nat} : L2.wipe (L2.wipe σ vs) vs = L2.wipe σ vs := by
  apply List.ext_getElem?
  intro j
  by_cases h : j ∈ vs
  · rw [wipe_at h, wipe_at h, L2.wipe_length]
  · rw [wipe_out h]
theorem Apart.wipe {env : DEnv} {F H : Hp} {a : Addr} {o : HO} (A : Apart env F H a o) (vs : List Nat) : Apart (wipeD env vs) F H a o := by
  refine ⟨A.here, A.still, fun l h => ?_⟩
  induction vs with
  | nil => exact A.free l h
  | cons v vs ih =>
    obtain ⟨i, m, q⟩ := h
    unfold wipeD at q
    rcases get_set_cases q with ⟨rfl, e1, lt⟩ | ⟨ne, q⟩
    · cases e1
    · exact ih ⟨i, m, q⟩
theorem lc_link {σ : L2.St} {H : Hp} {Q : VK} {vs : List Nat} (hiu : Up w) (hgu : UpG g) (htu : Up tt) (heu : Up te) (hws : ∀ i ∈ ws, i ∈ vs)
    (h : lOf X.K (dComp w g tt te vs) σ H Q) : tLc (iOf X.K w) (gOf X.K g ws) (bOf X.K tt) (eOf X.K te) vs σ H Q := by
  obtain ⟨c, F, env, R, h⟩ := h
  refine ⟨c, F, env, R, hiu _ _ _ (fun ds e1 ⟨hl, h⟩ J F1 H1 g1 R1 ok dst nD => ?_) h⟩
  obtain ⟨G, Y, W, hG, hY⟩ := ok
  have c0 : c.H_0 dst = none := by
    cases z : c.H_0 dst with
    | none => rfl
    | some u =>
      obtain ⟨q, hq⟩ := R1.pres dst u z
      rw [nD] at hq
      cases hq
  obtain ⟨R2, A2⟩ := R1.lay (o := .lst []) nD
  -- Q, for what is still to be made
  let Qf : List D → DEnv → Prop := fun ys e2 => ∀ (p : Addr) (xs : List V) (F' H' : Hp), Ex F F' → Rp X.K c (restD e1 e2 vs) σ F' H' → H' p = none → DpAll X.K F' xs ys → Q (.ref p) (upd H' p (.lst xs))
  refine lc_it W (fun i H' => ∃ F' env' acc done, Ex F1 F' ∧ Rp X.K c (wipeD env' vs) (L2.wipe σ vs) F' H' ∧ Apart (wipeD env' vs) F' H' dst (.lst acc) ∧ DpAll X.K F' acc done ∧ acc.length ≤ i ∧ compD vs g tt te (ds.drop i) env' fun ys e2 => Qf (done ++ ys) e2)
    ⟨F1, e1, [], [], Ex.refl F1, R2.wipe vs, A2.wipe vs, .nil, Nat.le_refl _, h⟩ (fun i H' _ ⟨F', env', acc, done, e, R', _⟩ => hG F' H' e R'.fh) (fun i x H' H2 hlt ⟨F', env', acc, done, e, R', A', da, hi, q⟩ y => ?_) fun H' ⟨F', env', acc, done, e, R', A', da, hi, q⟩ => ?_
  · obtain ⟨F2, d, hd, gr, dp⟩ := hY i F' H' x H2 hlt e R'.fh y
    have hdr : ds.drop i = d :: ds.drop (i + 1) := by
      have hlt' : i < ds.length := hlt
      rw [List.drop_eq_getElem_cons hlt']
      rw [List.getElem?_eq_getElem hlt'] at hd
      rw [Option.some.inj hd]
    rw [hdr] at q
    have R3 := R'.grow gr
    have A3 : Apart (wipeD env' vs) F2 H2 dst (.lst acc) := ⟨gr.h _ _ A'.here, (by
      cases z : F2 dst with
      | none => rfl
      | some u =>
        rcases gr.new _ _ z with q | q
        · rw [A'.still] at q
          cases q
        · rw [A'.here] at q
          cases q), A'.free⟩
    refine ⟨c.here (wipeD env' vs) F2 H2, F2, wipeD env' vs, d, R3.root, dp, hgu _ _ _ _ (fun e3 q σ3 F3 H3 g3 S3 o3 => ⟨?_, c.here (wipeD env' vs) F2 H2, F3, e3, S3, htu _ _ _ (fun b e4 q F4 H4 g4 S4 => ?_) q⟩) q⟩
    · rw [o3.wipe hws, wipe_wipe]
    · have ew : L2.wipe σ3 vs = L2.wipe σ vs := by rw [o3.wipe hws, wipe_wipe]
      cases b with
      | true =>
        show (if true = true then _ else _)
        rw [if_pos rfl] at q ⊢
        refine ⟨_, F4, e4, S4, heu _ _ _ (fun y e5 q v F5 H5 g5 S5 dy => ?_) q⟩
        have R5 := R3.unroot S5
        have A5 := S5.apart A3
        obtain ⟨R6, A6⟩ := R5.other (o' := .lst (acc ++ [v])) A5 c0
        refine ⟨acc, A5.here, by rw [sizeLine_eq]; have : i < ds.length := hlt; omega, F5, e5, acc ++ [v], done ++ [y], ((((e.trans gr.f).trans g3).trans g4).trans g5), ?_, A6.wipe vs, dpa_app ((((da.up gr.f).up g3).up g4).up g5) (.cons dy .nil), by rw [List.length_append]; show acc.length + 1 ≤ i + 1; omega, ?_⟩
        · have z := R6.wipe vs
          rw [ew] at z
          exact z
        · refine compD_up hgu htu heu _ _ _ _ (fun ys e7 q => ?_) q
          rw [List.append_assoc]
          exact q
      | false =>
        show (if false = true then _ else _)
        rw [if_neg Bool.false_ne_true] at q ⊢
        have R5 := R3.unroot S4
        have A5 := S4.apart A3
        refine ⟨F4, e4, acc, done, (((e.trans gr.f).trans g3).trans g4), ?_, A5.wipe vs, (((da.up gr.f).up g3).up g4), by omega, q⟩
        have z := R5.wipe vs
        rw [ew] at z
        exact z
  · rw [List.drop_of_length_le (Nat.le_refl _)] at q
    have q' : Qf (done ++ []) env' := q
    rw [List.append_nil] at q'
    have R5 := R'.hide A' c0
    have R6 : Rp X.K c (restD e1 env' vs) σ F' (PD.hide H' dst) := by
      rw [← restD_wipe]
      exact Rp.rest R5 fun i d h => by
        obtain ⟨v, h1, h2⟩ := R1.val i d h
        exact ⟨v, h1, h2.up e⟩
    have z := q' dst acc F' (PD.hide H' dst) (g1.trans e) R6 hide_at da
    rw [upd_hide A'.here] at z
    exact z
theorem dComp_up {vs : List Nat} (hiu : Up w) (hgu : UpG g) (htu : Up tt) (heu : Up te) : Up (dComp w g tt te vs) :=
  fun env Q Q' wq h => hiu _ _ _ (fun ds e1 ⟨hl, h⟩ => ⟨hl, compD_up hgu htu heu _ _ _ _ (fun ys e2 q => wq _ _ q) h⟩) h
/-- [elt for tg in iter if ..], a new list -/
theorem ld_comp (hc : X.calm = true) (hN : X.N.Nodup) (hi : PId X tg iter w) (ok : BlkOk X.N X.env.scope scope own) (hws : ∀ i ∈ ws, i ∈ own.map (·.2))
    (hg : ∀ (s : Shared) (H : Hp) (C : Addr) (cl : List (Str × Addr)) (fp : List Addr), PGd (X.blk s H scope (compEnvC scope cl C X.env) fp) tg g ws) (ht : ∀ (s : Shared) (H : Hp) (C : Addr) (cl : List (Str × Addr)) (fp : List Addr), PTsd (X.blk s H scope (compEnvC scope cl C X.env) fp) ifs tt)
    (he : ∀ (s : Shared) (H : Hp) (C : Addr) (cl : List (Str × Addr)) (fp : List Addr), PEd (X.blk s H scope (compEnvC scope cl C X.env) fp) elt te) (s0 : Shared) (hs : ∀ x, foldedSetIterable iter X.env x = pure x := by intro _; rfl) :
    PLd X (.ListComp elt [⟨tg, iter, ifs, 0⟩] scope pos) (dComp w g tt te (own.map (·.2))) := by
  have h1 := (hg s0 (fun _ => none) 0 [] []).up
  have h2 := (ht s0 (fun _ => none) 0 [] []).up
  have h3 := (he s0 (fun _ => none) 0 [] []).up
  exact ⟨dComp_up hi.up h1 h2 h3, PE.weak (pe_lc hc hN hi.pi ok (fun s H C cl fp => (hg s H C cl fp).pg) (fun s H C cl fp => (ht s H C cl fp).pts) (fun s H C cl fp => (he s H C cl fp).pe) hs) fun σ H Q h => lc_link hi.up h1 h2 h3 hws h⟩
/-- name = [..] on one line, the name a local: as data -/
theorem sd_setLc {i : Nat} {y : Str} {py spos : Pos} (hc : X.calm = true) (hN : X.N.Nodup) (hy : X.N[i]? = some y) (hyl : X.env.scope.names.lookup y = some .local)
    (hsw : swapsWith (.ListComp elt [⟨tg, iter, ifs, 0⟩] scope pos) (some (.Name y py)) spos.line X.env = pure true) (hi : PId X tg iter w) (ok : BlkOk X.N X.env.scope scope own) (hws : ∀ i ∈ ws, i ∈ own.map (·.2))
    (hg : ∀ (s : Shared) (H : Hp) (C : Addr) (cl : List (Str × Addr)) (fp : List Addr), PGd (X.blk s H scope (compEnvC scope cl C X.env) fp) tg g ws) (ht : ∀ (s : Shared) (H : Hp) (C : Addr) (cl : List (Str × Addr)) (fp : List Addr), PTsd (X.blk s H scope (compEnvC scope cl C X.env) fp) ifs tt)
    (he : ∀ (s : Shared) (H : Hp) (C : Addr) (cl : List (Str × Addr)) (fp : List Addr), PEd (X.blk s H scope (compEnvC scope cl C X.env) fp) elt te) (s0 : Shared) (hs : ∀ x, foldedSetIterable iter X.env x = pure x := by intro _; rfl) :
    PSd X (.Assign [.Name y py] (.ListComp elt [⟨tg, iter, ifs, 0⟩] scope pos) spos) (fun E env => dComp w g tt te (own.map (·.2)) env fun ys e2 => E.nx (e2.set i (.dt (.list ys)))) := by
  have h1 := (hg s0 (fun _ => none) 0 [] []).up
  have h2 := (ht s0 (fun _ => none) 0 [] []).up
  have h3 := (he s0 (fun _ => none) 0 [] []).up
  refine ⟨fun env E E' l h => dComp_up hi.up h1 h2 h3 _ _ _ (fun ys e2 q => l.nx _ q) h, PS.weak (ps_setLc (g := gOf X.K g ws) (tt := bOf X.K tt) (te := eOf X.K te) hc hN hy hyl hsw hi.pi ok (fun s H C cl fp => (hg s H C cl fp).pg) (fun s H C cl fp => (ht s H C cl fp).pts) (fun s H C cl fp => (he s H C cl fp).pe) hs) fun E σ H ⟨c, F, env, R, h⟩ => ?_⟩
  refine lc_link hi.up h1 h2 h3 hws ⟨c, F, env, R, dComp_up hi.up h1 h2 h3 _ _ _ (fun ys e2 q p xs F' H' g1 R1 np da => ?_) h⟩
  have gr := Grow.one (o := .lst xs) R1.fh np
  exact q _ _ _ (g1.trans gr.f) ((R1.grow gr).set i (.lst (.inl (.inl upd_same)) (da.up gr.f)))
/-- .. as an owned list -/
theorem sd_setLcO {i : Nat} {y : Str} {py spos : Pos} (hc : X.calm = true) (hN : X.N.Nodup) (hy : X.N[i]? = some y) (hyl : X.env.scope.names.lookup y = some .local)
    (hsw : swapsWith (.ListComp elt [⟨tg, iter, ifs, 0⟩] scope pos) (some (.Name y py)) spos.line X.env = pure true) (hi : PId X tg iter w) (ok : BlkOk X.N X.env.scope scope own) (hws : ∀ i ∈ ws, i ∈ own.map (·.2))
    (hg : ∀ (s : Shared) (H : Hp) (C : Addr) (cl : List (Str × Addr)) (fp : List Addr), PGd (X.blk s H scope (compEnvC scope cl C X.env) fp) tg g ws) (ht : ∀ (s : Shared) (H : Hp) (C : Addr) (cl : List (Str × Addr)) (fp : List Addr), PTsd (X.blk s H scope (compEnvC scope cl C X.env) fp) ifs tt)
    (he : ∀ (s : Shared) (H : Hp) (C : Addr) (cl : List (Str × Addr)) (fp : List Addr), PEd (X.blk s H scope (compEnvC scope cl C X.env) fp) elt te) (s0 : Shared) (hs : ∀ x, foldedSetIterable iter X.env x = pure x := by intro _; rfl) :
    PSd X (.Assign [.Name y py] (.ListComp elt [⟨tg, iter, ifs, 0⟩] scope pos) spos) (fun E env => dComp w g tt te (own.map (·.2)) env fun ys e2 => ∀ p, E.nx (e2.set i (.ow true p (.lst ys)))) := by
  have h1 := (hg s0 (fun _ => none) 0 [] []).up
  have h2 := (ht s0 (fun _ => none) 0 [] []).up
  have h3 := (he s0 (fun _ => none) 0 [] []).up
  refine ⟨fun env E E' l h => dComp_up hi.up h1 h2 h3 _ _ _ (fun ys e2 q p => l.nx _ (q p)) h, PS.weak (ps_setLc (g := gOf X.K g ws) (tt := bOf X.K tt) (te := eOf X.K te) hc hN hy hyl hsw hi.pi ok (fun s H C cl fp => (hg s H C cl fp).pg) (fun s H C cl fp => (ht s H C cl fp).pts) (fun s H C cl fp => (he s H C cl fp).pe) hs) fun E σ H ⟨c, F, env, R, h⟩ => ?_⟩
  refine lc_link hi.up h1 h2 h3 hws ⟨c, F, env, R, dComp_up hi.up h1 h2 h3 _ _ _ (fun ys e2 q p xs F' H' g1 R1 np da => ?_) h⟩
  exact q p _ _ _ g1 (R1.setOwn i np da)
end
end PD

namespace PD
open PySem PySem.Spec PyProof.Rows L2
/-! ### statements -/
def dNext : DS := fun E env => E.nx env
def dSeq (t u : DS) : DS := fun E env => t { nx := u E, rt := E.rt, bk := E.bk, ct := E.ct } env
def dBreak : DS := fun E env => E.bk env
def dCont : DS := fun E env => E.ct env
def dDrop (te : DE) : DS := fun E env => te env fun _ e1 => E.nx e1
def dRet (te : DE) : DS := fun E env => te env E.rt
def dRetN : DS := fun E env => E.rt .none env
def dIfS (c : DT) (t u : DS) : DS := fun E env => c env fun b e1 => if b = true then t E e1 else u E e1
def dNever : DS := fun _ _ => False
def dAsg (te : DE) (g : DG) : DS := fun E env => te env fun d e1 => g d e1 E.nx
def dSetO (i : Nat) (t : DAs) : DS := fun E env => t env fun ds e1 => ∀ p, E.nx (e1.set i (.ow true p (.lst ds)))
def dPar (i j : Nat) (t : DAs) : DS := fun E env => t env fun ds e1 => ∃ x y, ds = [x, y] ∧ E.nx ((e1.set i (.dt x)).set j (.dt y))
def dPar3 (i j l : Nat) (t : DAs) : DS := fun E env => t env fun ds e1 => ∃ x y z, ds = [x, y, z] ∧ E.nx (((e1.set i (.dt x)).set j (.dt y)).set l (.dt z))
def dAug (i : Nat) (f : F2) (te : DE) : DS := fun E env => ∃ x, env[i]? = some (Sl.dt x) ∧ te env fun y e1 => f x y fun z => E.nx (e1.set i (.dt z))
def dWhile (c : DT) (tb : DS) : DS := fun E env => ∃ W : Nat → DEnv → Prop, (∃ m, W m env) ∧ ∀ m env, W m env →
  c env fun b e1 => if b = true then tb { nx := fun e => ∃ m', m' < m ∧ W m' e, rt := E.rt, bk := E.nx, ct := fun e => ∃ m', m' < m ∧ W m' e } e1 else E.nx e1
def dApp (i : Nat) (te : DE) : DS := fun E env => ∃ l p m, env[i]? = some (Sl.ow l p m) ∧ te env fun d e1 => ∃ ds, e1[i]? = some (Sl.ow l p (.lst ds)) ∧ ds.length < 16777216 ∧ E.nx (e1.set i (.ow l p (.lst (ds ++ [d]))))
def dSetIx (i : Nat) (ti te : DE) : DS := fun E env => te env fun d e1 => ∃ l p m, e1[i]? = some (Sl.ow l p m) ∧ ti e1 fun k e2 => ∃ ds j n, e2[i]? = some (Sl.ow l p (.lst ds)) ∧ k = .int j ∧ ixN ds.length j = some n ∧ E.nx (e2.set i (.ow l p (.lst (ds.set n d))))
section
variable {X : Cx} {s : Stmt} {ss : List Stmt} {e a b : Expr} {es : List Expr} {te ti : DE} {t u : DS} {tc : DT} {ta : DAs} {pos : Pos} {g : DG} {ws : List Nat}
theorem sd_pass : PSd X (.Pass pos) dNext := ⟨fun _ _ _ l h => l.nx _ h, PS.weak ps_pass fun E σ H ⟨c, F, env, R, h⟩ => h σ F H (Ex.refl F) R⟩
theorem sd_break : PSd X (.Break pos) dBreak := ⟨fun _ _ _ l h => l.bk _ h, PS.weak ps_break fun E σ H ⟨c, F, env, R, h⟩ => h σ F H (Ex.refl F) R⟩
theorem sd_cont : PSd X (.Continue pos) dCont := ⟨fun _ _ _ l h => l.ct _ h, PS.weak ps_continue fun E σ H ⟨c, F, env, R, h⟩ => h σ F H (Ex.refl F) R⟩
theorem ssd_nil : PSsd X [] dNext := ⟨fun _ _ _ l h => l.nx _ h, PSs.weak pss_nil fun E σ H ⟨c, F, env, R, h⟩ => h σ F H (Ex.refl F) R⟩
theorem dSeq_up (ht : UpS t) (hu : UpS u) : UpS (dSeq t u) := fun env E E' l h => ht env { nx := u E, rt := E.rt, bk := E.bk, ct := E.ct } { nx := u E', rt := E'.rt, bk := E'.bk, ct := E'.ct } ⟨fun e h => hu e E E' l h, l.rt, l.bk, l.ct⟩ h
theorem ssd_cons (h1 : PSd X s t) (h2 : PSsd X ss u) : PSsd X (s :: ss) (dSeq t u) := by
  refine ⟨dSeq_up h1.up h2.up, PSs.weak (pss_cons h1.ps h2.ps) fun E σ H ⟨c, F, env, R, h⟩ => ⟨c, F, env, R, ?_⟩⟩
  refine h1.up env { nx := u (endsOf X.K c F E), rt := (endsOf X.K c F E).rt, bk := (endsOf X.K c F E).bk, ct := (endsOf X.K c F E).ct } _ ⟨fun e q σ' F' H' g R' => ?_, fun d e q => q, fun e q => q, fun e q => q⟩ h
  exact ⟨c, F', e, R', h2.up e _ _ (endsOf_up g) q⟩
theorem ssd_one (h1 : PSd X s t) : PSsd X [s] t := ⟨h1.up, pss_one h1.ps⟩
theorem sd_never : PSd X s dNever := ⟨fun _ _ _ _ h => h, PS.weak ps_never fun E σ H ⟨c, F, env, R, h⟩ => h⟩
theorem ssd_never : PSsd X ss dNever := ⟨fun _ _ _ _ h => h, PSs.weak pss_never fun E σ H ⟨c, F, env, R, h⟩ => h⟩
theorem sd_expr (he : PEd X e te) (hs : swapsWith e none pos.line X.env = pure false := by rfl) : PSd X (.Expr e pos) (dDrop te) :=
  ⟨fun _ _ _ l h => he.up _ _ _ (fun d e h => l.nx _ h) h, PS.weak (ps_expr he.pe hs) fun E σ H ⟨c, F, env, R, h⟩ => ⟨c, F, env, R, he.up _ _ _ (fun d e1 q v F' H' g R' _ => q σ F' H' g R') h⟩⟩
theorem sd_ret (he : PEd X e te) : PSd X (.Return (some e) pos) (dRet te) :=
  ⟨fun _ _ _ l h => he.up _ _ _ (fun d e h => l.rt _ _ h) h, PS.weak (ps_ret he.pe) fun E σ H ⟨c, F, env, R, h⟩ => ⟨c, F, env, R, he.up _ _ _ (fun d e1 q v F' H' g R' dp => q v σ F' H' g R' dp) h⟩⟩
theorem sd_retN : PSd X (.Return none pos) dRetN := ⟨fun _ _ _ l h => l.rt _ _ h, PS.weak ps_retN fun E σ H ⟨c, F, env, R, h⟩ => h .non σ F H (Ex.refl F) R .non⟩
theorem sd_if {x : Expr} {p q : List Stmt} (hc : PTd X x tc) (ha : PSsd X p t) (hb : PSsd X q u) : PSd X (.If x p q pos) (dIfS tc t u) := by
  refine ⟨fun env E E' l h => hc.up _ _ _ (fun k e1 h => ?_) h, PS.weak (ps_if hc.pt ha.ps hb.ps) fun E σ H ⟨c, F, env, R, h⟩ => ⟨c, F, env, R, hc.up _ _ _ (fun k e1 h F' H' g R' => ?_) h⟩⟩
  · cases k with
    | true => exact ha.up _ _ _ l h
    | false => exact hb.up _ _ _ l h
  · cases k with
    | true =>
      rw [if_pos rfl] at h ⊢
      exact ⟨c, F', e1, R', ha.up _ _ _ (endsOf_up g) h⟩
    | false =>
      rw [if_neg Bool.false_ne_true] at h ⊢
      exact ⟨c, F', e1, R', hb.up _ _ _ (endsOf_up g) h⟩
theorem sd_asg {tg : Expr} (he : PEd X e te) (hg : PGd X tg g ws) (hs : swapsWithSole [tg] e pos.line X.env = pure false := by rfl) (hw : swappedStores [tg] e X.env = pure none := by rfl)
    (h1 : (assignEach [tg] X.env).map (·.2) = [assign tg X.env] := by rfl) : PSd X (.Assign [tg] e pos) (dAsg te g) :=
  ⟨fun _ _ _ l h => he.up _ _ _ (fun d e1 h => hg.up _ _ _ _ l.nx h) h, PS.weak (ps_asg he.pe hg.pg hs hw h1) fun E σ H ⟨c, F, env, R, h⟩ => ⟨c, F, env, R, he.up _ _ _ (fun d e1 h v F' H' g R' dp =>
    ⟨c, F', e1, d, R', dp, hg.up _ _ _ _ (fun e2 q σ3 F3 H3 g3 R3 _ => q σ3 F3 H3 (g.trans g3) R3) h⟩) h⟩⟩
theorem sd_set {i : Nat} {x : Str} {pos' : Pos} (hN : X.N.Nodup) (hi : X.N[i]? = some x) (hx : Loc X.env.scope x) (he : PEd X e te) (hs : swapsWith e (some (.Name x pos')) pos.line X.env = pure false := by rfl) (hf : X.fn x = true ∨ X.env.scope.names.lookup x = some .local := by first | exact .inl rfl | exact .inr rfl | assumption) :
    PSd X (.Assign [.Name x pos'] e pos) (dAsg te (gSet i)) :=
  ⟨fun _ _ _ l h => he.up _ _ _ (fun d e1 h => l.nx _ h) h, PS.weak (ps_set hN hi hx he.pe hs hf) fun E σ H ⟨c, F, env, R, h⟩ => ⟨c, F, env, R, he.up _ _ _ (fun d e1 h v F' H' g R' dp =>
    h _ F' H' g (R'.set i dp)) h⟩⟩
theorem sd_setO {i : Nat} {x : Str} {pos' : Pos} {t : DAs} (hN : X.N.Nodup) (hi : X.N[i]? = some x) (hx : Loc X.env.scope x) (he : PLd X e t) (hs : swapsWith e (some (.Name x pos')) pos.line X.env = pure false := by rfl) (hf : X.fn x = true ∨ X.env.scope.names.lookup x = some .local := by first | exact .inl rfl | exact .inr rfl | assumption) :
    PSd X (.Assign [.Name x pos'] e pos) (dSetO i t) :=
  ⟨fun _ _ _ l h => he.up _ _ _ (fun d e1 h p => l.nx _ (h p)) h, PS.weak (ps_set hN hi hx he.pe hs hf) fun E σ H ⟨c, F, env, R, h⟩ => ⟨c, F, env, R, he.up _ _ _ (fun d e1 h p xs F' H' g R' np da =>
    h p _ F' _ g (R'.setOwn i np da)) h⟩⟩
theorem sd_par {i j : Nat} {x y : Str} {px py pt : Pos} {kt k2 pt2} (hc : X.calm = true) (hN : X.N.Nodup) (hi : X.N[i]? = some x) (hj : X.N[j]? = some y) (hij : i ≠ j)
    (hx : X.env.scope.names.lookup x = some .local) (hy : X.env.scope.names.lookup y = some .local) (ha : PAd X [a, b] ta)
    (hw : swappedStores [.Tuple [.Name x px, .Name y py] kt pt] (.Tuple [a, b] k2 pt2) X.env = pure (some [x, y]))
    (hs : swapsWithSole [.Tuple [.Name x px, .Name y py] kt pt] (.Tuple [a, b] k2 pt2) pos.line X.env = pure false := by rfl) :
    PSd X (.Assign [.Tuple [.Name x px, .Name y py] kt pt] (.Tuple [a, b] k2 pt2) pos) (dPar i j ta) :=
  ⟨fun _ _ _ l h => ha.up _ _ _ (fun d e1 ⟨x, y, e, h⟩ => ⟨x, y, e, l.nx _ h⟩) h, PS.weak (ps_par hc hN hi hj hij hx hy ha.pa hw hs) fun E σ H ⟨c, F, env, R, h⟩ => ⟨c, F, env, R, ha.up _ _ _ (fun d e1 ⟨x, y, e, h⟩ vs F' H' g R' dp => by
    subst e
    obtain ⟨v, w, rfl, h1, h2⟩ := dpa2 dp
    exact ⟨v, w, rfl, h _ F' H' g ((R'.set i h1).set j h2)⟩) h⟩⟩
theorem dpa3 {K : PySem.W.Frag} {F : Hp} {vs : List V} {d d' d'' : D} (h : DpAll K F vs [d, d', d'']) : ∃ v w u, vs = [v, w, u] ∧ Dp K F v d ∧ Dp K F w d' ∧ Dp K F u d'' := by
  cases h with
  | cons a b =>
    obtain ⟨w, u, e, q⟩ := dpa2 b
    subst e
    exact ⟨_, _, _, rfl, a, q⟩
theorem sd_par3 {c' : Expr} {i j l : Nat} {x y z : Str} {px py pz pt : Pos} {kt k2 pt2} (hc : X.calm = true) (hN : X.N.Nodup) (hi : X.N[i]? = some x) (hj : X.N[j]? = some y) (hl : X.N[l]? = some z) (hij : i ≠ j) (hil : i ≠ l) (hjl : j ≠ l)
    (hx : X.env.scope.names.lookup x = some .local) (hy : X.env.scope.names.lookup y = some .local) (hz : X.env.scope.names.lookup z = some .local) (ha : PAd X [a, b, c'] ta)
    (hw : swappedStores [.Tuple [.Name x px, .Name y py, .Name z pz] kt pt] (.Tuple [a, b, c'] k2 pt2) X.env = pure (some [x, y, z]))
    (hs : swapsWithSole [.Tuple [.Name x px, .Name y py, .Name z pz] kt pt] (.Tuple [a, b, c'] k2 pt2) pos.line X.env = pure false := by rfl) :
    PSd X (.Assign [.Tuple [.Name x px, .Name y py, .Name z pz] kt pt] (.Tuple [a, b, c'] k2 pt2) pos) (dPar3 i j l ta) :=
  ⟨fun _ _ _ l h => ha.up _ _ _ (fun d e1 ⟨x, y, z, e, h⟩ => ⟨x, y, z, e, l.nx _ h⟩) h, PS.weak (ps_par3 hc hN hi hj hl hij hil hjl hx hy hz ha.pa hw hs) fun E σ H ⟨c, F, env, R, h⟩ => ⟨c, F, env, R, ha.up _ _ _ (fun d e1 ⟨x, y, z, e, h⟩ vs F' H' g R' dp => by
    subst e
    obtain ⟨v, w, u, rfl, h1, h2, h3⟩ := dpa3 dp
    exact ⟨v, w, u, rfl, h _ F' H' g (((R'.set i h1).set j h2).set l h3)⟩) h⟩⟩
theorem sd_aug {i : Nat} {x : Str} {op : Operator} {ti : TIp} {f : F2} {pos' : Pos} (hN : X.N.Nodup) (hi : X.N[i]? = some x) (hx : Loc X.env.scope x) (ho : PIp X op ti) (lk : Link X.K ti f) (m : UpF f) (he : PEd X e te) (hf : X.fn x = true ∨ X.env.scope.names.lookup x = some .local := by first | exact .inl rfl | exact .inr rfl | assumption) :
    PSd X (.AugAssign (.Name x pos') op e pos) (dAug i f te) :=
  ⟨fun _ _ _ l ⟨x, h0, h⟩ => ⟨x, h0, he.up _ _ _ (fun y e1 h => m _ _ _ _ (fun z h => l.nx _ h) h) h⟩, PS.weak (ps_aug hN hi hx he.pe ho hf) fun E σ H ⟨c, F, env, R, x, h0, h⟩ => by
    obtain ⟨v, hv, hd⟩ := R.val i x h0
    refine ⟨v, hv, c, F, env, R, he.up _ _ _ (fun y e1 h w F1 H1 g1 R1 d1 => ?_) h⟩
    exact lk F1 H1 v w x y _ _ R1.fh (hd.up g1) d1 h fun z H' F' d g dz q => q _ F' H' (g1.trans g.f) ((R1.grow g).set i dz)⟩
theorem sd_while {x : Expr} {body : List Stmt} (hp : PassesOwn (model X.prog X.w) X.A X.env X.xe) (hc : PTd X x tc) (hb : PSsd X body t) : PSd X (.While x body [] pos) (dWhile tc t) := by
  refine ⟨fun env E E' l ⟨W, w0, h⟩ => ⟨W, w0, fun m env w => hc.up _ _ _ (fun b e1 h => ?_) (h m env w)⟩, PS.weak (ps_while hp hc.pt hb.ps) fun E σ H ⟨c, F, env, R, W, ⟨m0, w0⟩, h⟩ => ?_⟩
  · cases b with
    | true => exact hb.up e1 { nx := fun e => ∃ m', m' < m ∧ W m' e, rt := E.rt, bk := E.nx, ct := fun e => ∃ m', m' < m ∧ W m' e } { nx := fun e => ∃ m', m' < m ∧ W m' e, rt := E'.rt, bk := E'.nx, ct := fun e => ∃ m', m' < m ∧ W m' e } ⟨fun e h => h, l.rt, l.nx, fun e h => h⟩ h
    | false => exact l.nx _ h
  · refine ⟨fun m σ' H' => ∃ F' env', Ex F F' ∧ Rp X.K c env' σ' F' H' ∧ W m env', ⟨m0, F, env, Ex.refl F, R, w0⟩, fun m σ' H' ⟨F', env', g, R', w⟩ => ⟨c, F', env', R', hc.up _ _ _ (fun b e1 h F1 H1 g1 R1 => ?_) (h m env' w)⟩⟩
    cases b with
    | true =>
      show (if true = true then _ else _)
      rw [if_pos rfl] at h ⊢
      refine ⟨fun σ2 H2 => ∃ m', m' < m ∧ ∃ F2 e2, Ex F F2 ∧ Rp X.K c e2 σ2 F2 H2 ∧ W m' e2, fun σ2 H2 h => h, c, F1, e1, R1, hb.up e1 { nx := fun e => ∃ m', m' < m ∧ W m' e, rt := (endsOf X.K c F E).rt, bk := (endsOf X.K c F E).nx, ct := fun e => ∃ m', m' < m ∧ W m' e } _ ⟨fun e ⟨m', hm, w'⟩ σ2 F2 H2 g2 R2 => ⟨m', hm, F2, e, (g.trans g1).trans g2, R2, w'⟩, fun d e q v σ2 F2 H2 g2 R2 dp => q v σ2 F2 H2 ((g.trans g1).trans g2) R2 dp, fun e q σ2 F2 H2 g2 R2 => q σ2 F2 H2 ((g.trans g1).trans g2) R2, fun e ⟨m', hm, w'⟩ σ2 F2 H2 g2 R2 => ⟨m', hm, F2, e, (g.trans g1).trans g2, R2, w'⟩⟩ h⟩
    | false =>
      show (if false = true then _ else _)
      rw [if_neg Bool.false_ne_true] at h ⊢
      exact h σ' F1 H1 (g.trans g1) R1
/-- found.append(e), found an owned list -/
theorem sd_app {i : Nat} {o : Expr} {apos cpos : Pos} (ho : PE X o (tVar i)) (he : PEd X e te) (hpe : ∀ {te' : TE}, PE X e te' → PE X (.Call (.Attribute o "append" apos) [e] [] cpos) (tBM X.K "list" rAppend (tVar i) (tCons te' tNil)))
    (hs : swapsWith (.Call (.Attribute o "append" apos) [e] [] cpos) none pos.line X.env = pure false := by rfl) : PSd X (.Expr (.Call (.Attribute o "append" apos) [e] [] cpos) pos) (dApp i te) := by
  refine ⟨fun _ _ _ l ⟨k, p, m, h0, h⟩ => ⟨k, p, m, h0, he.up _ _ _ (fun y e1 ⟨ds, h1, h2, h⟩ => ⟨ds, h1, h2, l.nx _ h⟩) h⟩, PS.weak (ps_expr (hpe he.pe) hs) fun E σ H ⟨c, F, env, R, k, p, m, h0, h⟩ => ?_⟩
  obtain ⟨q1, q2, q3, q4⟩ := R.own i k p m h0
  have ty : tyV X.K "list" (.ref p) H := by
    cases m with
    | lst ds =>
      obtain ⟨xs, z, _⟩ := q4
      exact .inl ⟨rfl, _, SqL.of z⟩
  refine ⟨_, q1, ty, c, F, env, R, he.up _ _ _ (fun y e1 ⟨ds, h1, h2, h⟩ v F1 H1 g1 R1 d1 => ?_) h⟩
  obtain ⟨_, z2, z3, xs, z4, z5⟩ := R1.own i k p _ h1
  exact ⟨p, xs, v, rfl, rfl, z4, by rw [dpa_len z5, sizeLine_eq]; exact h2, h σ F1 _ g1 (R1.mut h1 (dpa_app z5 (.cons d1 .nil)))⟩
/-- found[i] = e, found an owned list -/
theorem sd_setIx {i : Nat} {o x : Expr} {spos : Pos} (ho : PE X o (tVar i)) (hx : PEd X x ti) (he : PEd X e te)
    (hpg : ∀ {to' ti' : TE}, PE X o to' → PE X x ti' → PG X (.Subscript o x spos) (gSub to' ti' rSetL)) (hs : swapsWithSole [.Subscript o x spos] e pos.line X.env = pure false := by rfl) (hw : swappedStores [.Subscript o x spos] e X.env = pure none := by rfl)
    (h1 : (assignEach [.Subscript o x spos] X.env).map (·.2) = [assign (.Subscript o x spos) X.env] := by rfl) : PSd X (.Assign [.Subscript o x spos] e pos) (dSetIx i ti te) := by
  refine ⟨fun _ _ _ l h => he.up _ _ _ (fun d e1 ⟨k, p, m, h0, h⟩ => ⟨k, p, m, h0, hx.up _ _ _ (fun y e2 ⟨ds, j, n, a1, a2, a3, h⟩ => ⟨ds, j, n, a1, a2, a3, l.nx _ h⟩) h⟩) h, PS.weak (ps_asg he.pe (hpg ho hx.pe) hs hw h1) fun E σ H ⟨c, F, env, R, h⟩ => ⟨c, F, env, R, he.up _ _ _ (fun d e1 ⟨k, p, m, h0, h⟩ v F1 H1 g1 R1 d1 => ?_) h⟩⟩
  obtain ⟨q1, q2, q3, q4⟩ := R1.own i k p m h0
  refine ⟨_, q1, c, F1, e1, R1, hx.up _ _ _ (fun y e2 ⟨ds, j, n, a1, a2, a3, h⟩ w F2 H2 g2 R2 d2 => ?_) h⟩
  obtain ⟨_, z2, z3, xs, z4, z5⟩ := R2.own i k p _ a1
  subst a2
  rw [dp_int d2]
  exact ⟨p, xs, j, n, rfl, rfl, z4, by rw [dpa_len z5]; exact a3, h σ F2 _ (g1.trans g2) (R2.mut a1 (dpa_set n z5 (d1.up g2)))⟩
end
end PD

namespace PD
open PySem PySem.Spec PyProof.Rows L2
/-! ### promises at data level -/
/-- a def that changes nothing -/
def spP (K : PySem.W.Frag) (S : FC) : Sp := fun vs H Q _ => ∃ F ds, Ex F H ∧ DpAll K F vs ds ∧ S ds fun d => ∀ v F' H', Grow F H F' H' → Dp K F' v d → Q v H'
/-- H' is H but for p -/
structure But (p : Addr) (F H F' H' : Hp) : Prop where
  f : Ex F F'
  fh : Ex F' H'
  h : ∀ a o, a ≠ p → H a = some o → H' a = some o
  new : ∀ a o, F' a = some o → F a = some o ∨ H a = none
abbrev FM := Ob → List D → (D → Ob → Prop) → Prop
/-- a def that changes its first argument, a list -/
def spM (K : PySem.W.Frag) (S : FM) : Sp := fun vs H Q _ => ∃ F p m ws ds, vs = .ref p :: ws ∧ Ex F H ∧ F p = none ∧ ObAt K F H p m ∧ DpAll K F ws ds ∧ S m ds fun d m' => ∀ v F' H', But p F H F' H' → ObAt K F' H' p m' → Dp K F' v d → Q v H'
def UpM (S : FM) : Prop := ∀ m ds (Q Q' : D → Ob → Prop), (∀ d m, Q d m → Q' d m) → S m ds Q → S m ds Q'
section
variable {K : PySem.W.Frag} {c : Cy} {env : DEnv} {σ : L2.St} {F H F' H' : Hp}
theorem Rp.but (R : Rp K c env σ F H) {i : Nat} {l : Bool} {p : Addr} {m m' : Ob} (hi : env[i]? = some (Sl.ow l p m)) (g : But p F H F' H') (h : ObAt K F' H' p m') : Rp K c (env.set i (.ow l p m')) σ F' H' := by
  obtain ⟨o1, o2, o3, o4⟩ := R.own i l p m hi
  obtain ⟨u0, hu0⟩ := o4.there
  have F'n : ∀ q o, H q = some o → F q = none → F' q = none := fun q o hq hn => by
    cases z : F' q with
    | none => rfl
    | some w =>
      rcases g.new q w z with y | y
      · rw [hn] at y; cases y
      · rw [hq] at y; cases y
  refine ⟨g.fh, fun a o q z z' => ?_, R.lf, fun a o q => ?_, R.f0.trans g.f, fun a o q => ?_, by rw [List.length_set, R.len], fun j d q => ?_, fun j l' p' n q => ?_, fun j k l1 l2 q n n' a b => ?_⟩
  · refine g.h a o (fun e => ?_) (R.base a o q z z')
    subst e
    cases l with
    | true => exact z' o3
    | false => exact z o3
  · by_cases e : a = p
    · subst e
      exact h.there
    · obtain ⟨u, hu⟩ := R.pres a o q
      exact ⟨u, g.h a u e hu⟩
  · rcases g.new a o q with y | y
    · exact R.fb a o y
    · refine .inr (R.lf a ?_)
      cases z : c.H_0 a with
      | none => rfl
      | some u =>
        obtain ⟨w, e⟩ := R.pres a u z
        rw [y] at e
        cases e
  · rcases get_set_cases q with ⟨rfl, e1, lt⟩ | ⟨ne, q⟩
    · cases e1
    · obtain ⟨v, h1, h2⟩ := R.val j d q
      exact ⟨v, h1, h2.up g.f⟩
  · rcases get_set_cases q with ⟨rfl, e1, lt⟩ | ⟨ne, q⟩
    · cases e1
      exact ⟨o1, F'n p u0 hu0 o2, o3, h⟩
    · obtain ⟨h1, h2, h3, h4⟩ := R.own j l' p' n q
      have np : p' ≠ p := fun e => ne (R.sep i j l l' p m n hi (e ▸ q))
      obtain ⟨u1, hu1⟩ := h4.there
      refine ⟨h1, F'n p' u1 hu1 h2, h3, ?_⟩
      cases n with
      | lst es =>
        obtain ⟨ys, z1, z2⟩ := h4
        exact ⟨ys, g.h _ _ np z1, z2.up g.f⟩
  · rcases get_set_cases a with ⟨rfl, e1, lt⟩ | ⟨ne, a⟩
    · cases e1
      rcases get_set_cases b with ⟨rfl, e1, lt⟩ | ⟨ne', b⟩
      · rfl
      · exact R.sep _ _ _ _ _ _ _ hi b
    · rcases get_set_cases b with ⟨rfl, e1, lt⟩ | ⟨ne', b⟩
      · cases e1
        exact R.sep _ _ _ _ _ _ _ a hi
      · exact R.sep j k l1 l2 q n n' a b
end
/-! ### calls of defs -/
def dCallM (i : Nat) (S : FM) (t : DAs) : DE := fun env Q => ∃ l p m0, env[i]? = some (Sl.ow l p m0) ∧ t env fun ds e1 => ∃ m, e1[i]? = some (Sl.ow l p m) ∧ S m ds fun d m' => Q d (e1.set i (.ow l p m'))
section
variable {X : Cx} {k : Nat} {f : Addr} {fd : FuncData} {ps : List Str} {x : Str} {p pos : Pos} {a e : Expr} {es : List Expr} {t : DAs} {S : FC}
theorem ed_fn (F : FnOk X.prog X.w X.K X.mg X.base CX0 k f fd ps (spP X.K S)) (m : UpC S) (hr : Room k X.A) (hg : Gl X x) (hm : X.mg x = some (.ref f)) (hk : PySem.W.keepIn X.K (.ref f) = true) (hb : Binds X.K fd ps [])
    (ha : PAd X (e :: es) t) (hdb : (x == ("__debug__" : Str)) = false := by decide) (he : starEach (e :: es) X.env = (false, eval e X.env) :: starEach es X.env := by rfl) (hpl : (backTo pos (starEach es X.env)).any (·.1) = false := by rfl) :
    PEd X (.Call (.Name x p) (e :: es) [] pos) (dCall S t) := by
  refine ⟨fun _ _ _ w h => ha.up _ _ _ (fun ds e1 h => m _ _ _ (fun z => w z e1) h) h, PE.weak (pe_call F hr hg hm hk hb .nil (pass0 (X := X)) ha.pa hdb he hpl) fun σ H Q ⟨c, F0, env, R, h⟩ => ⟨c, F0, env, R, ha.up _ _ _ (fun ds e1 h vs F1 H1 g1 R1 d1 => ?_) h⟩⟩
  show spP X.K S (vs ++ []) H1 Q E0
  rw [List.append_nil]
  exact ⟨F1, ds, R1.fh, d1, m _ _ _ (fun d q v F' H' g dp => q v F' H' (g1.trans g.f) (R1.grow g) dp) h⟩
theorem ed_fn0 (F : FnOk X.prog X.w X.K X.mg X.base CX0 k f fd ps (spP X.K S)) (m : UpC S) (hr : Room k X.A) (hg : Gl X x) (hm : X.mg x = some (.ref f)) (hk : PySem.W.keepIn X.K (.ref f) = true) (hb : Binds X.K fd ps [])
    (hdb : (x == ("__debug__" : Str)) = false := by decide) : PEd X (.Call (.Name x p) [] [] pos) (dCall S dNil) := by
  refine ⟨fun _ _ _ w h => m _ _ _ (fun z => w z _) h, PE.weak (pe_call0 F hr hg hm hk hb .nil (pass0 (X := X)) hdb) fun σ H Q ⟨c, F0, env, R, h⟩ => ?_⟩
  exact ⟨F0, [], R.fh, .nil, m _ _ _ (fun d q v F' H' g dp => q v F' H' g.f (R.grow g) dp) h⟩
theorem ed_fnM {i : Nat} {S : FM} (F : FnOk X.prog X.w X.K X.mg X.base CX0 k f fd ps (spM X.K S)) (m : UpM S) (hr : Room k X.A) (hg : Gl X x) (hm : X.mg x = some (.ref f)) (hk : PySem.W.keepIn X.K (.ref f) = true) (hb : Binds X.K fd ps [])
    (h0 : PE X e (tVar i)) (ha : PAd X es t) (hdb : (x == ("__debug__" : Str)) = false := by decide) (he : starEach (e :: es) X.env = (false, eval e X.env) :: starEach es X.env := by rfl) (hpl : (backTo pos (starEach es X.env)).any (·.1) = false := by rfl) :
    PEd X (.Call (.Name x p) (e :: es) [] pos) (dCallM i S t) := by
  refine ⟨fun _ _ _ w ⟨l, p, m0, h0, h⟩ => ⟨l, p, m0, h0, ha.up _ _ _ (fun ds e1 ⟨n, h1, h⟩ => ⟨n, h1, m _ _ _ _ (fun z m' => w z _) h⟩) h⟩, PE.weak (pe_call F hr hg hm hk hb .nil (pass0 (X := X)) (pa_cons h0 ha.pa he) hdb he hpl) fun σ H Q ⟨c, F0, env, R, l, p, m0, hi, h⟩ => ?_⟩
  obtain ⟨q1, _⟩ := R.own i l p m0 hi
  refine ⟨_, q1, c, F0, env, R, ha.up _ _ _ (fun ds e1 ⟨n, h1, h⟩ vs F1 H1 g1 R1 d1 => ?_) h⟩
  show spM X.K S ((V.ref p :: vs) ++ []) H1 Q E0
  rw [List.append_nil]
  obtain ⟨_, z2, z3, z4⟩ := R1.own i l p n h1
  exact ⟨F1, p, n, vs, ds, rfl, R1.fh, z2, z4, d1, m _ _ _ _ (fun d m' q v F' H' g ho dp => q v F' H' (g1.trans g.f) (R1.but h1 g ho) dp) h⟩
end
/-! ### a def by its body -/
def startD (n : Nat) (ds : List D) : DEnv := ds.map Sl.dt ++ List.replicate (n - ds.length) Sl.no
def startM (n : Nat) (p : Addr) (m : Ob) (ds : List D) : DEnv := .ow false p m :: (ds.map Sl.dt ++ List.replicate (n - (ds.length + 1)) Sl.no)
theorem start_get {K : PySem.W.Frag} {F : Hp} : ∀ {vs : List V} {ds : List D} {n j : Nat} {d : D}, DpAll K F vs ds → (ds.map Sl.dt ++ List.replicate n Sl.no)[j]? = some (Sl.dt d) → ∃ v, (vs.map some ++ List.replicate n (none : Option V))[j]? = some (some v) ∧ Dp K F v d
  | [], _, n, j, d, h, e => by
    cases h
    simp only [List.map_nil, List.nil_append] at e
    rw [List.getElem?_replicate] at e
    split at e <;> cases e
  | v :: vs, _, n, 0, d, h, e => by
    cases h with
    | cons h1 h2 =>
      simp only [List.map_cons, List.cons_append, List.getElem?_cons_zero] at e
      cases e
      exact ⟨v, rfl, h1⟩
  | v :: vs, _, n, j + 1, d, h, e => by
    cases h with
    | cons h1 h2 =>
      simp only [List.map_cons, List.cons_append, List.getElem?_cons_succ] at e ⊢
      exact start_get h2 e
theorem start_own : ∀ {ds : List D} {n j : Nat} {l p m}, (ds.map Sl.dt ++ List.replicate n Sl.no)[j]? = some (Sl.ow l p m) → False
  | [], n, j, l, p, m, e => by
    simp only [List.map_nil, List.nil_append] at e
    rw [List.getElem?_replicate] at e
    split at e <;> cases e
  | d :: ds, n, 0, l, p, m, e => by
    simp only [List.map_cons, List.cons_append, List.getElem?_cons_zero] at e
    cases e
  | d :: ds, n, j + 1, l, p, m, e => by
    simp only [List.map_cons, List.cons_append, List.getElem?_cons_succ] at e
    exact start_own e
section
variable {P : Program} {w : World} {K : PySem.W.Frag} {mg : Str → Option Value} {base : Heap}
theorem fn_okP {x qual : Str} {st : Stmt} {f : Addr} {fd : FuncData} {N ps : List Str} {k : Nat} {S : FC} (F : Fun K x qual st f fd) (Sc : FnScope N ps (defScope st)) (hl : ∀ ds Q, S ds Q → ds.length = ps.length)
    (hb : ∀ (cdv : Value) (A : Around) (outer : List Env) (s : Shared) (H : Hp) (E : XK), Room k (A.deeper (envOfC qual (defScope st) s.heap.objs.size f cdv)) →
      ∃ t, PSsd (cxOf CX0 P w K mg base N qual (defScope st) f cdv A outer s H E).nox (defBody st) t ∧ ∀ ds Q, S ds Q → t { nx := fun _ => Q .none, rt := fun d _ => Q d } (startD N.length ds)) :
    FnOk P w K mg base CX0 (k + 1) f fd ps (spP K S) := by
  refine F.ok Sc (fun vs H Q E ⟨F0, ds, e, da, h⟩ => by rw [dpa_len da]; exact hl ds _ h) fun cdv A outer s H vs Q E hr ⟨F0, ds, e, da, h⟩ => ?_
  obtain ⟨t, h1, h2⟩ := hb cdv A outer s H E hr
  have hlen := dpa_len da
  let c : Cy := ⟨H, F0, fun _ => False, fun a => H a = none⟩
  have R : Rp K c (startD N.length ds) (L2.start N vs) F0 H := by
    refine ⟨e, fun a o q _ _ => q, fun a q => q, fun a o q => ⟨o, q⟩, Ex.refl F0, fun a o q => .inl q, ?_, fun i d q => ?_, fun i l p m q => ?_, fun i j l l' p m n q => ?_⟩
    · unfold startD L2.start
      rw [List.length_append, List.length_append, List.length_map, List.length_map, List.length_replicate, List.length_replicate, hlen]
    · unfold startD at q
      unfold L2.start
      rw [hlen]
      exact start_get da q
    · exact (start_own q).elim
    · exact (start_own q).elim
  have fin : ∀ {env' : DEnv} {σ' : L2.St} {F' H' : Hp}, Ex F0 F' → Rp K c env' σ' F' H' → Grow F0 H F' H' := fun {env' σ' F' H'} g R' => ⟨g, fun a o q => R'.base a o q (fun z => z) (fun z => nomatch (q.symm.trans (show H a = none from z))), R'.fh, fun a o q => R'.fb a o q⟩
  refine ⟨_, h1.ps, c, F0, startD N.length ds, R, h1.up (startD N.length ds) { nx := fun _ => ∀ v F' H', Grow F0 H F' H' → Dp K F' v .none → Q v H', rt := fun d _ => ∀ v F' H', Grow F0 H F' H' → Dp K F' v d → Q v H' } _ ⟨fun env' q σ' F' H' g R' => ?_, fun d env' q v σ' F' H' g R' dp => ?_, fun env' q => q.elim, fun env' q => q.elim⟩ (h2 ds _ h)⟩
  · exact q .non F' H' (fin g R') .non
  · exact q v F' H' (fin g R') dp
theorem fn_okM {x qual : Str} {st : Stmt} {f : Addr} {fd : FuncData} {N ps : List Str} {k : Nat} {S : FM} (F : Fun K x qual st f fd) (Sc : FnScope N ps (defScope st)) (hl : ∀ m ds Q, S m ds Q → ds.length + 1 = ps.length)
    (hb : ∀ (cdv : Value) (A : Around) (outer : List Env) (s : Shared) (H : Hp) (E : XK), Room k (A.deeper (envOfC qual (defScope st) s.heap.objs.size f cdv)) →
      ∃ t, PSsd (cxOf CX0 P w K mg base N qual (defScope st) f cdv A outer s H E).nox (defBody st) t ∧ ∀ p m ds Q, S m ds Q → t { nx := fun env => ∃ m', env[0]? = some (Sl.ow false p m') ∧ Q .none m', rt := fun d env => ∃ m', env[0]? = some (Sl.ow false p m') ∧ Q d m' } (startM N.length p m ds)) :
    FnOk P w K mg base CX0 (k + 1) f fd ps (spM K S) := by
  refine F.ok Sc (fun vs H Q E ⟨F0, p, m, ws, ds, ev, e, n, ob, da, h⟩ => by rw [ev, List.length_cons, dpa_len da]; exact hl m ds _ h) fun cdv A outer s H vs Q E hr ⟨F0, p, m, ws, ds, ev, e, n, ob, da, h⟩ => ?_
  subst ev
  obtain ⟨t, h1, h2⟩ := hb cdv A outer s H E hr
  have hlen := dpa_len da
  let c : Cy := ⟨H, F0, fun a => a = p, fun a => H a = none⟩
  have es : L2.start N (.ref p :: ws) = some (.ref p) :: (ws.map some ++ List.replicate (N.length - (ds.length + 1)) none) := by
    unfold L2.start
    rw [List.map_cons, List.length_cons, hlen, List.cons_append]
  have R : Rp K c (startM N.length p m ds) (L2.start N (.ref p :: ws)) F0 H := by
    rw [es]
    refine ⟨e, fun a o q _ _ => q, fun a q => q, fun a o q => ⟨o, q⟩, Ex.refl F0, fun a o q => .inl q, ?_, fun i d q => ?_, fun i l p' m' q => ?_, fun i j l l' p' m' n' q r => ?_⟩
    · unfold startM
      rw [List.length_cons, List.length_cons, List.length_append, List.length_append, List.length_map, List.length_map, List.length_replicate, List.length_replicate, hlen]
    · unfold startM at q
      cases i with
      | zero => simp at q
      | succ i =>
        simp only [List.getElem?_cons_succ] at q ⊢
        exact start_get da q
    · unfold startM at q
      cases i with
      | zero =>
        simp only [List.getElem?_cons_zero] at q
        cases q
        exact ⟨rfl, n, rfl, ob⟩
      | succ i =>
        simp only [List.getElem?_cons_succ] at q
        exact (start_own q).elim
    · unfold startM at q r
      cases i with
      | zero =>
        cases j with
        | zero => rfl
        | succ j =>
          simp only [List.getElem?_cons_succ] at r
          exact (start_own r).elim
      | succ i =>
        simp only [List.getElem?_cons_succ] at q
        exact (start_own q).elim
  have fin : ∀ {env' : DEnv} {σ' : L2.St} {F' H' : Hp}, Ex F0 F' → Rp K c env' σ' F' H' → But p F0 H F' H' := fun {env' σ' F' H'} g R' => ⟨g, R'.fh, fun a o ne q => R'.base a o q ne (fun z => nomatch (q.symm.trans (show H a = none from z))), fun a o q => R'.fb a o q⟩
  refine ⟨_, h1.ps, c, F0, startM N.length p m ds, R, h1.up (startM N.length p m ds) { nx := fun env => ∃ m', env[0]? = some (Sl.ow false p m') ∧ ∀ v F' H', But p F0 H F' H' → ObAt K F' H' p m' → Dp K F' v .none → Q v H', rt := fun d env => ∃ m', env[0]? = some (Sl.ow false p m') ∧ ∀ v F' H', But p F0 H F' H' → ObAt K F' H' p m' → Dp K F' v d → Q v H' } _ ⟨fun env' ⟨m', hm, q⟩ σ' F' H' g R' => ?_, fun d env' ⟨m', hm, q⟩ v σ' F' H' g R' dp => ?_, fun env' q => q.elim, fun env' q => q.elim⟩ (h2 p m ds _ h)⟩
  · exact q .non F' H' (fin g R') (R'.own 0 _ _ _ hm).2.2.2 .non
  · exact q v F' H' (fin g R') (R'.own 0 _ _ _ hm).2.2.2 dp
end
end PD

namespace PD
open PySem PySem.Spec PyProof.Rows L2
/-! ### a def where it stands -/
section
variable (P : Program) (w : World) (K : PySem.W.Frag) (mg : Str → Option Value) (base : Heap)
/-- the def x stands in the module's globals -/
def FunAt (x : Str) (st : Stmt) (ps : List Str) : Prop := ∃ f fd, Fun K x x st f fd ∧ mg x = some (.ref f) ∧ Binds K fd ps []
/-- .. and keeps its promise -/
def OkAt (x : Str) (ps : List Str) (k : Nat) (sp : Sp) : Prop := ∃ f fd, FnOk P w K mg base CX0 k f fd ps sp ∧ mg x = some (.ref f) ∧ PySem.W.keepIn K (.ref f) = true ∧ Binds K fd ps []
end
section
variable {X : Cx} {k : Nat} {ps : List Str} {x : Str} {p pos : Pos} {a e : Expr} {es : List Expr} {t : DAs} {S : FC}
theorem hU (hr : Room k X.A) : X.A.units + 100 < cLine := by have := hr.un; omega
theorem ed_fnA (F : OkAt X.prog X.w X.K X.mg X.base x ps k (spP X.K S)) (m : UpC S) (hr : Room k X.A) (hg : Gl X x)
    (ha : PAd X (e :: es) t) (hdb : (x == ("__debug__" : Str)) = false := by decide) (he : starEach (e :: es) X.env = (false, eval e X.env) :: starEach es X.env := by rfl) (hpl : (backTo pos (starEach es X.env)).any (·.1) = false := by rfl) :
    PEd X (.Call (.Name x p) (e :: es) [] pos) (dCall S t) := by
  obtain ⟨f, fd, F, hm, hk, hb⟩ := F
  exact ed_fn F m hr hg hm hk hb ha hdb he hpl
theorem ed_fnA0 (F : OkAt X.prog X.w X.K X.mg X.base x ps k (spP X.K S)) (m : UpC S) (hr : Room k X.A) (hg : Gl X x)
    (hdb : (x == ("__debug__" : Str)) = false := by decide) : PEd X (.Call (.Name x p) [] [] pos) (dCall S dNil) := by
  obtain ⟨f, fd, F, hm, hk, hb⟩ := F
  exact ed_fn0 F m hr hg hm hk hb hdb
theorem ed_fnMA {i : Nat} {S : FM} (F : OkAt X.prog X.w X.K X.mg X.base x ps k (spM X.K S)) (m : UpM S) (hr : Room k X.A) (hg : Gl X x)
    (h0 : PE X e (tVar i)) (ha : PAd X es t) (hdb : (x == ("__debug__" : Str)) = false := by decide) (he : starEach (e :: es) X.env = (false, eval e X.env) :: starEach es X.env := by rfl) (hpl : (backTo pos (starEach es X.env)).any (·.1) = false := by rfl) :
    PEd X (.Call (.Name x p) (e :: es) [] pos) (dCallM i S t) := by
  obtain ⟨f, fd, F, hm, hk, hb⟩ := F
  exact ed_fnM F m hr hg hm hk hb h0 ha hdb he hpl
theorem ed_giE {x : Str} {i : Int} {pos : Pos} (hg : Gl X x) (hm : ∃ t, X.mg x = some (.int i t)) (hd : (x == ("__debug__" : Str)) = false := by decide) : PEd X (.Name x pos) (dC (.int i)) := by
  obtain ⟨t, hm⟩ := hm
  exact ed_gi hg hm hd
theorem ed_gsE {x : Str} {i : Str} {pos : Pos} (hg : Gl X x) (hm : ∃ t, X.mg x = some (.str i t)) (hd : (x == ("__debug__" : Str)) = false := by decide) : PEd X (.Name x pos) (dC (.str i)) := by
  obtain ⟨t, hm⟩ := hm
  exact ed_gs hg hm hd
end
section
variable {P : Program} {w : World} {K : PySem.W.Frag} {mg : Str → Option Value} {base : Heap}
theorem okP {x : Str} {st : Stmt} {N ps : List Str} {k : Nat} {S : FC} (F : FunAt K mg x st ps) (Sc : FnScope N ps (defScope st)) (hl : ∀ ds Q, S ds Q → ds.length = ps.length)
    (hb : ∀ (f : Addr) (cdv : Value) (A : Around) (outer : List Env) (s : Shared) (H : Hp) (E : XK), Room k (A.deeper (envOfC x (defScope st) s.heap.objs.size f cdv)) →
      ∃ t, PSsd (cxOf CX0 P w K mg base N x (defScope st) f cdv A outer s H E).nox (defBody st) t ∧ ∀ ds Q, S ds Q → t { nx := fun _ => Q .none, rt := fun d _ => Q d } (startD N.length ds)) :
    OkAt P w K mg base x ps (k + 1) (spP K S) := by
  obtain ⟨f, fd, F, hm, hb'⟩ := F
  exact ⟨f, fd, fn_okP F Sc hl fun cdv A outer s H E hr => hb f cdv A outer s H E hr, hm, F.kp, hb'⟩
theorem okM {x : Str} {st : Stmt} {N ps : List Str} {k : Nat} {S : FM} (F : FunAt K mg x st ps) (Sc : FnScope N ps (defScope st)) (hl : ∀ m ds Q, S m ds Q → ds.length + 1 = ps.length)
    (hb : ∀ (f : Addr) (cdv : Value) (A : Around) (outer : List Env) (s : Shared) (H : Hp) (E : XK), Room k (A.deeper (envOfC x (defScope st) s.heap.objs.size f cdv)) →
      ∃ t, PSsd (cxOf CX0 P w K mg base N x (defScope st) f cdv A outer s H E).nox (defBody st) t ∧ ∀ p m ds Q, S m ds Q → t { nx := fun env => ∃ m', env[0]? = some (Sl.ow false p m') ∧ Q .none m', rt := fun d env => ∃ m', env[0]? = some (Sl.ow false p m') ∧ Q d m' } (startM N.length p m ds)) :
    OkAt P w K mg base x ps (k + 1) (spM K S) := by
  obtain ⟨f, fd, F, hm, hb'⟩ := F
  exact ⟨f, fd, fn_okM F Sc hl fun cdv A outer s H E hr => hb f cdv A outer s H E hr, hm, F.kp, hb'⟩
theorem OkAt.mono {x : Str} {ps : List Str} {j k : Nat} {sp : Sp} (h : OkAt P w K mg base x ps j sp) (hk : j ≤ k) : OkAt P w K mg base x ps k sp := by
  obtain ⟨f, fd, F, r⟩ := h
  exact ⟨f, fd, F.mono hk, r⟩
end
end PD

namespace PD
open PySem PySem.Spec PyProof.Rows L2
/-! ### set(xs), xs a list of ints (the library has tuples) -/
section
variable {P : Program} {w : World} {A : Around} {E : Value → Shared → Prop} {s : Shared}
/-- the empty set, as it is made -/
abbrev set0 (w : World) : Obj := { cls := .type "set", dict := none, data := .set #[] 0 (.fresh 0 0 (!w.params.followText "set-order")) }
/-- what stood stands -/
abbrev Stays (h h' : Heap) : Prop := ∀ b o, h.get? b = some o → h'.get? b = some o
/-- what the new set's __init__ is to do: the members of ns -/
def FillsSet (w : World) (s : Shared) (ns : List Int) (r : Value) (s₂ : Shared) : Prop :=
  r = .none ∧ ∃ h' tk c, s₂ = { s with heap := h', toks := tk } ∧ SetR w h' s.heap.objs.size (fun j => decide (j ∈ ns)) c ∧ c ≤ ns.length ∧ Stays s.heap h'
set_option maxHeartbeats 3200000 in
/-- set.__init__ over a list -/
theorem init_list {l : Addr} {items : Array Value} (ns : List Int) (hh : A.handled = none) (hl : s.heap.IsList l items) (hit : IntsAre items.toList ns) (hb : ns.length + 1 < scanBound) :
    wpAny (model P w) A.in1 (Builtin.«set.__init__» ⟨[.ref s.heap.objs.size, .ref l], []⟩)
      (fun fin s' => match fin with | .done f => wants (FillsSet w s ns) E (.ok f) s' | .again c' => c'.quiet = true ∧ codeAny (model P w) A c' (wants (FillsSet w s ns) E) s') (fun e s' => wants (FillsSet w s ns) E (.error e) s') { s with heap := s.heap.push (set0 w) } := by
  have hn : items.size = ns.length := (by simp : items.size = items.toList.length).trans hit.length
  obtain ⟨⟨cls, dict, data, slots⟩, at0, e1, cap, e2⟩ := hl
  simp only at e1 e2
  subst e1 e2
  have below : l < s.heap.objs.size := Heap.lt_size at0
  have at1 : (s.heap.push (set0 w)).get? l = some { cls := .type "list", dict := dict, data := .seq items cap, slots := slots } := Heap.get?_push_of_some _ at0
  have seqL : (s.heap.push (set0 w)).IsList l items := ⟨_, at1, rfl, cap, rfl⟩
  have setT : (s.heap.push (set0 w)).get? s.heap.objs.size = some (set0 w) := Heap.get?_push_size _ rfl
  have b1 := F.sub_list_set
  have b2 := F.sub_list_frozenset
  have b3 : (Value.type "list" == Value.type "dict") = false := by decide
  have n1 : (s.heap.push (set0 w)).objs.size = s.heap.objs.size + 1 := Heap.size_push ..
  unfold Builtin.«set.__init__» noKeywords Builtin.Frozenset.updateFrom
  generalize hPI : pyIter = PI
  wp_walk
  subst hPI
  refine wpAny_pyIter_list seqL (wpAny_bind (wpAny_runValue ?_))
  have calm : A.in1.in1.handled = none := by simp [hh]
  have apart : l ≠ (s.heap.push (set0 w)).objs.size := by rw [n1]; exact Nat.ne_of_lt (Nat.lt_succ_of_lt below)
  have out : s.heap.objs.size ∉ [(s.heap.push (set0 w)).objs.size, l] := by
    simp only [List.mem_cons, List.not_mem_nil, or_false, not_or]
    exact ⟨by rw [n1]; exact Nat.ne_of_lt (Nat.lt_succ_self _), Nat.ne_of_gt below⟩
  refine set_update_ints ((Walks.list calm _ l apart items).toS) s.heap.objs.size out ns hn hb (fun i v hv => ?vals) (items.size - 0) 0 _ (by omega) (Nat.zero_le _) ?stands ?new ?fin
  case stands => exact ⟨⟨_, Heap.get?_push_size _ rfl, rfl, rfl⟩, seqL.push _⟩
  case new => exact ⟨0, Nat.le_refl 0, setR_new_at (Heap.get?_push_of_some _ setT)⟩
  case vals =>
    obtain ⟨lt, _⟩ := Array.getElem?_eq_some_iff.mp hv
    have lt' : i < ns.length := by omega
    obtain ⟨t, e⟩ := PyProof.Rows.IntsAre.int_at hit i v (by rw [Array.getElem?_toList]; exact hv)
    exact ⟨_, t, List.getElem?_eq_getElem lt', by rw [e, List.getD_eq_getElem?_getD, List.getElem?_eq_getElem lt'] <;> rfl⟩
  case fin =>
    rintro ⟨h2, g2, d2, t2, o2⟩ c moved least filled
    obtain rfl : g2 = s.gens := moved.gens
    obtain rfl : d2 = s.drawn := moved.drawn
    obtain rfl : o2 = s.os := moved.os
    refine wpAny_pure (wpAny_pure ⟨rfl, h2, t2, c, rfl, filled, by omega, fun b o e => moved.heap b o ?_ (Heap.get?_push_of_some _ (Heap.get?_push_of_some _ e))⟩)
    have lt := Heap.lt_size e
    simp only [List.mem_cons, List.not_mem_nil, or_false, not_or]
    exact ⟨Nat.ne_of_lt lt, by rw [n1]; exact Nat.ne_of_lt (Nat.lt_succ_of_lt lt)⟩
set_option maxHeartbeats 3200000 in
/-- set(l), l a list of ints -/
theorem set_of_list {l : Addr} {items : Array Value} (ns : List Int) {Q : Value → Shared → Prop} (hh : A.handled = none) (hl : s.heap.IsList l items) (hit : IntsAre items.toList ns) (hb : ns.length + 1 < scanBound)
    (h : ∀ (h' : Heap) (tk c : Nat), SetR w h' s.heap.objs.size (fun j => decide (j ∈ ns)) c → c ≤ ns.length → Stays s.heap h' → Q (.ref s.heap.objs.size) { s with heap := h', toks := tk }) :
    wpAny (model P w) A (call (.type "set") [.ref l]) Q E s := by
  obtain ⟨c, tl, hmro⟩ := F.called_set.mro
  have k1 := F.called_set.made
  have k2 := F.called_set.sub
  have k3 := F.called_set.notType
  have k4 := F.called_set.canCreate
  have k5 := F.typeCall_set_1 (.ref l)
  refine wpAny_call (codeAny_of_tree (wpAny_pure ⟨Code.quiet_builtin _ (by decide +kernel), codeAny_builtin F.entry_type_call ?_⟩))
  rw [Around.under_plain (weight_type_call_type "set" [.ref l] []) rfl]
  repeat (any_goals (first | assumption | wp_step))
  refine codeAny_mono (code_set_led1 (.ref l) (E := E) (Q₁ := fun u z => u = .ref s.heap.objs.size ∧ z = { s with heap := s.heap.push (set0 w) }) ⟨rfl, rfl⟩) fun r z hz => ?_
  match r, hz with
  | .error _, hz => exact hz
  | .ok (.ret u), ⟨e1, e2⟩ =>
    subst e1 e2
    have ty : Shared.TypeIs { s with heap := s.heap.push (set0 w) } (.ref s.heap.objs.size) "set" := ⟨_, Heap.get?_push_size _ rfl, rfl⟩
    have k6 := F.called_set.init.lookup
    have k7 := F.called_set.init.bind (.ref s.heap.objs.size)
    repeat (any_goals (first | assumption | wp_step))
    refine codeAny_mono (codeAny_call_builtin (R := wants (FillsSet w s ns) E) F.called_set.init.plain F.entry_set_init (check_set_init_1 ty (init_list ns hh hl hit hb))) fun r2 z2 hz2 => ?_
    match r2, hz2 with
    | .error _, hz2 => exact hz2
    | .ok (.ret r), ⟨e1, h', tk, c', e2, R, hc, hk⟩ =>
      subst e1 e2
      repeat (any_goals (first | assumption | wp_step))
      exact h _ _ _ R hc hk
    | .ok .next, hz2 => exact hz2.elim
    | .ok .brk, hz2 => exact hz2.elim
    | .ok .cont, hz2 => exact hz2.elim
  | .ok .next, hz => exact hz.elim
  | .ok .brk, hz => exact hz.elim
  | .ok .cont, hz => exact hz.elim
end
section
variable {X : Cx}
def rSetI (K : PySem.W.Frag) (w : World) : RCall := fun vs H Q => ∃ (p : Addr) (ns : List Int), vs = [.ref p] ∧ (SqL K H p (ns.map V.int) ∨ SqT K H p (ns.map V.int)) ∧ ns.length + 1 < scanBound ∧ ∀ q n, H q = none → n ≤ ns.length → Q (.ref q) (upd H q (SetO w q (fun j => decide (j ∈ ns)) n))
theorem cr_setI (hc : X.calm = true) : CallR X (.type "set") (rSetI X.K X.w) := by
  intro pins s σ H vs us Q I r ⟨p, ns, e, hs, hb, q⟩
  subst e
  rw [Vals.ref1 r]
  have fin : ∀ (h' : Heap) (tk c : Nat), SetR X.w h' s.heap.objs.size (fun j => decide (j ∈ ns)) c → c ≤ ns.length → Stays s.heap h' → EP X pins σ Q (.ref s.heap.objs.size) { s with heap := h', toks := tk } := fun h' tk c R hn hk =>
    ⟨.ref _, upd H s.heap.objs.size (SetO X.w s.heap.objs.size (fun j => decide (j ∈ ns)) c), I.laid hk (Nat.le_refl _) (setO_new R), rfl, q _ _ (I.hok.fresh (Nat.le_refl _)) hn⟩
  rcases hs with hs | hs
  · obtain ⟨its, rv, pl, _⟩ := I.list hs
    exact set_of_list ns (I.ok.hd hc) pl.isList rv.ints hb fin
  · obtain ⟨its, rv, pl, _⟩ := I.tuple hs
    exact call_set_tupI ns (I.ok.hd hc) (show s.heap.IsTuple p its.toArray from pl) rv.ints hb fun h' tk c R hn hk => fin h' tk c R hn hk
/-- sorted(set(xs)), fewer than 63 ints -/
def dSortedSet (ta : DE) : DAs := fun env Q => ta env fun d e1 => ∃ ns : List Int, (d = .list (ns.map PyData.int) ∨ d = .tuple (ns.map PyData.int)) ∧ ns.length < 64 ∧ ∀ ns' : List Int, ns'.Pairwise (· < ·) → (∀ k, k ∈ ns' ↔ k ∈ ns) → Q (ns'.map PyData.int) e1
theorem ld_sortedSet {a : Expr} {ta : DE} {p1 p2 pos1 pos2 : Pos} (hc : X.calm = true) (hg1 : Gl X "sorted") (hm1 : X.mg "sorted" = none) (hg2 : Gl X "set") (hm2 : X.mg "set" = none) (ha : PEd X a ta)
    (h1 : starEach [a] X.env = (false, eval a X.env) :: starEach [] X.env := by rfl) (h2 : starEach [.Call (.Name "set" p2) [a] [] pos2] X.env = (false, eval (.Call (.Name "set" p2) [a] [] pos2) X.env) :: starEach [] X.env := by rfl) :
    PLd X (.Call (.Name "sorted" p1) [.Call (.Name "set" p2) [a] [] pos2] [] pos1) (dSortedSet ta) := by
  refine ⟨fun _ _ _ w h => ha.up _ _ _ (fun d e1 ⟨ns, h1, h2, h⟩ => ⟨ns, h1, h2, fun ns' a b => w _ _ (h ns' a b)⟩) h,
    PE.weak (pe_callB (cr_sortedSet hc) hg1 hm1 PyProof.Rows.boot_sorted (pa_cons (pe_callTy (cr_setI hc) hg2 hm2 PyProof.Rows.boot_set (pa_cons ha.pe pa_nil h1) (he := h1)) pa_nil h2) (he := h2)) fun σ H Q ⟨c, F, env, R, h⟩ => ⟨c, F, env, R, ha.up _ _ _ (fun d e1 ⟨ns, hd, hl, h⟩ v F1 H1 g1 R1 d1 => ?_) h⟩⟩
  have key : ∃ p, v = .ref p ∧ (SqL X.K H1 p (ns.map V.int) ∨ SqT X.K H1 p (ns.map V.int)) := by
    rcases hd with rfl | rfl
    · obtain ⟨p, vs, rfl, s1, a1⟩ := dp_lst d1
      rw [ints_dpa a1] at s1
      exact ⟨p, rfl, .inl (ex_l R1.fh s1)⟩
    · obtain ⟨p, vs, rfl, s1, a1⟩ := dp_tup d1
      rw [ints_dpa a1] at s1
      exact ⟨p, rfl, .inr (ex_t R1.fh s1)⟩
  obtain ⟨p, rfl, hs⟩ := key
  refine ⟨p, ns, rfl, hs, by unfold scanBound; omega, fun q n nq hn => ⟨q, _, n, rfl, upd_same, by omega, fun ns' p' hp hk hlen np => ?_⟩⟩
  have g := Grow.hp R1.fh (Ex.new (o := SetO X.w q (fun j => decide (j ∈ ns)) n) nq)
  exact h ns' hp (fun k => (hk k).trans decide_eq_true_iff) p' _ F1 _ g1 (R1.grow g) np (dpa_ints ns')
end
end PD

namespace PD
open PySem PySem.Spec PyProof.Rows L2
/-! ### zip of two, each a list or a tuple -/
section
variable {K : PySem.W.Frag}
/-- t: a tuple, else a list -/
def SqB (K : PySem.W.Frag) (t : Bool) (H : Hp) (a : Addr) (xs : List V) : Prop := match t with | true => SqT K H a xs | false => SqL K H a xs
def ItB (t : Bool) (h : Heap) (i a : Addr) (n : Nat) : Prop := match t with | true => h.IsTupleIter i a n | false => h.IsListIter i a n
def AtB (t : Bool) (h : Heap) (a : Addr) (its : Array Value) : Prop := match t with | true => h.IsTuple a its | false => h.IsList a its
def newIt (t : Bool) (a : Addr) : Obj := match t with | true => { cls := .type "tuple_iterator", data := .fields #[.ref a, .int 0 0] } | false => { cls := .type "list_iterator", data := .fields #[.ref a, .int 0 0] }
theorem seqAt {X : Cx} {pins σ H s a xs} (I : Inv X pins σ H s) : ∀ {t : Bool}, SqB X.K t H a xs → ∃ its : List Value, Vals xs its ∧ AtB t s.heap a its.toArray
  | true, h => let ⟨its, r, p, _⟩ := I.tuple h; ⟨its, r, p⟩
  | false, h => let ⟨its, r, p, _⟩ := I.list h; ⟨its, r, p.isList⟩
theorem seqOne {X : Cx} {pins σ H s a xs ys} (I : Inv X pins σ H s) : ∀ {t : Bool}, SqB X.K t H a xs → SqB X.K t H a ys → xs = ys
  | true, h, h' => I.tuple_inj h h'
  | false, h, h' => I.list_inj h h'
theorem drawB {P : Program} {w : World} {A : Around} (hh : A.handled = none) (i a : Addr) (ne : a ≠ i) (its : Array Value) : ∀ t : Bool, Draws P w A i [i, a] its.size (fun k v => its[k]? = some v) (fun k h => ItB t h i a k ∧ AtB t h a its)
  | true => .tuple hh i a ne its
  | false => .list hh i a ne its
theorem beginB (a : Addr) (its : Array Value) : ∀ t : Bool, Begins (.ref a) (newIt t a) fun h => AtB t h a its
  | true => begins_tuple a its
  | false => begins_list a its
theorem itB_obj {h : Heap} {i a : Addr} {n : Nat} : ∀ {t : Bool}, ItB t h i a n → ∃ o, h.get? i = some o ∧ ∀ v, o.data ≠ .cell v
  | true, ⟨o, e, _, d⟩ => ⟨o, e, fun v q => by rw [d] at q; cases q⟩
  | false, ⟨o, e, _, d⟩ => ⟨o, e, fun v q => by rw [d] at q; cases q⟩
theorem itB_keep {h h' : Heap} {i a : Addr} {n : Nat} (k : ∀ o, h.get? i = some o → h'.get? i = some o) : ∀ {t : Bool}, ItB t h i a n → ItB t h' i a n
  | true, p => p.at k
  | false, p => p.at k
theorem itB_new {h : Heap} {i a : Addr} : ∀ {t : Bool}, h.get? i = some (newIt t a) → ItB t h i a 0
  | true, e => ⟨_, e, rfl, rfl⟩
  | false, e => ⟨_, e, rfl, rfl⟩
theorem atB_lt {h : Heap} {a : Addr} {its : Array Value} : ∀ {t : Bool}, AtB t h a its → a < h.objs.size
  | true, ⟨_, e, _⟩ => Heap.lt_size e
  | false, ⟨_, e, _⟩ => Heap.lt_size e
theorem itB_apart {h : Heap} {i a : Addr} {n : Nat} {its : Array Value} {t : Bool} (hi : ItB t h i a n) (ha : AtB t h a its) : a ≠ i := fun e => by
  subst e
  cases t with
  | true =>
    obtain ⟨_, g1, c1, _⟩ := ha
    obtain ⟨_, g2, c2, _⟩ := hi
    rw [g2] at g1
    cases g1
    rw [c2] at c1
    exact absurd (Value.type.inj c1) (by decide)
  | false =>
    obtain ⟨_, g1, c1, _⟩ := ha
    obtain ⟨_, g2, c2, _⟩ := hi
    rw [g2] at g1
    cases g1
    rw [c2] at c1
    exact absurd (Value.type.inj c1) (by decide)
/-- both sides as they stand at each turn -/
def ItZ (K : PySem.W.Frag) (t u : Bool) (a b : Addr) : It where
  go n H := ∃ xs ys, SqB K t H a xs ∧ SqB K u H b ys ∧ n < xs.length ∧ n < ys.length
  yld n H v H' := ∃ T x y, v = .ref T ∧ H T = none ∧ H' = upd H T (.tup [x, y]) ∧ (∀ xs, SqB K t H a xs → xs[n]? = some x) ∧ ∀ ys, SqB K u H b ys → ys[n]? = some y
  stop n H := ∃ xs ys, SqB K t H a xs ∧ SqB K u H b ys ∧ n ≤ xs.length ∧ n ≤ ys.length ∧ (n = xs.length ∨ n = ys.length)
theorem turn_zipB {P : Program} {w : World} {elts : List Expr} {k : Nat} {tpos : Pos} {t u : Bool} {a b z TI TO i1 i2 : Addr} (S : ZipSep2 z TI TO i1 i2 [i1, a] [i2, b]) :
    Turn P w K (.Tuple elts k tpos) (ItZ K t u a b) [z, TI, TO, i1, i2] z (fun n h => IsZip h z TI TO .none ∧ IsTupOf2 h TI (.ref i1) (.ref i2) ∧ (∃ x y, IsTupOf2 h TO x y) ∧ ItB t h i1 a n ∧ ItB u h i2 b n) where
  mem := List.mem_cons_self ..
  obj n h st c hc := by
    obtain ⟨hz, hI, ⟨x, y, hO⟩, h1, h2⟩ := st
    simp only [List.mem_cons, List.not_mem_nil, or_false] at hc
    rcases hc with rfl | rfl | rfl | rfl | rfl
    · exact ⟨_, hz, fun _ q => nomatch q⟩
    · exact ⟨_, hI, fun _ q => nomatch q⟩
    · exact ⟨_, hO, fun _ q => nomatch q⟩
    · exact itB_obj h1
    · exact itB_obj h2
  keep n h h' st f := by
    obtain ⟨hz, hI, ⟨x, y, hO⟩, h1, h2⟩ := st
    exact ⟨f z (by simp) _ hz, f TI (by simp) _ hI, ⟨x, y, f TO (by simp) _ hO⟩, itB_keep (f i1 (by simp)) h1, itB_keep (f i2 (by simp)) h2⟩
  item := by
    intro X e1 e2 e3 calm n pins s σ H E I free st ⟨xs, ys, q1, q2, l1, l2⟩
    subst e1 e2 e3
    obtain ⟨hz, hI, ⟨x0, y0, hO⟩, h1, h2⟩ := st
    obtain ⟨its, r1, p1⟩ := seqAt I q1
    obtain ⟨jts, r2, p2⟩ := seqAt I q2
    have lz := Heap.lt_size hz
    have quiet : X.A.in1.handled = none := by simp [I.ok.hd calm]
    have c1 := itB_apart h1 p1
    have c2 := itB_apart h2 p2
    refine wpAny_pyNext_zipD2_item S (drawB quiet i1 a c1 its.toArray t) (drawB quiet i2 b c2 jts.toArray u) hz hI hO ⟨h1, p1⟩ ⟨h2, p2⟩ (by rw [List.size_toArray, ← r1.length]; exact l1) (by rw [List.size_toArray, ← r2.length]; exact l2)
      fun v1 v2 h' tk g1 g2 hz' hO' st1 st2 hT _ same => ?_
    obtain ⟨x, hx⟩ : ∃ x, xs[n]? = some x := ⟨_, List.getElem?_eq_getElem l1⟩
    obtain ⟨y, hy⟩ : ∃ y, ys[n]? = some y := ⟨_, List.getElem?_eq_getElem l2⟩
    obtain ⟨v, hv, rv⟩ := r1.get hx
    obtain ⟨v', hv', rv'⟩ := r2.get hy
    rw [List.getElem?_toArray, hv] at g1
    rw [List.getElem?_toArray, hv'] at g2
    obtain rfl := Option.some.inj g1
    obtain rfl := Option.some.inj g2
    refine ⟨_, rfl, wpAny_letOwnedTupleGo_zip (s := { s with heap := h', toks := tk }) hz' fun h'' hz'' sb => ?_⟩
    have hT2 : IsTupOf2 h'' s.heap.objs.size v v' := (sb.2 _ (Nat.ne_of_gt lz)).trans hT
    have pair : ObjOk X.prog X.w (upd H s.heap.objs.size (.tup [x, y])) h'' s.heap.objs.size (.tup [x, y]) := ⟨(by decide : 2 ≤ sizeLine), [v, v'], .cons rv (.cons rv' .nil), _, hT2, rfl, _, rfl⟩
    refine ⟨.ref s.heap.objs.size, _, I.turnedNew (t' := tk) (ch := [z, TI, TO, i1, i2]) (fun c o out e => ?_) free (Nat.le_refl _) pair, rfl, ⟨_, x, y, rfl, I.hok.fresh (Nat.le_refl _), rfl, fun l hl => (seqOne I hl q1) ▸ hx, fun l hl => (seqOne I hl q2) ▸ hy⟩, ⟨hz'', ?_, ⟨v, v', ?_⟩, ?_, ?_⟩, fun c hc => ?_⟩
    · simp only [List.mem_cons, List.not_mem_nil, or_false, not_or] at out
      exact (sb.2 c out.1).trans (same c o out.1 out.2.2.1 out.2.2.2.1 out.2.2.2.2 e)
    · exact (sb.2 _ S.TIz).trans (same _ _ S.TIz S.TITO S.TIi1 S.TIi2 hI)
    · exact (sb.2 _ S.TOz).trans hO'
    · exact itB_keep (fun o e => (sb.2 _ (Ne.symm S.zi1)).trans e) st1.1
    · exact itB_keep (fun o e => (sb.2 _ (Ne.symm S.zi2)).trans e) st2.1
    · have lt : c < s.heap.objs.size := by
        simp only [List.mem_cons, List.not_mem_nil, or_false] at hc
        rcases hc with rfl | rfl | rfl | rfl | rfl
        · exact lz
        · exact Heap.lt_size hI
        · exact Heap.lt_size hO
        · obtain ⟨_, e, _⟩ := itB_obj h1
          exact Heap.lt_size e
        · obtain ⟨_, e, _⟩ := itB_obj h2
          exact Heap.lt_size e
      rw [upd_ne (Nat.ne_of_lt lt)]
      exact (free c hc).1
  done := by
    intro X e1 e2 e3 calm n pins s σ H E I free st ⟨xs, ys, q1, q2, l1, l2, le⟩
    subst e1 e2 e3
    obtain ⟨hz, hI, ⟨x0, y0, hO⟩, h1, h2⟩ := st
    obtain ⟨its, r1, p1⟩ := seqAt I q1
    obtain ⟨jts, r2, p2⟩ := seqAt I q2
    have quiet : X.A.in1.handled = none := by simp [I.ok.hd calm]
    have z1 : its.toArray.size = xs.length := by rw [List.size_toArray, ← r1.length]
    have z2 : jts.toArray.size = ys.length := by rw [List.size_toArray, ← r2.length]
    refine wpAny_pyNext_zipD2_end S (drawB quiet i1 a (itB_apart h1 p1) its.toArray t) (drawB quiet i2 b (itB_apart h2 p2) jts.toArray u) hz hI hO ⟨h1, p1⟩ ⟨h2, p2⟩ (z1 ▸ l1) (z2 ▸ l2) (by rw [z1, z2]; exact le) fun h' tk same => ⟨rfl, I.turnedL (t' := tk) (ch := [z, TI, TO, i1, i2]) (fun c o out e => ?_) free⟩
    simp only [List.mem_cons, List.not_mem_nil, or_false, not_or] at out
    exact same c o out.1 out.2.2.1 out.2.2.2.1 out.2.2.2.2 e
  self := fun A n s Q E st h => wpAny_pyIter_zip st.1 h
end
section
variable {X : Cx}
def iZipB (K : PySem.W.Frag) (ta : TA) : TI := fun σ H R => ta σ H fun vs H1 => ∃ (t u : Bool) (a b : Addr) (xs ys : List V), vs = [.ref a, .ref b] ∧ SqB K t H1 a xs ∧ SqB K u H1 b ys ∧ R (ItZ K t u a b) H1
theorem pi_zipB {e e2 : Expr} {ta : TA} {p pos tpos : Pos} {elts : List Expr} {k : Nat} (hg : Gl X "zip") (hm : X.mg "zip" = none) (ha : PA X [e, e2] ta)
    (hs : starEach [e, e2] X.env = (false, eval e X.env) :: starEach [e2] X.env := by rfl) (hpl : (backTo pos (starEach [e2] X.env)).any (·.1) = false := by rfl) :
    PI X (.Tuple elts k tpos) (.Call (.Name "zip" p) [e, e2] [] pos) (iZipB X.K ta) := by
  refine ⟨fun pins s σ H R I h => Call_ (ld_blt I hg hm PyProof.Rows.boot_zip (PyProof.Rows.callWith_type1 (thn (ha.run pos pins s σ H _ I h) fun us s1 ⟨vs, H1, I1, r1, t, u, a, b, xs, ys, ex, q1, q2, q⟩ => ?_) hs hpl))⟩
  subst ex
  obtain _ | ⟨r, _ | ⟨r', rr⟩⟩ := r1
  cases rr
  cases r
  cases r'
  obtain ⟨its, v1, p1⟩ := seqAt I1 q1
  obtain ⟨jts, v2, p2⟩ := seqAt I1 q2
  refine zip_begins2 (beginB a its.toArray t) (beginB b jts.toArray u) p1 p2 fun h' hz hI hO g1 g2 sz keep => wpAny_pyIter_zip hz ?_
  have in5 : ∀ c, c ∈ [s1.heap.objs.size + 4, s1.heap.objs.size + 2, s1.heap.objs.size + 3, s1.heap.objs.size, s1.heap.objs.size + 1] → s1.heap.objs.size ≤ c := fun c hc => by
    simp only [List.mem_cons, List.not_mem_nil, or_false] at hc
    rcases hc with e | e | e | e | e <;> (rw [e]; first | exact Nat.le_refl _ | exact Nat.le_add_right _ _)
  refine ⟨_, _, _, _, H1, rfl, I1.kept (t' := s1.toks) keep, turn_zipB (zip_sep2 (fp1 := [a]) (fp2 := [b]) (fun c hc => ?_) fun c hc => ?_), ⟨hz, hI, ⟨_, _, hO⟩, itB_new g1, itB_new g2⟩, fun c hc => I1.fpOk (in5 c hc) (I1.hok.fresh (in5 c hc)), q⟩
  · obtain rfl : c = a := by simpa using hc
    exact atB_lt p1
  · obtain rfl : c = b := by simpa using hc
    exact atB_lt p2
/-- pairs of the two, as many as the shorter has -/
def zipD (xs ys : List D) : List D := List.zipWith (fun x y => PyData.tuple [x, y]) xs ys
theorem itok_zip {K : PySem.W.Frag} {F : Hp} {t u : Bool} {a b : Addr} {vs ws : List V} {xs ys : List D} (q1 : SqB K t F a vs) (q2 : SqB K u F b ws) (d1 : DpAll K F vs xs) (d2 : DpAll K F ws ys) : ItOk K (ItZ K t u a b) F (zipD xs ys) := by
  have up : ∀ {t : Bool} {F H : Hp} {a vs}, Ex F H → SqB K t F a vs → SqB K t H a vs := fun {t F H a vs} e h => by
    cases t with
    | true => exact ex_t e h
    | false => exact ex_l e h
  have ln : (zipD xs ys).length = min vs.length ws.length := by
    unfold zipD
    rw [List.length_zipWith, dpa_len d1, dpa_len d2]
  refine ⟨fun H => SqB K t H a vs ∧ SqB K u H b ws, fun i H v H' => ∃ T x y, v = .ref T ∧ H T = none ∧ H' = upd H T (.tup [x, y]) ∧ vs[i]? = some x ∧ ws[i]? = some y, ⟨fun i H hi ⟨g1, g2⟩ => ⟨vs, ws, g1, g2, by omega, by omega⟩, fun H ⟨g1, g2⟩ => ⟨vs, ws, g1, g2, by omega, by omega, by omega⟩, fun i H x H' hi ⟨g1, g2⟩ ⟨T, x1, y1, e, n, e', f1, f2⟩ => ⟨T, x1, y1, e, n, e', f1 _ g1, f2 _ g2⟩⟩, fun F' H e1 e2 => ⟨up e2 (up e1 q1), up e2 (up e1 q2)⟩, fun i F' H x H' hi e1 e2 ⟨T, x1, y1, e, n, e', f1, f2⟩ => ?_⟩
  subst e e'
  obtain ⟨d, h1, h2⟩ := dpa_get' d1 f1
  obtain ⟨d', h3, h4⟩ := dpa_get' d2 f2
  have g := Grow.one (o := .tup [x1, y1]) e2 n
  exact ⟨_, .tuple [d, d'], by unfold zipD; rw [List.getElem?_zipWith, h1, h3], g, .tup (.inl (.inl upd_same)) (.cons ((h2.up e1).up g.f) (.cons ((h4.up e1).up g.f) .nil))⟩
def iZip (t : DAs) : DI := fun env Q => t env fun ds e1 => ∃ x y xs ys, ds = [x, y] ∧ (x = .list xs ∨ x = .tuple xs) ∧ (y = .list ys ∨ y = .tuple ys) ∧ Q (zipD xs ys) e1
variable {t : DAs}
theorem id_zip {e e2 : Expr} {p pos tpos : Pos} {elts : List Expr} {k : Nat} (hg : Gl X "zip") (hm : X.mg "zip" = none) (ha : PAd X [e, e2] t)
    (hs : starEach [e, e2] X.env = (false, eval e X.env) :: starEach [e2] X.env := by rfl) (hpl : (backTo pos (starEach [e2] X.env)).any (·.1) = false := by rfl) :
    PId X (.Tuple elts k tpos) (.Call (.Name "zip" p) [e, e2] [] pos) (iZip t) := by
  refine ⟨fun _ _ _ w q => ha.up _ _ _ (fun d e1 ⟨x, y, xs, ys, h1, h2, h3, q⟩ => ⟨x, y, xs, ys, h1, h2, h3, w _ _ q⟩) q, PI.weak (pi_zipB hg hm ha.pa hs hpl) fun σ H Q ⟨c, F, env, R, h⟩ => ⟨c, F, env, R, ha.up _ _ _ (fun ds e1 ⟨x, y, xs, ys, h1, h2, h3, q⟩ v F1 H1 g1 R1 d1 => ?_) h⟩⟩
  subst h1
  obtain ⟨v1, v2, rfl, z1, z2⟩ := dpa2 d1
  have key : ∀ {v : V} {x : D} {xs : List D}, (x = .list xs ∨ x = .tuple xs) → Dp X.K F1 v x → ∃ (t : Bool) (a : Addr) (vs : List V), v = .ref a ∧ SqB X.K t F1 a vs ∧ DpAll X.K F1 vs xs := fun {v x xs} h d => by
    rcases h with rfl | rfl
    · obtain ⟨p, vs, rfl, s1, a1⟩ := dp_lst d
      exact ⟨false, p, vs, rfl, s1, a1⟩
    · obtain ⟨p, vs, rfl, s1, a1⟩ := dp_tup d
      exact ⟨true, p, vs, rfl, s1, a1⟩
  obtain ⟨t1, a, vs, rfl, s1, a1⟩ := key h2 z1
  obtain ⟨t2, b, ws, rfl, s2, a2⟩ := key h3 z2
  have up : ∀ {t : Bool} {a vs}, SqB X.K t F1 a vs → SqB X.K t H1 a vs := fun {t a vs} h => by
    cases t with
    | true => exact ex_t R1.fh h
    | false => exact ex_l R1.fh h
  exact ⟨t1, t2, a, b, vs, ws, rfl, up s1, up s2, q _ F1 H1 g1 R1 (itok_zip s1 s2 a1 a2)⟩

/-! ### list(range(..)) -/
theorem rgV_dpa {K : PySem.W.Frag} {F : Hp} {a b : Int} : DpAll K F (rgV a b) (rangeD a 1 (b - a).toNat) := by
  have e1 : rgV a b = ((List.range (b - a).toNat).map fun i => a + (i : Nat)).map V.int := by unfold rgV; rw [List.map_map]; rfl
  have e2 : rangeD a 1 (b - a).toNat = ((List.range (b - a).toNat).map fun i => a + (i : Nat)).map PyData.int := by
    unfold rangeD
    rw [List.map_map]
    refine List.map_congr_left fun i _ => ?_
    simp
  rw [e1, e2]
  exact dpa_ints _
variable {a b : Expr} {ta tb : DE}
def dRg1 (ta : DE) : DAs := fun env Q => ta env fun d e1 => ∃ j : Int, d = .int j ∧ RgOk 0 j ∧ Q (rangeD 0 1 j.toNat) e1
def dRg2 (ta tb : DE) : DAs := fun env Q => ta env fun d e1 => tb e1 fun d' e2 => ∃ i j : Int, d = .int i ∧ d' = .int j ∧ RgOk i j ∧ Q (rangeD i 1 (j - i).toNat) e2
theorem ld_range1 {p1 p2 pos1 pos2 : Pos} (hc : X.calm = true) (hg1 : Gl X "list") (hm1 : X.mg "list" = none) (hg2 : Gl X "range") (hm2 : X.mg "range" = none) (ha : PEd X a ta)
    (h1 : starEach [a] X.env = (false, eval a X.env) :: starEach [] X.env := by rfl) (h2 : starEach [.Call (.Name "range" p2) [a] [] pos2] X.env = (false, eval (.Call (.Name "range" p2) [a] [] pos2) X.env) :: starEach [] X.env := by rfl) :
    PLd X (.Call (.Name "list" p1) [.Call (.Name "range" p2) [a] [] pos2] [] pos1) (dRg1 ta) := by
  refine ⟨fun _ _ _ w h => ha.up _ _ _ (fun d e1 ⟨j, h1, h2, h⟩ => ⟨j, h1, h2, w _ _ h⟩) h, PE.weak (pe_listRg hc hg1 hm1 (prg_1 hg2 hm2 ha.pe h1) h2) fun σ H Q ⟨c, F, env, R, h⟩ => ⟨c, F, env, R, ha.up _ _ _ (fun d e1 ⟨j, h1, h2, h⟩ v F1 H1 g1 R1 d1 => ?_) h⟩⟩
  subst h1
  have z := rgV_dpa (K := X.K) (F := F1) (a := 0) (b := j)
  rw [Int.sub_zero] at z
  exact ⟨j, dp_int d1, h2, fun q nq => h q _ F1 H1 g1 R1 nq z⟩
theorem ld_range2 {p1 p2 pos1 pos2 : Pos} (hc : X.calm = true) (hg1 : Gl X "list") (hm1 : X.mg "list" = none) (hg2 : Gl X "range") (hm2 : X.mg "range" = none) (ha : PEd X a ta) (hb : PEd X b tb)
    (h1 : starEach [a, b] X.env = (false, eval a X.env) :: starEach [b] X.env := by rfl) (h3 : starEach [b] X.env = (false, eval b X.env) :: starEach [] X.env := by rfl) (hp : (backTo pos2 (starEach [b] X.env)).any (·.1) = false := by rfl)
    (h2 : starEach [.Call (.Name "range" p2) [a, b] [] pos2] X.env = (false, eval (.Call (.Name "range" p2) [a, b] [] pos2) X.env) :: starEach [] X.env := by rfl) :
    PLd X (.Call (.Name "list" p1) [.Call (.Name "range" p2) [a, b] [] pos2] [] pos1) (dRg2 ta tb) := by
  refine ⟨fun _ _ _ w h => ha.up _ _ _ (fun d e1 h => hb.up _ _ _ (fun d' e2 ⟨i, j, h1, h2, h3, h⟩ => ⟨i, j, h1, h2, h3, w _ _ h⟩) h) h, PE.weak (pe_listRg hc hg1 hm1 (prg_2 hg2 hm2 ha.pe hb.pe h1 h3 hp) h2) fun σ H Q ⟨c, F, env, R, h⟩ => ⟨c, F, env, R, ha.up _ _ _ (fun d e1 h v F1 H1 g1 R1 d1 => ⟨c, F1, e1, R1, hb.up _ _ _ (fun d' e2 ⟨i, j, h1, h2, h3, h4⟩ w F2 H2 g2 R2 d2 => ?_) h⟩) h⟩⟩
  subst h1 h2
  exact ⟨i, j, dp_int d1, dp_int d2, h3, fun q nq => h4 q _ F2 H2 (g1.trans g2) R2 nq rgV_dpa⟩
end
end PD

namespace PD
open PySem PySem.Spec PyProof.Rows L2
/-! ### xs[::-1] -/
section
variable {prog : Program} {w : World} {A : Around} {E : Value → Shared → Prop} {s : Shared}
theorem fm_some {α β : Type} {f : α → Option β} {g : α → β} : ∀ {l : List α}, (∀ a ∈ l, f a = some (g a)) → l.filterMap f = l.map g
  | [], _ => rfl
  | a :: l, h => by
    rw [List.filterMap_cons, h a (by simp), List.map_cons, fm_some fun b hb => h b (List.mem_cons_of_mem _ hb)]
theorem picked_back (xs : Array Value) : ((List.range xs.size).filterMap fun (k : Nat) => xs[((xs.size : Int) - 1 + (k : Int) * -1).toNat]?) = xs.toList.reverse := by
  rw [fm_some (g := fun k => xs.toList.reverse.getD k Value.none)]
  · refine List.ext_getElem (by simp) fun i h1 h2 => ?_
    rw [List.getElem_map, List.getElem_range, List.getD_eq_getElem?_getD, List.getElem?_eq_getElem h2]
    rfl
  · intro k hk
    have lt : k < xs.size := List.mem_range.mp hk
    have e : ((xs.size : Int) - 1 + (k : Int) * -1).toNat = xs.size - 1 - k := by omega
    rw [e, List.getD_eq_getElem?_getD, List.getElem?_reverse (by rw [Array.length_toList]; exact lt), Array.length_toList, Array.getElem?_toList, Array.getElem?_eq_getElem (show xs.size - 1 - k < xs.size by omega)]
    rfl
theorem back_places (n : Nat) : Builtin.Slice.slicePlaces ((n : Int) - 1) (-1) (-1) = n := by
  unfold Builtin.Slice.slicePlaces
  rw [if_neg (by decide)]
  by_cases h : (n : Int) - 1 > -1
  · rw [if_pos h]
    have e : ((n : Int) - 1 - -1 - 1) / (- -1) = (n : Int) - 1 := by
      rw [show (- -1 : Int) = 1 from rfl, Int.ediv_one]
      omega
    omega
  · rw [if_neg h]
    omega
theorem applied_back {sl : Addr} {vs : Value} {n : Nat} {Q : Int × Int × Nat → Shared → Prop} (hs : s.heap.IsSliceOf sl .none .none vs) (ps : IsPart vs (some (-1))) (h : Q ((n : Int) - 1, -1, n) s) :
    wpAny (model prog w) A (Builtin.Slice.sliceApplied (.ref sl) (pure (n : Int))) Q E s := by
  obtain ⟨os, hos, hcs, hds⟩ := id hs
  unfold Builtin.Slice.sliceApplied Builtin.Slice.sliceFields
  refine wpAny_bind (wpAny_bind (wpAny_field hos hds (x := .none) rfl (wpAny_bind (wpAny_field hos hds (x := .none) rfl (wpAny_bind (wpAny_field hos hds (x := vs) rfl (wpAny_pure ?_)))))))
  refine wpAny_bind (HT.slicePart_ ps ?_)
  show wpAny _ _ (if ((-1 : Int) == 0) = true then _ else _) _ _ s
  rw [if_neg (by decide)]
  refine wpAny_bind (slicePart_none (wpAny_bind (slicePart_none (wpAny_bind (wpAny_pure ?_)))))
  show wpAny _ _ (pure ((n : Int) - 1, (-1 : Int), Builtin.Slice.slicePlaces ((n : Int) - 1) (-1) (-1))) _ _ s
  rw [back_places]
  exact wpAny_pure h
theorem getItem_tup_back {t sl : Addr} {items : Array Value} {vs : Value} {Q : Value → Shared → Prop} (ht : IsTup s.heap t items) (hs : s.heap.IsSliceOf sl .none .none vs) (ps : IsPart vs (some (-1)))
    (h : Q (.ref s.heap.objs.size) { s with heap := s.heap.push { cls := .type "tuple", data := .seq items.toList.reverse.toArray } }) (hz : items.size ≤ sizeLine) : wpAny (model prog w) A (getItem (.ref t) (.ref sl)) Q E s := by
  have fits : sizeOk (.seq items.toList.reverse.toArray) := by
    show items.toList.reverse.toArray.size ≤ sizeLine
    rw [List.size_toArray, List.length_reverse, Array.length_toList]
    exact hz
  obtain ⟨os, hos, hcs, hds⟩ := id hs
  have hT : s.TypeIs (.ref sl) "slice" := ⟨os, hos, hcs⟩
  unfold getItem
  try with_reducible refine wpAny_holding ?_
  first | refine wpAny_bind (wpAny_pure ?_) | skip
  refine wpAny_bind (wpAny_sequenceKey ht.typeIs (by decide) (wpAny_bind (wpAny_callSpecial?_slot (name := Str.ofString "__getitem__") ht.typeIs PyProof.Rows.slot_tuple_getitem (wpAny_call_entry PyProof.Rows.slot_tuple_getitem ht.typeIs entry_tuple_getitem ?_ (args_tuple_getitem _ _)))))
  show wpAny _ _ (Builtin.Tuple.tupleItemsOf (.ref t) >>= _) _ _ s
  refine wpAny_bind (tupleItemsOf_ ht (wpAny_bind (wpAny_typeOf hT ?_)))
  rw [if_pos (by decide)]
  refine wpAny_bind (applied_back hs ps ?_)
  show wpAny _ _ (if (((items.size : Int) - 1) == 0 && (-1 : Int) == 1 && items.size == items.size) = true then _ else _) _ _ s
  rw [if_neg (by rw [show ((-1 : Int) == 1) = false from rfl, Bool.and_false, Bool.false_and]; exact Bool.false_ne_true), picked_back]
  first
    | exact wpAny_bind (m := Builtin.Tuple.tupleExact _) (wpAny_newObj_type (wpAny_pure ⟨_, rfl, wpAny_pure h⟩) fits)
    | exact wpAny_bind (m := Builtin.Tuple.tupleExact _) (wpAny_newObj_type (wpAny_bind (wpAny_pure (wpAny_pure ⟨_, rfl, wpAny_pure h⟩))) fits)
end
section
variable {X : Cx} {e : Expr} {ta : DE} {k : Nat} {p1 p2 p3 pos : Pos}
def tRevB (K : PySem.W.Frag) (te : TE) : TE := fun σ H Q => te σ H fun x H1 => ∃ t a xs, x = .ref a ∧ SqB K t H1 a xs ∧ ∀ p, H1 p = none → Q (.ref p) (upd H1 p (match t with | true => .tup xs.reverse | false => .lst xs.reverse))
theorem pe_revB {te : TE} (he : PE X e te) : PE X (.Subscript e (.Slice none none (some (.UnaryOp .USub (.Constant (.int 1) k p1) p2)) p3) pos) (tRevB X.K te) := by
  refine ⟨fun pins s σ H Q I h => Subscript_ (thn (he.run pins s σ H _ I h) fun v s1 ⟨x, H1, I1, r1, t, a, xs, ex, hx, q⟩ => ?_)⟩
  subst ex
  cases r1
  have hst : PO X (some (.UnaryOp .USub (.Constant (.int 1) k p1) p2)) (tPart (tUn (rU fun i => .int (-i)) (tC (.int 1)))) := po_some (pe_un un_neg pe_int)
  refine wpAny_Slice (thn (po_none.run pins s1 σ H1 (fun o H2 => o = none ∧ H2 = H1) I1 ⟨rfl, rfl⟩) fun vl s2 ⟨l, H2, I2, pl, el, e2⟩ => ?_)
  subst el e2
  refine thn (po_none.run pins s2 σ H2 (fun o H3 => o = none ∧ H3 = H2) I2 ⟨rfl, rfl⟩) fun vu s3 ⟨u, H3, I3, pu, eu, e3⟩ => ?_
  subst eu e3
  refine thn (hst.run pins s3 σ H3 (fun o H4 => o = some (-1) ∧ H4 = H3) I3 ⟨1, rfl, -1, rfl, rfl, rfl⟩) fun vs s4 ⟨o, H4, I4, ps, eo, e4⟩ => ?_
  subst eo e4
  cases pl
  cases pu
  have I5 : Inv X pins σ H4 { s4 with heap := s4.heap.push { cls := .type "slice", data := .fields #[.none, .none, vs] } } := I4.kept (t' := s4.toks) fun b ob q => Heap.get?_push_of_some _ q
  show wpAny (model X.prog X.w) X.A (subscriptTail e (.Slice none none (some (.UnaryOp .USub (.Constant (.int 1) k p1) p2)) p3) (.ref a) (.ref s4.heap.objs.size)) (EP X pins σ Q) X.xe { s4 with heap := s4.heap.push { cls := .type "slice", data := .fields #[.none, .none, vs] } }
  cases t with
  | false =>
    obtain ⟨its, r, ht, hz⟩ := I5.list hx
    have hlen := r.length
    refine tail_any (ops := [.ref a, .ref s4.heap.objs.size]) ht.isList.typeIs (PySem.slot_list_getitem.lookup) ?_ (by with_unfolding_all rfl)
    refine wpAny_getItem_list_slice ht.isList (Heap.IsSliceOf.new _ .none .none vs) .none .none ps (by decide) ?_ (by rw [List.size_toArray]; omega)
    rw [PySem.W.krv_pick]
    exact ⟨.ref _, _, I5.laid (t' := s4.toks) (o := .lst xs.reverse) (fun b ob q => Heap.get?_push_of_some _ q) (Nat.le_refl _) ⟨by rw [List.length_reverse]; exact hz, _, 0, r.reverse, Heap.get?_push_size _ rfl⟩, rfl, q _ (I5.hok.fresh (Nat.le_refl _))⟩
  | true =>
    obtain ⟨its, r, ht, hz⟩ := I5.tuple hx
    have hlen := r.length
    refine tail_any (ops := [.ref a, .ref s4.heap.objs.size]) ht.typeIs PyProof.Rows.slot_tuple_getitem.lookup ?_ (by with_unfolding_all rfl)
    refine getItem_tup_back ht (Heap.IsSliceOf.new _ .none .none vs) ps ?_ (by rw [List.size_toArray]; omega)
    exact ⟨.ref _, _, I5.laid (t' := s4.toks) (o := .tup xs.reverse) (fun b ob q => Heap.get?_push_of_some _ q) (Nat.le_refl _) ⟨by rw [List.length_reverse]; exact hz, _, r.reverse, IsTup.new _ _⟩, rfl, q _ (I5.hok.fresh (Nat.le_refl _))⟩
def fRev : F1 := fun x Q => match x with
  | .list xs => Q (.list xs.reverse)
  | .tuple xs => Q (.tuple xs.reverse)
  | _ => False
def rRevB (K : PySem.W.Frag) : V → Hp → VK → Prop := fun x H Q => ∃ t a xs, x = .ref a ∧ SqB K t H a xs ∧ ∀ p, H p = none → Q (.ref p) (upd H p (match t with | true => .tup xs.reverse | false => .lst xs.reverse))
theorem up_rev : UpF1 fRev := fun x Q Q' w h => by
  cases x <;> first | exact w _ h | exact h.elim
theorem link_rev {K : PySem.W.Frag} : Link1 K (rRevB K) fRev := by
  intro F H v x Qd Qr e hv hq k
  cases x with
  | list ds =>
    obtain ⟨p, vs, rfl, s1, a1⟩ := dp_lst hv
    refine ⟨false, p, vs, rfl, ex_l e s1, fun q nq => ?_⟩
    have g := Grow.one (o := .lst vs.reverse) e nq
    exact k _ _ _ _ g (.lst (.inl (.inl upd_same)) (dpa_rev (a1.up g.f))) hq
  | tuple ds =>
    obtain ⟨p, vs, rfl, s1, a1⟩ := dp_tup hv
    refine ⟨true, p, vs, rfl, ex_t e s1, fun q nq => ?_⟩
    have g := Grow.one (o := .tup vs.reverse) e nq
    exact k _ _ _ _ g (.tup (.inl (.inl upd_same)) (dpa_rev (a1.up g.f))) hq
  | _ => exact hq.elim
theorem ed_rev (ha : PEd X e ta) : PEd X (.Subscript e (.Slice none none (some (.UnaryOp .USub (.Constant (.int 1) k p1) p2)) p3) pos) (d1 fRev ta) :=
  ed_1 (r := rRevB X.K) (fun h => pe_revB h) link_rev up_rev ha
end

/-! ### three comparisons in a row -/
section
variable {X : Cx} {a b c d : Expr} {ta tb tc td : DE} {pos : Pos}
def tChain3 (r r' r'' : R2) (ta tb tc td : TE) : TE := fun σ H Q => ta σ H fun x H1 => tb σ H1 fun y H2 => r x y H2 fun z H3 => ∃ k, z = .bl k ∧
  (if k = true then tc σ H3 fun v H4 => r' y v H4 fun z' H5 => ∃ k', z' = .bl k' ∧ (if k' = true then td σ H5 fun u H6 => r'' v u H6 Q else Q (.bl false) H5) else Q (.bl false) H3)
section
variable {r r' r'' : R2} {op op' op'' : CmpOp} {ua ub uc ud : TE}
theorem pe_chain3 (ho : OpR X (compareOp op) r) (ho' : OpR X (compareOp op') r') (ho'' : OpR X (compareOp op'') r'') (ha : PE X a ua) (hb : PE X b ub) (hc : PE X c uc) (hd : PE X d ud)
    (hm : lastMarks [op, op', op''] [b, c, d] = false := by with_unfolding_all rfl) : PE X (.Compare a [op, op', op''] [b, c, d] pos) (tChain3 r r' r'' ua ub uc ud) := by
  refine ⟨fun pins s σ H Q I h => Compare_chain (thn (ha.run pins s σ H _ I h) fun v s1 ⟨x, H1, I1, r1, q1⟩ => PyProof.Rows.chain_link (thn (hb.run pins s1 σ H1 _ I1 q1) fun u s2 ⟨y, H2, I2, r2, q2⟩ =>
    thn (ho pins s2 σ H2 x y v u _ I2 r1 r2 q2) fun t s3 ⟨z, H3, I3, r3, k, e, q3⟩ => ?_)) hm⟩
  subst e
  cases r3
  refine wpAny_truthy_bool ?_
  cases k with
  | false => exact ite_ff ⟨.bl false, H3, I3, rfl, q3⟩
  | true =>
    refine ite_tt (PyProof.Rows.chain_link (thn (hc.run pins s3 σ H3 _ I3 q3) fun v4 s4 ⟨x4, H4, I4, r4, q4⟩ => thn (ho' pins s4 σ H4 y x4 u v4 _ I4 r2 r4 q4) fun t5 s5 ⟨z5, H5, I5, r5, k5, e5, q5⟩ => ?_))
    subst e5
    cases r5
    refine wpAny_truthy_bool ?_
    cases k5 with
    | false => exact ite_ff ⟨.bl false, H5, I5, rfl, q5⟩
    | true => exact ite_tt (chain_last (thn (hd.run pins s5 σ H5 _ I5 q5) fun v6 s6 ⟨x6, H6, I6, r6, q6⟩ => ho'' pins s6 σ H6 x4 x6 v4 v6 Q I6 r4 r6 q6))
theorem pt_chain3 (ho : OpR X (compareOp op) r) (ho' : OpR X (compareOp op') r') (ho'' : OpR X (compareOp op'') r'') (ha : PE X a ua) (hb : PE X b ub) (hc : PE X c uc) (hd : PE X d ud)
    (hm : lastMarks [op, op', op''] [b, c, d] = false := by with_unfolding_all rfl) : PT X (.Compare a [op, op', op''] [b, c, d] pos) (tTest (tChain3 r r' r'' ua ub uc ud)) := by
  refine ⟨fun pins s σ H Q I h => isTrue_chain (thn (ha.run pins s σ H _ I h) fun v s1 ⟨x, H1, I1, r1, q1⟩ => test_link (thn (hb.run pins s1 σ H1 _ I1 q1) fun u s2 ⟨y, H2, I2, r2, q2⟩ =>
    thn (ho pins s2 σ H2 x y v u _ I2 r1 r2 q2) fun t s3 ⟨z, H3, I3, r3, k, e, q3⟩ => ?_)) hm⟩
  subst e
  cases r3
  refine wpAny_truthy_bool ?_
  cases k with
  | false =>
    obtain ⟨k', e', q'⟩ := q3
    cases e'
    exact ite_ff ⟨H3, I3, q'⟩
  | true =>
    refine ite_tt (test_link (thn (hc.run pins s3 σ H3 _ I3 q3) fun v4 s4 ⟨x4, H4, I4, r4, q4⟩ => thn (ho' pins s4 σ H4 y x4 u v4 _ I4 r2 r4 q4) fun t5 s5 ⟨z5, H5, I5, r5, k5, e5, q5⟩ => ?_))
    subst e5
    cases r5
    refine wpAny_truthy_bool ?_
    cases k5 with
    | false =>
      obtain ⟨k', e', q'⟩ := q5
      cases e'
      exact ite_ff ⟨H5, I5, q'⟩
    | true =>
      refine ite_tt (test_last (thn (hd.run pins s5 σ H5 _ I5 q5) fun v6 s6 ⟨x6, H6, I6, r6, q6⟩ => thn (ho'' pins s6 σ H6 x4 x6 v4 v6 _ I6 r4 r6 q6) fun t7 s7 ⟨z7, H7, I7, r7, k7, e7, q7⟩ => ?_))
      subst e7
      cases r7
      exact wpAny_truthy_bool ⟨H7, I7, q7⟩
end
def dChain3 (f f' f'' : F2) (ta tb tc td : DE) : DE := fun env Q => ta env fun x e1 => tb e1 fun y e2 => f x y fun z => ∃ k, z = .bool k ∧
  if k = true then tc e2 fun v e3 => f' y v fun z' => ∃ k', z' = .bool k' ∧ if k' = true then td e3 fun u e4 => f'' v u fun o => Q o e4 else Q (.bool false) e3 else Q (.bool false) e2
section
variable {r r' r'' : R2} {f f' f'' : F2} {op op' op'' : CmpOp}
theorem up_chain3 (ha : Up ta) (hb : Up tb) (hc : Up tc) (hd : Up td) (m : UpF f) (m' : UpF f') (m'' : UpF f'') : Up (dChain3 f f' f'' ta tb tc td) := fun env Q Q' w h => ha _ _ _ (fun x e1 h => hb _ _ _ (fun y e2 h => m _ _ _ _ (fun z ⟨k, ek, h⟩ => ⟨k, ek, by
  cases k with
  | false => exact w _ _ h
  | true => exact hc _ _ _ (fun v e3 h => m' _ _ _ _ (fun z' ⟨k', ek', h⟩ => ⟨k', ek', by
      cases k' with
      | false => exact w _ _ h
      | true => exact hd _ _ _ (fun u e4 h => m'' _ _ _ _ (fun o => w o e4) h) h⟩) h) h⟩) h) h) h
theorem chain3_link {K : PySem.W.Frag} (l : Link K r f) (l' : Link K r' f') (l'' : Link K r'' f'') (ha : Up ta) (hb : Up tb) (hc : Up tc) (hd : Up td) {σ : L2.St} {H : Hp} {Q : VK} {c : Cy} {F : Hp} {env : DEnv} (R : Rp K c env σ F H)
    (h : dChain3 f f' f'' ta tb tc td env fun d env' => ∀ v F' H', Ex F F' → Rp K c env' σ F' H' → Dp K F' v d → Q v H') : tChain3 r r' r'' (eOf K ta) (eOf K tb) (eOf K tc) (eOf K td) σ H Q := by
  refine ⟨c, F, env, R, ha _ _ _ (fun x e1 h v F1 H1 g1 R1 d1 => ⟨c, F1, e1, R1, hb _ _ _ (fun y e2 h w F2 H2 g2 R2 d2 => ?_) h⟩) h⟩
  refine l F2 H2 v w x y _ _ R2.fh (d1.up g2) d2 h fun z H3 F3 d3 g3 dz ⟨k, ek, q⟩ => ?_
  subst ek
  cases dz
  refine ⟨k, rfl, ?_⟩
  have g123 := (g1.trans g2).trans g3.f
  cases k with
  | false =>
    rw [if_neg Bool.false_ne_true] at q ⊢
    exact q _ F3 H3 g123 (R2.grow g3) (.bl _)
  | true =>
    rw [if_pos rfl] at q ⊢
    refine ⟨c, F3, e2, R2.grow g3, hc _ _ _ (fun v' e4 h w4 F4 H4 g4 R4 d4 => ?_) q⟩
    refine l' F4 H4 w w4 y v' _ _ R4.fh ((d2.up g3.f).up g4) d4 h fun z5 H5 F5 d5 g5 dz5 ⟨k5, ek5, q5⟩ => ?_
    subst ek5
    cases dz5
    refine ⟨k5, rfl, ?_⟩
    have g15 := (g123.trans g4).trans g5.f
    cases k5 with
    | false =>
      rw [if_neg Bool.false_ne_true] at q5 ⊢
      exact q5 _ F5 H5 g15 (R4.grow g5) (.bl _)
    | true =>
      rw [if_pos rfl] at q5 ⊢
      refine ⟨c, F5, e4, R4.grow g5, hd _ _ _ (fun u e6 h w6 F6 H6 g6 R6 d6 => ?_) q5⟩
      exact l'' F6 H6 w4 w6 v' u _ _ R6.fh ((d4.up g5.f).up g6) d6 h fun o H7 F7 d7 g7 dz7 q7 => q7 o F7 H7 ((g15.trans g6).trans g7.f) (R6.grow g7) dz7
theorem ed_chain3 (ho : OpR X (compareOp op) r) (ho' : OpR X (compareOp op') r') (ho'' : OpR X (compareOp op'') r'') (l : Link X.K r f) (l' : Link X.K r' f') (l'' : Link X.K r'' f'') (m : UpF f) (m' : UpF f') (m'' : UpF f'') (ha : PEd X a ta) (hb : PEd X b tb) (hc : PEd X c tc) (hd : PEd X d td)
    (hm : lastMarks [op, op', op''] [b, c, d] = false := by with_unfolding_all rfl) : PEd X (.Compare a [op, op', op''] [b, c, d] pos) (dChain3 f f' f'' ta tb tc td) :=
  ⟨up_chain3 ha.up hb.up hc.up hd.up m m' m'', PE.weak (pe_chain3 ho ho' ho'' ha.pe hb.pe hc.pe hd.pe hm) fun σ H Q ⟨_, _, _, R, h⟩ => chain3_link l l' l'' ha.up hb.up hc.up hd.up R h⟩
theorem td_chain3 (ho : OpR X (compareOp op) r) (ho' : OpR X (compareOp op') r') (ho'' : OpR X (compareOp op'') r'') (l : Link X.K r f) (l' : Link X.K r' f') (l'' : Link X.K r'' f'') (m : UpF f) (m' : UpF f') (m'' : UpF f'') (ha : PEd X a ta) (hb : PEd X b tb) (hc : PEd X c tc) (hd : PEd X d td)
    (hm : lastMarks [op, op', op''] [b, c, d] = false := by with_unfolding_all rfl) : PTd X (.Compare a [op, op', op''] [b, c, d] pos) (dB (dChain3 f f' f'' ta tb tc td)) :=
  ⟨Up.dB (up_chain3 ha.up hb.up hc.up hd.up m m' m''), PT.weak (pt_chain3 ho ho' ho'' ha.pe hb.pe hc.pe hd.pe hm) fun σ H Q ⟨c0, F, env, R, h⟩ => by
    refine chain3_link l l' l'' ha.up hb.up hc.up hd.up R (up_chain3 ha.up hb.up hc.up hd.up m m' m'' _ _ _ (fun d e ⟨k, ek, q⟩ v F' H' g R' dp => ?_) h)
    subst ek
    cases dp
    exact ⟨k, rfl, q F' H' g R'⟩⟩
end
end
end PD

namespace PD
open PySem PySem.Spec PyProof.Rows L2
/-! ### defs that hand back a list nobody else has -/
def spL (K : PySem.W.Frag) (S : FL) : Sp := fun vs H Q _ => ∃ F ds, Ex F H ∧ DpAll K F vs ds ∧ S ds fun rs => ∀ p xs F' H', Grow F H F' H' → H' p = none → DpAll K F' xs rs → Q (.ref p) (upd H' p (.lst xs))
section
variable {X : Cx} {k : Nat} {f : Addr} {fd : FuncData} {ps : List Str} {x : Str} {p pos : Pos} {a e : Expr} {es : List Expr} {t tl : DAs}
theorem ld_fnL {S : FL} (F : OkAt X.prog X.w X.K X.mg X.base x ps k (spL X.K S)) (m : UpL S) (hr : Room k X.A) (hg : Gl X x)
    (ha : PAd X (e :: es) t) (hdb : (x == ("__debug__" : Str)) = false := by decide) (he : starEach (e :: es) X.env = (false, eval e X.env) :: starEach es X.env := by rfl) (hpl : (backTo pos (starEach es X.env)).any (·.1) = false := by rfl) :
    PLd X (.Call (.Name x p) (e :: es) [] pos) (lCall S t) := by
  obtain ⟨f, fd, F, hm, hk, hb⟩ := F
  refine ⟨fun _ _ _ w h => ha.up _ _ _ (fun ds e1 h => m _ _ _ (fun z => w z e1) h) h, PE.weak (pe_call F hr hg hm hk hb .nil (pass0 (X := X)) ha.pa hdb he hpl) fun σ H Q ⟨c, F0, env, R, h⟩ => ⟨c, F0, env, R, ha.up _ _ _ (fun ds e1 h vs F1 H1 g1 R1 d1 => ?_) h⟩⟩
  show spL X.K S (vs ++ []) H1 Q E0
  rw [List.append_nil]
  exact ⟨F1, ds, R1.fh, d1, m _ _ _ (fun rs q p xs F' H' g np da => q p xs F' H' (g1.trans g.f) (R1.grow g) np da) h⟩
/-- the first argument, which is changed, is a new list -/
def dCallMN (S : FM) (tl t : DAs) : DE := fun env Q => tl env fun ds0 e1 => t e1 fun ds e2 => S (.lst ds0) ds fun d _ => Q d e2
theorem ed_fnMN {S : FM} (F : OkAt X.prog X.w X.K X.mg X.base x ps k (spM X.K S)) (m : UpM S) (hr : Room k X.A) (hg : Gl X x)
    (h0 : PLd X e tl) (ha : PAd X es t) (hdb : (x == ("__debug__" : Str)) = false := by decide) (he : starEach (e :: es) X.env = (false, eval e X.env) :: starEach es X.env := by rfl) (hpl : (backTo pos (starEach es X.env)).any (·.1) = false := by rfl) :
    PEd X (.Call (.Name x p) (e :: es) [] pos) (dCallMN S tl t) := by
  obtain ⟨f, fd, F, hm, hk, hb⟩ := F
  refine ⟨fun _ _ _ w h => h0.up _ _ _ (fun ds0 e1 h => ha.up _ _ _ (fun ds e2 h => m _ _ _ _ (fun z m' => w z _) h) h) h, PE.weak (pe_call F hr hg hm hk hb .nil (pass0 (X := X)) (pa_cons h0.pe ha.pa he) hdb he hpl) fun σ H Q ⟨c, F0, env, R, h⟩ => ?_⟩
  refine ⟨c, F0, env, R, h0.up _ _ _ (fun ds0 e1 h q xs F1 H1 g1 R1 nq da => ?_) h⟩
  have c0 : c.H_0 q = none := by
    cases z : c.H_0 q with
    | none => rfl
    | some u =>
      obtain ⟨y, hy⟩ := R1.pres q u z
      rw [nq] at hy
      cases hy
  obtain ⟨R2, A2⟩ := R1.lay (o := .lst xs) nq
  refine ⟨_, F1, e1, R2.root, ha.up _ _ _ (fun ds e2 h vs F3 H3 g3 R3 d3 => ?_) h⟩
  have A3 := R3.apart A2
  have R4 := (R2.unroot R3).hide A3 c0
  show spM X.K S ((V.ref q :: vs) ++ []) H3 Q E0
  rw [List.append_nil]
  refine ⟨F3, q, _, vs, ds, rfl, R3.fh, A3.still, ⟨xs, A3.here, da.up g3⟩, d3, m _ _ _ _ (fun d m' z v F' H' g ho dp => ?_) h⟩
  refine z v F' H' ((g1.trans g3).trans g.f) (R4.grow ⟨g.f, fun a o h => ?_, g.fh, fun a o h => ?_⟩) dp
  · have ne : a ≠ q := fun e => by
      subst e
      rw [hide_at] at h
      cases h
    rw [hide_ne ne] at h
    exact g.h a o ne h
  · rcases g.new a o h with y | y
    · exact .inl y
    · refine .inr ?_
      by_cases e : a = q
      · subst e
        exact hide_at
      · rw [hide_ne e]
        exact y
end
section
variable (K : PySem.W.Frag)
def endsL (c : Cy) (F : Hp) (E : Ends) : EndsD where
  nx := fun _ => False
  rt := fun d env' => ∀ ds p xs σ' F' H', d = .list ds → Ex F F' → Rp K c env' σ' F' H' → H' p = none → DpAll K F' xs ds → E.rt (.ref p) (upd H' p (.lst xs))
def lsOf (t : DS) : TS := fun E σ H => ∃ c F env, Rp K c env σ F H ∧ t (endsL K c F E) env
end
/-- a body that ends with a new list -/
structure PLsd (X : Cx) (s : List Stmt) (t : DS) : Prop where
  up : UpS t
  ps : PSs X s (lsOf X.K t)
def NoRt (t : DS) : Prop := ∀ (E : EndsD) (r : D → DEnv → Prop) (env : DEnv), t E env → t { nx := E.nx, rt := r, bk := E.bk, ct := E.ct } env
section
variable {X : Cx} {s : Stmt} {ss : List Stmt} {e : Expr} {t u : DS} {ta : DAs} {pos : Pos}
theorem lsd_ret (h : PLd X e ta) : PLsd X [.Return (some e) pos] (dRet (dNew ta)) :=
  ⟨fun _ _ _ l q => h.up _ _ _ (fun d e1 q => l.rt _ _ q) q, PSs.weak (pss_one (ps_ret h.pe)) fun E σ H ⟨c, F, env, R, q⟩ => ⟨c, F, env, R, h.up _ _ _ (fun ds e1 q p xs F' H' g R' np da => q ds p xs σ F' H' rfl g R' np da) q⟩⟩
theorem lsd_cons (h1 : PSd X s t) (h2 : PLsd X ss u) (n : NoRt t := by exact fun _ _ _ h => h) : PLsd X (s :: ss) (dSeq t u) := by
  refine ⟨dSeq_up h1.up h2.up, PSs.weak (pss_cons h1.ps h2.ps) fun E σ H ⟨c, F, env, R, h⟩ => ⟨c, F, env, R, ?_⟩⟩
  have h' := n _ (fun _ _ => False) _ h
  refine h1.up env { nx := u (endsL X.K c F E), rt := fun _ _ => False } _ ⟨fun e q σ' F' H' g R' => ?_, fun d e q => False.elim q, fun e q => False.elim q, fun e q => False.elim q⟩ h'
  exact ⟨c, F', e, R', h2.up e (endsL X.K c F E) (endsL X.K c F' E) ⟨fun e q => q, fun d e q ds p xs σ' F2 H2 ed g2 => q ds p xs σ' F2 H2 ed (g.trans g2), fun e q => q, fun e q => q⟩ q⟩
end
section
variable {P : Program} {w : World} {K : PySem.W.Frag} {mg : Str → Option Value} {base : Heap}
theorem okL {x : Str} {st : Stmt} {N ps : List Str} {k : Nat} {S : FL} (F : FunAt K mg x st ps) (Sc : FnScope N ps (defScope st)) (hl : ∀ ds Q, S ds Q → ds.length = ps.length)
    (hb : ∀ (f : Addr) (cdv : Value) (A : Around) (outer : List Env) (s : Shared) (H : Hp) (E : XK), Room k (A.deeper (envOfC x (defScope st) s.heap.objs.size f cdv)) →
      ∃ t, PLsd (cxOf CX0 P w K mg base N x (defScope st) f cdv A outer s H E).nox (defBody st) t ∧ ∀ ds Q, S ds Q → t { nx := fun _ => False, rt := fun d _ => ∃ rs, d = .list rs ∧ Q rs } (startD N.length ds)) :
    OkAt P w K mg base x ps (k + 1) (spL K S) := by
  obtain ⟨f, fd, F, hm, hb'⟩ := F
  refine ⟨f, fd, F.ok Sc (fun vs H Q E ⟨F0, ds, e, da, h⟩ => by rw [dpa_len da]; exact hl ds _ h) fun cdv A outer s H vs Q E hr ⟨F0, ds, e, da, h⟩ => ?_, hm, F.kp, hb'⟩
  obtain ⟨t, h1, h2⟩ := hb f cdv A outer s H E hr
  have hlen := dpa_len da
  let c : Cy := ⟨H, F0, fun _ => False, fun a => H a = none⟩
  have R : Rp K c (startD N.length ds) (L2.start N vs) F0 H := by
    refine ⟨e, fun a o q _ _ => q, fun a q => q, fun a o q => ⟨o, q⟩, Ex.refl F0, fun a o q => .inl q, ?_, fun i d q => ?_, fun i l p m q => (start_own q).elim, fun i j l l' p m n q => (start_own q).elim⟩
    · unfold startD L2.start
      rw [List.length_append, List.length_append, List.length_map, List.length_map, List.length_replicate, List.length_replicate, hlen]
    · unfold startD at q
      unfold L2.start
      rw [hlen]
      exact start_get da q
  have fin : ∀ {env' : DEnv} {σ' : L2.St} {F' H' : Hp}, Ex F0 F' → Rp K c env' σ' F' H' → Grow F0 H F' H' := fun {env' σ' F' H'} g R' => ⟨g, fun a o q => R'.base a o q (fun z => z) (fun z => nomatch (q.symm.trans (show H a = none from z))), R'.fh, fun a o q => R'.fb a o q⟩
  refine ⟨_, h1.ps, c, F0, startD N.length ds, R, h1.up (startD N.length ds) { nx := fun _ => False, rt := fun d _ => ∃ rs, d = .list rs ∧ ∀ p xs F' H', Grow F0 H F' H' → H' p = none → DpAll K F' xs rs → Q (.ref p) (upd H' p (.lst xs)) } _ ⟨fun env' q => q, fun d env' ⟨rs, ed, q⟩ ds' p xs σ' F' H' ed' g R' np da => ?_, fun env' q => q.elim, fun env' q => q.elim⟩ (h2 ds _ h)⟩
  obtain rfl := PyData.list.inj (ed.symm.trans ed')
  exact q p xs F' H' (fin g R') np da
end
/-! ### augmented assignments of ints -/
def fOpI (g : Int → Int → Int) : F2 := fun x y Q => match x, y with
  | .int i, .int j => Q (.int (g i j))
  | _, _ => False
theorem up_opI {g : Int → Int → Int} : UpF (fOpI g) := fun x y Q Q' w h => by
  cases x <;> cases y <;> first | exact h.elim | exact w _ h
theorem lk_opI {K : PySem.W.Frag} {g : Int → Int → Int} : Link K (ipI g) (fOpI g) := by
  intro F H v w x y Qd Qr e hv hw hq k
  cases x <;> cases y <;> first | exact hq.elim | skip
  case int.int i j => exact ⟨i, j, dp_int hv, dp_int hw, k _ H F _ (Grow.refl e) (.int _) hq⟩
end PD

namespace PD
open PySem PySem.Spec PyProof.Rows L2
/-! ### loops and comprehensions over told lists, in plain words -/
section
variable {α β : Type} {vs : List Nat} {g : DG} {tt : DT} {te : DE} {tb : DS} {E : EndsD}
theorem rest_same {e1 e2 : DEnv} (h : wipeD e2 vs = wipeD e1 vs) : restD e1 e2 vs = restD e1 e1 vs := by rw [← restD_wipe (env2 := e2), h, restD_wipe]
theorem comp_gen (enc : α → D) (p : α → Bool) (f : α → D) {env0 : DEnv} {Q : List D → DEnv → Prop} : ∀ (L : List α) (e : DEnv), wipeD e vs = env0 →
    (∀ a ∈ L, ∀ (K : D → DEnv → Prop) (K0 : DEnv → Prop), (p a = true → ∀ e', wipeD e' vs = env0 → K (f a) e') → (p a = false → ∀ e', wipeD e' vs = env0 → K0 e') → g (enc a) env0 fun e1 => tt e1 fun b e2 => if b = true then te e2 K else K0 e2) →
    (∀ e', wipeD e' vs = env0 → Q ((L.filter p).map f) e') → compD vs g tt te (L.map enc) e Q
  | [], e, hw, _, hq => hq e hw
  | a :: L, e, hw, hi, hq => by
    show g (enc a) (wipeD e vs) _
    rw [hw]
    refine hi a (by simp) (fun y e3 => compD vs g tt te (L.map enc) e3 fun ys e4 => Q (y :: ys) e4) (fun e2 => compD vs g tt te (L.map enc) e2 Q) (fun hp e' he => ?_) fun hp e' he => ?_
    · refine comp_gen enc p f L e' he (fun b hb => hi b (List.mem_cons_of_mem _ hb)) fun e4 h4 => ?_
      have z := hq e4 h4
      rw [List.filter_cons, if_pos hp] at z
      exact z
    · refine comp_gen enc p f L e' he (fun b hb => hi b (List.mem_cons_of_mem _ hb)) fun e4 h4 => ?_
      have z := hq e4 h4
      rw [List.filter_cons, if_neg (by rw [hp]; exact Bool.false_ne_true)] at z
      exact z
/-- [f a for a in L if p a] -/
theorem comp_if (enc : α → D) (p : α → Bool) (f : α → D) (L : List α) {ds : List D} {E1 : DEnv} {Q : List D → DEnv → Prop} (hd : ds = L.map enc)
    (hi : ∀ a ∈ L, ∀ (K : D → DEnv → Prop) (K0 : DEnv → Prop), (p a = true → ∀ e', wipeD e' vs = wipeD E1 vs → K (f a) e') → (p a = false → ∀ e', wipeD e' vs = wipeD E1 vs → K0 e') → g (enc a) (wipeD E1 vs) fun e1 => tt e1 fun b e2 => if b = true then te e2 K else K0 e2)
    (hq : ∀ e2, restD E1 e2 vs = restD E1 E1 vs → Q ((L.filter p).map f) e2) : compD vs g tt te ds E1 Q := by
  subst hd
  exact comp_gen enc p f L E1 rfl hi fun e' h => hq e' (rest_same h)
/-- [f a for a in L] -/
theorem comp_all (enc : α → D) (f : α → D) (L : List α) {ds : List D} {E1 : DEnv} {Q : List D → DEnv → Prop} (hd : ds = L.map enc)
    (hi : ∀ a ∈ L, ∀ K : D → DEnv → Prop, (∀ e', wipeD e' vs = wipeD E1 vs → K (f a) e') → g (enc a) (wipeD E1 vs) fun e1 => te e1 K)
    (hq : ∀ e2, restD E1 e2 vs = restD E1 E1 vs → Q (L.map f) e2) : compD vs g dYes te ds E1 Q := by
  refine comp_if enc (fun _ => true) f L hd (fun a ha K K0 h _ => ?_) fun e2 h => by rw [List.filter_eq_self.mpr fun _ _ => rfl]; exact hq e2 h
  have z := hi a ha K (h rfl)
  exact z
/-- for a in L: I by what is still to come -/
theorem for_all (enc : α → D) (I : List α → DEnv → Prop) : ∀ (L : List α) (env : DEnv), I L env →
    (∀ a r e, I (a :: r) e → ∀ N : DEnv → Prop, (∀ e', I r e' → N e') → g (enc a) e fun e1 => tb { nx := N, rt := E.rt, bk := E.nx, ct := N } e1) → (∀ e, I [] e → E.nx e) → forD g tb E (L.map enc) env
  | [], env, h, _, hd => hd env h
  | a :: L, env, h, hs, hd => hs a L env h _ fun e' h' => for_all enc I L e' h' hs hd
theorem zip_map {enc : α → D} {enc' : β → D} : ∀ (xs : List α) (ys : List β), zipD (xs.map enc) (ys.map enc') = (xs.zip ys).map fun z => PyData.tuple [enc z.1, enc' z.2]
  | [], _ => rfl
  | _ :: _, [] => rfl
  | x :: xs, y :: ys => by
    show _ :: zipD (xs.map enc) (ys.map enc') = _
    rw [zip_map xs ys]
    rfl
theorem rangeD_map {lo c : Int} {n : Nat} : rangeD lo c n = ((List.range n).map fun (i : Nat) => lo + (i : Int) * c).map PyData.int := by
  unfold rangeD
  rw [List.map_map]
  rfl
end
/-! ### promises in plain words -/
theorem upc_of {S : FC} (h : ∀ (ds : List D) (Q Q' : D → Prop), (∀ z, Q z → Q' z) → S ds Q → S ds Q') : UpC S := h
theorem all_map {α : Type} {f : α → Bool} {L : List α} : (L.map f).all id = L.all f := by
  induction L with
  | nil => rfl
  | cons a L ih => rw [List.map_cons, List.all_cons, List.all_cons, ih]; rfl
theorem any_map {α : Type} {f : α → Bool} {L : List α} : (L.map f).any id = L.any f := by
  induction L with
  | nil => rfl
  | cons a L ih => rw [List.map_cons, List.any_cons, List.any_cons, ih]; rfl
/-! ### the operations on data whose kind is known -/
section
variable {i j : Int} {xs ys : List D} {x y : Str} {b : Bool} {Q : D → Prop} {QL : List D → Prop} {lo hi : Option Int}
theorem fAdd_ii : fAdd (.int i) (.int j) Q = Q (.int (i + j)) := rfl
theorem fAdd_tt : fAdd (.tuple xs) (.tuple ys) Q = (xs.length + ys.length ≤ 16777216 ∧ Q (.tuple (xs ++ ys))) := rfl
theorem fAdd_ll : fAdd (.list xs) (.list ys) Q = (xs.length + ys.length ≤ 16777216 ∧ Q (.list (xs ++ ys))) := rfl
theorem fAdd_ss : fAdd (.str x) (.str y) Q = (x.length + y.length ≤ 16777216 ∧ Q (.str (x ++ y))) := rfl
theorem fSub_ii : fSub (.int i) (.int j) Q = Q (.int (i - j)) := rfl
theorem fMul_ii : fMul (.int i) (.int j) Q = ((i.natAbs < 2 ^ 1500 ∧ j.natAbs < 2 ^ 1500) ∧ Q (.int (i * j))) := rfl
theorem fDiv_ii : fDiv (.int i) (.int j) Q = ((0 < j ∧ j.natAbs < 2 ^ 1500) ∧ Q (.int (i / j))) := rfl
theorem fMod_ii : fMod (.int i) (.int j) Q = (0 < j ∧ Q (.int (i % j))) := rfl
theorem fPow_ii : fPow (.int i) (.int j) Q = ((0 ≤ j ∧ j ≤ 1000 ∧ i.natAbs < 2 ^ 1500) ∧ Q (.int (i ^ j.toNat))) := rfl
theorem fNeg_i : fNeg (.int i) Q = Q (.int (-i)) := rfl
theorem fLt_ii : fLt (.int i) (.int j) Q = Q (.bool (decide (i < j))) := rfl
theorem fLe_ii : fLe (.int i) (.int j) Q = Q (.bool (decide (i ≤ j))) := rfl
theorem fGt_ii : fGt (.int i) (.int j) Q = Q (.bool (decide (j < i))) := rfl
theorem fGe_ii : fGe (.int i) (.int j) Q = Q (.bool (decide (j ≤ i))) := rfl
theorem fOpI_ii {g : Int → Int → Int} : fOpI g (.int i) (.int j) Q = Q (.int (g i j)) := rfl
theorem fIx_l : fIx (.list xs) (.int i) Q = ∃ d, atI xs i = some d ∧ Q d := rfl
theorem fIx_t : fIx (.tuple xs) (.int i) Q = ∃ d, atI xs i = some d ∧ Q d := rfl
theorem fSl_l : fSl (.list xs) lo hi Q = Q (.list (cutD xs lo hi)) := rfl
theorem fSl_t : fSl (.tuple xs) lo hi Q = Q (.tuple (cutD xs lo hi)) := rfl
theorem fRev_l : fRev (.list xs) Q = Q (.list xs.reverse) := rfl
theorem fRev_t : fRev (.tuple xs) Q = Q (.tuple xs.reverse) := rfl
theorem cLen_l : cLen [.list xs] Q = Q (.int xs.length) := rfl
theorem cLen_t : cLen [.tuple xs] Q = Q (.int xs.length) := rfl
theorem cLen_s : cLen [.str x] Q = (x.length ≤ 16777216 ∧ Q (.int x.length)) := rfl
theorem cInt_i : cInt [.int i] Q = Q (.int i) := rfl
theorem cInt_b : cInt [.bool b] Q = Q (.int (if b = true then 1 else 0)) := rfl
theorem cAbs_i : cAbs [.int i] Q = Q (.int i.natAbs) := rfl
theorem cMax2_ii : cMax2 [.int i, .int j] Q = Q (.int (max i j)) := rfl
theorem cMin2_ii : cMin2 [.int i, .int j] Q = Q (.int (min i j)) := rfl
theorem cTuple_l : cTuple [.list xs] Q = Q (.tuple xs) := rfl
theorem cTuple_t : cTuple [.tuple xs] Q = Q (.tuple xs) := rfl
theorem cList_l : cList [.list xs] QL = QL xs := rfl
theorem cList_t : cList [.tuple xs] QL = QL xs := rfl
theorem fIsN_i : fIsN (.int i) Q = Q (.bool false) := rfl
theorem fIsN_n : fIsN .none Q = Q (.bool true) := rfl
theorem fIsN_t : fIsN (.tuple xs) Q = Q (.bool false) := rfl
theorem fNotN_i : fNotN (.int i) Q = Q (.bool true) := rfl
theorem fNotN_n : fNotN .none Q = Q (.bool false) := rfl
theorem fNotN_t : fNotN (.tuple xs) Q = Q (.bool true) := rfl
/-- sum(ints) -/
theorem cSum_of {ns : List Int} {ds : List D} (h : ds = ns.map PyData.int) (q : Q (.int ns.sum)) : cSum [.list ds] Q := ⟨ns, by rw [h], q⟩
theorem cAll_of {ns : List Bool} {ds : List D} (h : ds = ns.map PyData.bool) (q : Q (.bool (ns.all id))) : cAll [.list ds] Q := ⟨ns, by rw [h], q⟩
theorem cAny_of {ns : List Bool} {ds : List D} (h : ds = ns.map PyData.bool) (q : Q (.bool (ns.any id))) : cAny [.list ds] Q := ⟨ns, by rw [h], q⟩
end
/-! ### == and min of data with a Lean type -/
section
open PySem.W
variable {α : Type} [DecidableEq α] [Datum α] {Q : D → Prop}
theorem fEq_datum (x y : α) (h : Datum.depth α ≤ 64) : fEq (Datum.toD x) (Datum.toD y) Q = Q (.bool (decide (x = y))) := by
  unfold fEq
  rw [Datum.eqv]
  exact propext ⟨fun h => h.2, fun q => ⟨.inl (Nat.le_trans (Datum.depth_le x) h), q⟩⟩
theorem fNe_datum (x y : α) (h : Datum.depth α ≤ 64) : fNe (Datum.toD x) (Datum.toD y) Q = Q (.bool (!decide (x = y))) := by
  unfold fNe
  rw [Datum.eqv]
  exact propext ⟨fun h => h.2, fun q => ⟨.inl (Nat.le_trans (Datum.depth_le x) h), q⟩⟩
theorem fEq_int {i j : Int} : fEq (.int i) (.int j) Q = Q (.bool (decide (i = j))) := fEq_datum i j (by decide)
theorem fNe_int {i j : Int} : fNe (.int i) (.int j) Q = Q (.bool (!decide (i = j))) := fNe_datum i j (by decide)
theorem fEq_str {i j : Str} : fEq (.str i) (.str j) Q = Q (.bool (decide (i = j))) := fEq_datum i j (by decide)
theorem fNe_str {i j : Str} : fNe (.str i) (.str j) Q = Q (.bool (!decide (i = j))) := fNe_datum i j (by decide)
theorem fEq_pair {a b c d : Int} : fEq (.tuple [.int a, .int b]) (.tuple [.int c, .int d]) Q = Q (.bool (decide ((a, b) = (c, d)))) := fEq_datum (a, b) (c, d) (by decide)
theorem fNe_pair {a b c d : Int} : fNe (.tuple [.int a, .int b]) (.tuple [.int c, .int d]) Q = Q (.bool (!decide ((a, b) = (c, d)))) := fNe_datum (a, b) (c, d) (by decide)
/-- xs == [] -/
theorem fEq_nil {xs : List D} : fEq (.list xs) (.list []) Q = Q (.bool xs.isEmpty) := by
  unfold fEq
  have e : PyData.eqv (.list xs) (.list []) = xs.isEmpty := by cases xs <;> simp [PyData.eqv, PyData.eqvAll]
  rw [e]
  exact propext ⟨fun h => h.2, fun q => ⟨.inr (by simp [PyData.depth, PyData.depthAll]), q⟩⟩
theorem fNe_nil {xs : List D} : fNe (.list xs) (.list []) Q = Q (.bool !xs.isEmpty) := by
  unfold fNe
  have e : PyData.eqv (.list xs) (.list []) = xs.isEmpty := by cases xs <;> simp [PyData.eqv, PyData.eqvAll]
  rw [e]
  exact propext ⟨fun h => h.2, fun q => ⟨.inr (by simp [PyData.depth, PyData.depthAll]), q⟩⟩
end
section
open PySem.W
theorem minOf_fst : ∀ (xs : List (Int × Int)) (x : Int × Int), minOf x xs ∈ x :: xs ∧ ∀ y ∈ x :: xs, (minOf x xs).1 ≤ y.1
  | [], x => ⟨List.mem_cons_self .., fun y h => by
    rw [List.mem_singleton.mp h]
    exact Int.le_refl _⟩
  | z :: xs, x => by
    have e : minOf x (z :: xs) = minOf (if DatumOrd.lt z x = true then z else x) xs := rfl
    rw [e]
    have ih := minOf_fst xs (if DatumOrd.lt z x = true then z else x)
    have lt : DatumOrd.lt z x = if z.1 = x.1 then decide (z.2 < x.2) else decide (z.1 < x.1) := rfl
    by_cases h : DatumOrd.lt z x = true
    · rw [if_pos h] at ih ⊢
      refine ⟨List.mem_cons_of_mem _ ih.1, fun y hy => ?_⟩
      rcases List.mem_cons.mp hy with rfl | hy
      · refine Int.le_trans (ih.2 z (List.mem_cons_self ..)) ?_
        rw [lt] at h
        split at h
        · omega
        · have := of_decide_eq_true h
          omega
      · exact ih.2 y hy
    · rw [if_neg h] at ih ⊢
      refine ⟨?_, fun y hy => ?_⟩
      · rcases List.mem_cons.mp ih.1 with q | q
        · rw [q]
          exact List.mem_cons_self ..
        · exact List.mem_cons_of_mem _ (List.mem_cons_of_mem _ q)
      · have hx := ih.2 x (List.mem_cons_self ..)
        rcases List.mem_cons.mp hy with rfl | hy
        · exact hx
        rcases List.mem_cons.mp hy with rfl | hy
        · refine Int.le_trans hx ?_
          rw [lt] at h
          split at h
          · omega
          · have : ¬ (y.1 < x.1) := fun q => h (decide_eq_true q)
            omega
        · exact ih.2 y (List.mem_cons_of_mem _ hy)
theorem pair_depth (xs : List (Int × Int)) : PyData.depthAll (xs.map Datum.toD) ≤ 64 := Nat.le_trans (depthAll_map xs) (by decide)
/-- min(pairs), what is known of it -/
theorem min_pairs {xs : List (Int × Int)} {f : Int × Int → D} {Q : D → Prop} (hf : ∀ a, f a = .tuple [.int a.1, .int a.2]) (hne : xs ≠ []) (h : ∀ m ∈ xs, (∀ y ∈ xs, m.1 ≤ y.1) → Q (.tuple [.int m.1, .int m.2])) : cMinL [.list (xs.map f)] Q := by
  have ef : f = fun a => Datum.toD a := by
    funext a
    exact hf a
  subst ef
  cases xs with
  | nil => exact absurd rfl hne
  | cons x xs =>
    have ih := minOf_fst xs x
    refine ⟨alikeAll_datum (x :: xs), pair_depth (x :: xs), ?_⟩
    show Q (minD (Datum.toD x) (xs.map Datum.toD))
    rw [minD_map]
    exact h _ ih.1 ih.2
theorem foldl_min : ∀ (ns : List Int) (n : Int), ns.foldl min n ∈ n :: ns ∧ ∀ y ∈ n :: ns, ns.foldl min n ≤ y
  | [], n => ⟨List.mem_cons_self .., fun y h => by
    rw [List.mem_singleton.mp h]
    exact Int.le_refl _⟩
  | m :: ns, n => by
    have ih := foldl_min ns (min n m)
    rw [List.foldl_cons]
    refine ⟨?_, fun y hy => ?_⟩
    · rcases List.mem_cons.mp ih.1 with q | q
      · rw [q]
        rcases Int.le_total n m with z | z
        · rw [Int.min_eq_left z]
          exact List.mem_cons_self ..
        · rw [Int.min_eq_right z]
          exact List.mem_cons_of_mem _ (List.mem_cons_self ..)
      · exact List.mem_cons_of_mem _ (List.mem_cons_of_mem _ q)
    · have hx := ih.2 _ (List.mem_cons_self ..)
      rcases List.mem_cons.mp hy with rfl | hy
      · omega
      rcases List.mem_cons.mp hy with rfl | hy
      · omega
      · exact ih.2 y (List.mem_cons_of_mem _ hy)
/-- min(ints), what is known of it -/
theorem min_ints {xs : List Int} {Q : D → Prop} (hne : xs ≠ []) (h : ∀ m ∈ xs, (∀ y ∈ xs, m ≤ y) → Q (.int m)) : cMinL [.list (xs.map PyData.int)] Q := by
  cases xs with
  | nil => exact absurd rfl hne
  | cons x xs =>
    have ih := foldl_min xs x
    refine ⟨alikeAll_datum (x :: xs), Nat.le_trans (depthAll_map (x :: xs)) (by decide), ?_⟩
    show Q (minD (.int x) (xs.map PyData.int))
    rw [minD_ints]
    exact h _ ih.1 ih.2
end
/-- a promise told by what is known of the answer -/
def SpC (R : List D → (D → Prop) → Prop) : FC := fun ds Q => ∃ P, R ds P ∧ ∀ d, P d → Q d
def SpL (R : List D → (List D → Prop) → Prop) : FL := fun ds Q => ∃ P, R ds P ∧ ∀ d, P d → Q d
def SpM (R : Ob → List D → (D → Ob → Prop) → Prop) : FM := fun m ds Q => ∃ P, R m ds P ∧ ∀ d m', P d m' → Q d m'
theorem up_SpC {R} : UpC (SpC R) := fun ds Q Q' w ⟨P, h, q⟩ => ⟨P, h, fun d p => w d (q d p)⟩
theorem up_SpL {R} : UpL (SpL R) := fun ds Q Q' w ⟨P, h, q⟩ => ⟨P, h, fun d p => w d (q d p)⟩
theorem up_SpM {R} : UpM (SpM R) := fun m ds Q Q' w ⟨P, h, q⟩ => ⟨P, h, fun d m' p => w d m' (q d m' p)⟩
theorem atI_at {α : Type} {l : List α} {i : Nat} : atI l (i : Int) = l[i]? := by
  unfold atI ixN
  by_cases h : (i : Int) < l.length
  · rw [if_pos (by omega), if_pos h]
    simp
  · rw [if_pos (by omega), if_neg h, List.getElem?_eq_none (by omega)]
    rfl
theorem atI_1 {α : Type} {a b : α} {l : List α} : atI (a :: b :: l) 1 = some b := atI_at (i := 1)
theorem atI_2 {α : Type} {a b c : α} {l : List α} : atI (a :: b :: c :: l) 2 = some c := atI_at (i := 2)
theorem ixN_0 {n : Nat} : ixN (n + 1) 0 = some 0 := by
  unfold ixN
  rw [if_pos (by omega), if_pos (by omega)]
  rfl
theorem ixN_2 {n : Nat} : ixN (n + 3) 2 = some 2 := by
  unfold ixN
  rw [if_pos (by omega), if_pos (by omega)]
  rfl
theorem ixN_1 {n : Nat} : ixN (n + 2) 1 = some 1 := by
  unfold ixN
  rw [if_pos (by omega), if_pos (by omega)]
  rfl
theorem atI_0 {α : Type} {a : α} {l : List α} : atI (a :: l) 0 = some a := by
  unfold atI ixN
  simp
end PD
namespace PD
theorem nodup_le {α : Type} [DecidableEq α] : ∀ {xs ys : List α}, xs.Pairwise (· ≠ ·) → (∀ k ∈ xs, k ∈ ys) → xs.length ≤ ys.length
  | [], _, _, _ => Nat.zero_le _
  | x :: xs, ys, hp, h => by
    have hx := h x (List.mem_cons_self ..)
    have p := List.pairwise_cons.mp hp
    have z := nodup_le (ys := ys.erase x) p.2 fun k hk => (List.mem_erase_of_ne (fun e => p.1 k hk e.symm)).mpr (h k (List.mem_cons_of_mem _ hk))
    rw [List.length_erase_of_mem hx] at z
    have := List.length_pos_of_mem hx
    simp only [List.length_cons]
    omega
end PD
namespace PD
theorem restD_c {e1 e2 : DEnv} {s : Sl} {v : Nat} {vs : List Nat} : restD e1 (s :: e2) (v :: vs) = (restD e1 (s :: e2) vs).set v (keepD e1[v]?) := rfl
theorem restD_n {e1 e2 : DEnv} {s : Sl} : restD e1 (s :: e2) [] = s :: e2 := rfl
theorem wipeD_c {e2 : DEnv} {s : Sl} {v : Nat} {vs : List Nat} : wipeD (s :: e2) (v :: vs) = (wipeD (s :: e2) vs).set v .no := rfl
theorem wipeD_n {e2 : DEnv} {s : Sl} : wipeD (s :: e2) [] = s :: e2 := rfl
theorem keepD_d {d : D} : keepD (some (.dt d)) = .dt d := rfl
theorem keepD_n : keepD (some .no) = .no := rfl
theorem keepD_o {l p m} : keepD (some (.ow l p m)) = .no := rfl
end PD
namespace PD
open PySem PySem.Spec PyProof.Rows L2
theorem cutD_take {xs : List D} {k : Nat} : PD.cutD xs none (some (k : Int)) = xs.take k := by
  unfold PD.cutD
  rw [HT.sIx_none, HT.sIx_nat, List.drop_zero, Nat.sub_zero, ← List.take_take, List.take_length]
theorem cutD_drop {xs : List D} {k : Nat} : PD.cutD xs (some (k : Int)) none = xs.drop k := by
  unfold PD.cutD
  rw [HT.sIx_none, HT.sIx_nat, List.take_of_length_le (by rw [List.length_drop]; exact Nat.le_refl _)]
  by_cases h : k ≤ xs.length
  · rw [Nat.min_eq_left h]
  · rw [Nat.min_eq_right (by omega), List.drop_of_length_le (Nat.le_refl _), List.drop_of_length_le (by omega)]
end PD
namespace PD
section
variable {α : Type} {vs : List Nat} {g : DG} {tt : DT} {te : DE}
/-- a comprehension whose parts change what is owned: I by what is still to come, what is made -/
theorem comp_inv (enc : α → D) (I : List α → List D → DEnv → Prop) {ds : List D} (L : List α) {E1 : DEnv} {Q : List D → DEnv → Prop} (hd : ds = L.map enc) (h0 : I L [] E1)
    (hs : ∀ a r ys e, I (a :: r) ys e → ∀ (K : D → DEnv → Prop) (K0 : DEnv → Prop), (∀ y e', I r (ys ++ [y]) e' → K y e') → (∀ e', I r ys e' → K0 e') → g (enc a) (wipeD e vs) fun e1 => tt e1 fun b e2 => if b = true then te e2 K else K0 e2)
    (hq : ∀ ys e, I [] ys e → Q ys e) : compD vs g tt te ds E1 Q := by
  subst hd
  have main : ∀ (L : List α) (e : DEnv) (ys0 : List D), I L ys0 e → compD vs g tt te (L.map enc) e fun ys e' => Q (ys0 ++ ys) e' := by
    intro L
    induction L with
    | nil =>
      intro e ys0 h
      show Q (ys0 ++ []) e
      rw [List.append_nil]
      exact hq _ _ h
    | cons a r ih =>
      intro e ys0 h
      refine hs a r ys0 e h _ _ (fun y e' h' => ?_) fun e' h' => ih e' ys0 h'
      have z := ih e' (ys0 ++ [y]) h'
      simp only [List.append_assoc, List.singleton_append] at z
      exact z
  exact main L E1 [] h0
end
/-- (a text,) != (a text,) -/
theorem fNe_str1 {a b : PySem.Str} {Q : D → Prop} : fNe (.tuple [.str a]) (.tuple [.str b]) Q = Q (.bool (!decide (a = b))) := by
  unfold fNe
  have e : PySem.PyData.eqv (.tuple [.str a]) (.tuple [.str b]) = decide (a = b) := by
    simp only [PySem.PyData.eqv, PySem.PyData.eqvAll, Bool.and_true]
    by_cases h : a = b <;> simp [h]
  rw [e]
  exact propext ⟨fun h => h.2, fun q => ⟨.inl (by simp [PySem.PyData.depth, PySem.PyData.depthAll]), q⟩⟩
end PD

namespace K21
open PySem PySem.Spec PyProof.Rows L2 PD
def topS (i : Nat) : Stmt := PySem.Challenge.pw_eachtheirown_k21_whole_courses_turned_ab.main.body.getD i (.Pass ⟨0, 0, 0, 0⟩)
structure Tx (mg : Str → Option Value) : Prop where
  bool : mg "bool" = none
  isinstance : mg "isinstance" = none
  int : mg "int" = none
  all : mg "all" = none
  tuple : mg "tuple" = none
  len : mg "len" = none
  zip : mg "zip" = none
  sorted : mg "sorted" = none
  set : mg "set" = none
  sum : mg "sum" = none
  min : mg "min" = none
  max : mg "max" = none
  abs : mg "abs" = none
  list : mg "list" = none
  range : mg "range" = none
  any : mg "any" = none
  c_MOST_MONEY : ∃ t, mg "MOST_MONEY" = some (.int 1000000000 t)
  c_MOST_DAY : ∃ t, mg "MOST_DAY" = some (.int 10000 t)
  c_MOST_FLOWS : ∃ t, mg "MOST_FLOWS" = some (.int 60 t)
  c_COURSE : ∃ t, mg "COURSE" = some (.str "course" t)
  c_NEVER : ∃ t, mg "NEVER" = some (.str "never" t)
  c_DAY : ∃ t, mg "DAY" = some (.str "day" t)
abbrev s_is_int : Stmt := topS 5
abbrev N_is_int : List Str := ["value", "low", "high"]
abbrev p_is_int : List Str := ["value", "low", "high"]
theorem sc_is_int : FnScope N_is_int p_is_int (defScope s_is_int) := ⟨rfl, rfl, rfl, by decide +kernel, rfl, by decide +kernel, by decide +kernel⟩
abbrev s_are_ints : Stmt := topS 6
abbrev N_are_ints : List Str := ["value", "low", "high", "one"]
abbrev p_are_ints : List Str := ["value", "low", "high"]
theorem sc_are_ints : FnScope N_are_ints p_are_ints (defScope s_are_ints) := ⟨rfl, rfl, rfl, by decide +kernel, rfl, by decide +kernel, by decide +kernel⟩
abbrev s_is_flow : Stmt := topS 14
abbrev N_is_flow : List Str := ["value"]
abbrev p_is_flow : List Str := ["value"]
theorem sc_is_flow : FnScope N_is_flow p_is_flow (defScope s_is_flow) := ⟨rfl, rfl, rfl, by decide +kernel, rfl, by decide +kernel, by decide +kernel⟩
abbrev s_are_flows : Stmt := topS 15
abbrev N_are_flows : List Str := ["value", "one"]
abbrev p_are_flows : List Str := ["value"]
theorem sc_are_flows : FnScope N_are_flows p_are_flows (defScope s_are_flows) := ⟨rfl, rfl, rfl, by decide +kernel, rfl, by decide +kernel, by decide +kernel⟩
abbrev s_look_at_flows : Stmt := topS 16
abbrev N_look_at_flows : List Str := ["cash", "flows"]
abbrev p_look_at_flows : List Str := ["cash", "flows"]
theorem sc_look_at_flows : FnScope N_look_at_flows p_look_at_flows (defScope s_look_at_flows) := ⟨rfl, rfl, rfl, by decide +kernel, rfl, by decide +kernel, by decide +kernel⟩
abbrev s_is_course : Stmt := topS 17
abbrev N_is_course : List Str := ["flows", "value", "flow", "day"]
abbrev p_is_course : List Str := ["flows", "value"]
theorem sc_is_course : FnScope N_is_course p_is_course (defScope s_is_course) := ⟨rfl, rfl, rfl, by decide +kernel, rfl, by decide +kernel, by decide +kernel⟩
abbrev s_told_lows : Stmt := topS 18
abbrev N_told_lows : List Str := ["flows", "days", "found", "here", "came", "flow", "day"]
abbrev p_told_lows : List Str := ["flows", "days"]
theorem sc_told_lows : FnScope N_told_lows p_told_lows (defScope s_told_lows) := ⟨rfl, rfl, rfl, by decide +kernel, rfl, by decide +kernel, by decide +kernel⟩
abbrev s_lows_of : Stmt := topS 19
abbrev N_lows_of : List Str := ["cash", "flows", "days", "day", "money"]
abbrev p_lows_of : List Str := ["cash", "flows", "days"]
theorem sc_lows_of : FnScope N_lows_of p_lows_of (defScope s_lows_of) := ⟨rfl, rfl, rfl, by decide +kernel, rfl, by decide +kernel, by decide +kernel⟩
abbrev s_told_worst : Stmt := topS 20
abbrev N_told_worst : List Str := ["flows", "first", "last", "money"]
abbrev p_told_worst : List Str := ["flows"]
theorem sc_told_worst : FnScope N_told_worst p_told_worst (defScope s_told_worst) := ⟨rfl, rfl, rfl, by decide +kernel, rfl, by decide +kernel, by decide +kernel⟩
abbrev s_told_best : Stmt := topS 24
abbrev N_told_best : List Str := ["flows", "first", "last", "money"]
abbrev p_told_best : List Str := ["flows"]
theorem sc_told_best : FnScope N_told_best p_told_best (defScope s_told_best) := ⟨rfl, rfl, rfl, by decide +kernel, rfl, by decide +kernel, by decide +kernel⟩
abbrev s_told_least : Stmt := topS 21
abbrev N_told_least : List Str := ["flows", "lows", "day", "money"]
abbrev p_told_least : List Str := ["flows"]
theorem sc_told_least : FnScope N_told_least p_told_least (defScope s_told_least) := ⟨rfl, rfl, rfl, by decide +kernel, rfl, by decide +kernel, by decide +kernel⟩
abbrev s_never_short : Stmt := topS 22
abbrev N_never_short : List Str := ["cash", "flows", "least", "day"]
abbrev p_never_short : List Str := ["cash", "flows"]
theorem sc_never_short : FnScope N_never_short p_never_short (defScope s_never_short) := ⟨rfl, rfl, rfl, by decide +kernel, rfl, by decide +kernel, by decide +kernel⟩
abbrev s_cash_needed : Stmt := topS 23
abbrev N_cash_needed : List Str := ["flows"]
abbrev p_cash_needed : List Str := ["flows"]
theorem sc_cash_needed : FnScope N_cash_needed p_cash_needed (defScope s_cash_needed) := ⟨rfl, rfl, rfl, by decide +kernel, rfl, by decide +kernel, by decide +kernel⟩
abbrev s_can_do : Stmt := topS 25
abbrev N_can_do : List Str := ["cash", "flows", "days", "short", "day", "money"]
abbrev p_can_do : List Str := ["cash", "flows"]
theorem sc_can_do : FnScope N_can_do p_can_do (defScope s_can_do) := ⟨rfl, rfl, rfl, by decide +kernel, rfl, by decide +kernel, by decide +kernel⟩
abbrev s_least_to_start : Stmt := topS 26
abbrev N_least_to_start : List Str := ["flows", "lows", "day", "money"]
abbrev p_least_to_start : List Str := ["flows"]
theorem sc_least_to_start : FnScope N_least_to_start p_least_to_start (defScope s_least_to_start) := ⟨rfl, rfl, rfl, by decide +kernel, rfl, by decide +kernel, by decide +kernel⟩
abbrev s_surely_left : Stmt := topS 27
abbrev N_surely_left : List Str := ["cash", "flows", "day", "least", "most", "first", "last", "money"]
abbrev p_surely_left : List Str := ["cash", "flows", "day"]
theorem sc_surely_left : FnScope N_surely_left p_surely_left (defScope s_surely_left) := ⟨rfl, rfl, rfl, by decide +kernel, rfl, by decide +kernel, by decide +kernel⟩
abbrev s__law_take : Stmt := topS 30
abbrev N__law_take : List Str := ["pot", "upto", "digit", "prime", "mixture"]
abbrev p__law_take : List Str := ["pot", "upto"]
theorem sc__law_take : FnScope N__law_take p__law_take (defScope s__law_take) := ⟨rfl, rfl, rfl, by decide +kernel, rfl, by decide +kernel, by decide +kernel⟩
abbrev s__law_of : Stmt := topS 31
abbrev N__law_of : List Str := ["pot", "some"]
abbrev p__law_of : List Str := ["pot", "some"]
theorem sc__law_of : FnScope N__law_of p__law_of (defScope s__law_of) := ⟨rfl, rfl, rfl, by decide +kernel, rfl, by decide +kernel, by decide +kernel⟩
abbrev s__law_cells : Stmt := topS 32
abbrev N__law_cells : List Str := ["script", "most"]
abbrev p__law_cells : List Str := ["script", "most"]
theorem sc__law_cells : FnScope N__law_cells p__law_cells (defScope s__law_cells) := ⟨rfl, rfl, rfl, by decide +kernel, rfl, by decide +kernel, by decide +kernel⟩
abbrev s__law_pot : Stmt := topS 29
abbrev N__law_pot : List Str := ["script", "place", "cell", "own", "small"]
abbrev p__law_pot : List Str := ["script", "place"]
theorem sc__law_pot : FnScope N__law_pot p__law_pot (defScope s__law_pot) := ⟨rfl, rfl, rfl, by decide +kernel, rfl, by decide +kernel, by decide +kernel⟩
abbrev s__law_drawn : Stmt := topS 33
abbrev N__law_drawn : List Str := ["pot", "found", "at", "first", "money"]
abbrev p__law_drawn : List Str := ["pot"]
theorem sc__law_drawn : FnScope N__law_drawn p__law_drawn (defScope s__law_drawn) := ⟨rfl, rfl, rfl, by decide +kernel, rfl, by decide +kernel, by decide +kernel⟩
abbrev s__law_narrowed : Stmt := topS 34
abbrev N__law_narrowed : List Str := ["pot", "flows", "found", "first", "last", "money", "begin"]
abbrev p__law_narrowed : List Str := ["pot", "flows"]
theorem sc__law_narrowed : FnScope N__law_narrowed p__law_narrowed (defScope s__law_narrowed) := ⟨rfl, rfl, rfl, by decide +kernel, rfl, by decide +kernel, by decide +kernel⟩
abbrev s__law_right : Stmt := topS 35
abbrev N__law_right : List Str := ["pot", "lap", "flows", "most", "least", "later", "narrow", "day", "wide", "small", "days", "sure", "low", "end", "back", "first", "last", "money", "one", "cash"]
abbrev p__law_right : List Str := ["pot"]
theorem sc__law_right : FnScope N__law_right p__law_right (defScope s__law_right) := ⟨rfl, rfl, rfl, by decide +kernel, rfl, by decide +kernel, by decide +kernel⟩
abbrev s_law : Stmt := topS 36
abbrev N_law : List Str := ["script", "place"]
abbrev p_law : List Str := ["script"]
theorem sc_law : FnScope N_law p_law (defScope s_law) := ⟨rfl, rfl, rfl, by decide +kernel, rfl, by decide +kernel, by decide +kernel⟩
section
variable {P : Program} {w : World} {K : PySem.W.Frag} {mg : Str → Option Value} {base : Heap}

/-! plain words -/
abbrev Fl := Int × Int × Int
def lowAt (fs : List Fl) (ds : List Int) (t : Int) : Int :=
  (((fs.zip ds).filter fun z => decide (0 < z.1.2.2) && decide (z.2 < t)).map fun z => z.1.2.2).sum + (((fs.zip ds).filter fun z => decide (z.1.2.2 < 0) && decide (z.2 ≤ t)).map fun z => z.1.2.2).sum
def worst (f : Fl) : Int := if f.2.2 < 0 then f.1 else f.2.1
def best (f : Fl) : Int := if f.2.2 < 0 then f.2.1 else f.1
def DrOk (f : Fl) : Prop := 0 ≤ f.1 ∧ f.1 < 200 ∧ f.1 ≤ f.2.1 ∧ f.2.1 ≤ f.1 + 39 ∧ f.2.2 ≠ 0 ∧ -1000000 ≤ f.2.2 ∧ f.2.2 ≤ 1000000
def LeastOf (fs : List Fl) (ds : List Int) (l : Int) : Prop := (fs = [] ∧ l = 0) ∨ (fs ≠ [] ∧ (∃ t ∈ ds, l = lowAt fs ds t) ∧ ∀ t ∈ ds, l ≤ lowAt fs ds t)
def IsLow (fs : List Fl) (ds : List Int) (l : Int) : Prop := l ≤ 0 ∧ (∀ t, l ≤ lowAt fs ds t) ∧ (l = 0 ∨ ∃ t, lowAt fs ds t = l)
def leftLo (fs : List Fl) (day : Int) : Int := (fs.map fun f => if f.2.1 ≤ day then f.2.2 else if f.1 ≤ day then min f.2.2 0 else 0).sum
def leftHi (fs : List Fl) (day : Int) : Int := (fs.map fun f => if f.2.1 ≤ day then f.2.2 else if f.1 ≤ day then max f.2.2 0 else 0).sum
/-- what one flow on its day brings till t -/
def tillC (m d t : Int) : Int := if 0 < m then (if d < t then m else 0) else (if m < 0 then (if d ≤ t then m else 0) else 0)
theorem low_sum (fs : List Fl) (ds : List Int) (t : Int) : lowAt fs ds t = ((fs.zip ds).map fun z => tillC z.1.2.2 z.2 t).sum := by
  unfold lowAt
  induction fs.zip ds with
  | nil => rfl
  | cons z zs ih =>
    rw [List.map_cons, List.sum_cons, ← ih, List.filter_cons, List.filter_cons]
    unfold tillC
    by_cases h1 : 0 < z.1.2.2
    · have h2 : ¬ z.1.2.2 < 0 := by omega
      by_cases h3 : z.2 < t
      · simp [h1, h2, h3]
        omega
      · simp [h1, h2, h3]
    · by_cases h2 : z.1.2.2 < 0
      · by_cases h3 : z.2 ≤ t
        · simp [h1, h2, h3]
          omega
        · simp [h1, h2, h3]
      · simp [h1, h2]
theorem low_map (fs : List Fl) (g : Fl → Int) (t : Int) : lowAt fs (fs.map g) t = (fs.map fun f => tillC f.2.2 (g f) t).sum := by
  rw [low_sum]
  have e : ∀ l : List Fl, l.zip (l.map g) = l.map fun f => (f, g f) := fun l => by
    induction l with
    | nil => rfl
    | cons f l ih => rw [List.map_cons, List.zip_cons_cons, ih, List.map_cons]
  rw [e, List.map_map]
  rfl
theorem sum_le {α : Type} {f g : α → Int} : ∀ {l : List α}, (∀ a ∈ l, f a ≤ g a) → (l.map f).sum ≤ (l.map g).sum
  | [], _ => Int.le_refl _
  | a :: l, h => by
    rw [List.map_cons, List.map_cons, List.sum_cons, List.sum_cons]
    have := h a (List.mem_cons_self ..)
    have := sum_le (l := l) fun b hb => h b (List.mem_cons_of_mem _ hb)
    omega
theorem sum_le2 {α β : Type} {f : α → Int} {g : β → Int} : ∀ {l : List α} {r : List β}, l.length = r.length → (∀ z ∈ l.zip r, f z.1 ≤ g z.2) → (l.map f).sum ≤ (r.map g).sum
  | [], [], _, _ => Int.le_refl _
  | a :: l, b :: r, e, h => by
    rw [List.map_cons, List.map_cons, List.sum_cons, List.sum_cons]
    have := h (a, b) (List.mem_cons_self ..)
    have := sum_le2 (l := l) (r := r) (Nat.succ.inj e) fun z hz => h z (List.mem_cons_of_mem _ hz)
    simp only at *
    omega
  | [], _ :: _, e, _ => by cases e
  | _ :: _, [], e, _ => by cases e
theorem sum_ge {α : Type} {f : α → Int} {c : Int} (hc : 0 ≤ c) : ∀ {l : List α}, (∀ a ∈ l, -c ≤ f a) → -(c * l.length) ≤ (l.map f).sum
  | [], _ => by simp
  | a :: l, h => by
    rw [List.map_cons, List.sum_cons, List.length_cons]
    have := h a (List.mem_cons_self ..)
    have := sum_ge hc (l := l) fun b hb => h b (List.mem_cons_of_mem _ hb)
    have e : c * ((l.length + 1 : Nat) : Int) = c * l.length + c := by
      rw [Int.natCast_add, Int.mul_add]
      simp
    omega
theorem last_upto : ∀ (ds : List Int) (t : Int), (∀ d ∈ ds, t < d) ∨ ∃ t' ∈ ds, t' ≤ t ∧ ∀ d ∈ ds, d ≤ t → d ≤ t'
  | [], t => .inl (by simp)
  | d :: ds, t => by
    rcases last_upto ds t with h | ⟨t', h1, h2, h3⟩
    · by_cases hd : d ≤ t
      · refine .inr ⟨d, List.mem_cons_self .., hd, fun e he hle => ?_⟩
        rcases List.mem_cons.mp he with rfl | he
        · exact Int.le_refl _
        · have := h e he
          omega
      · refine .inl fun e he => ?_
        rcases List.mem_cons.mp he with rfl | he
        · omega
        · exact h e he
    · by_cases hd : d ≤ t ∧ t' ≤ d
      · refine .inr ⟨d, List.mem_cons_self .., hd.1, fun e he hle => ?_⟩
        rcases List.mem_cons.mp he with rfl | he
        · exact Int.le_refl _
        · have := h3 e he hle
          omega
      · refine .inr ⟨t', List.mem_cons_of_mem _ h1, h2, fun e he hle => ?_⟩
        rcases List.mem_cons.mp he with rfl | he
        · omega
        · exact h3 e he hle
theorem low_from (fs : List Fl) (ds : List Int) (t : Int) : lowAt fs ds t = 0 ∨ ∃ t' ∈ ds, lowAt fs ds t' ≤ lowAt fs ds t := by
  rcases last_upto ds t with h | ⟨t', h1, h2, h3⟩
  · refine .inl ?_
    rw [low_sum]
    have : ∀ z ∈ fs.zip ds, tillC z.1.2.2 z.2 t = 0 := fun z hz => by
      have := h z.2 (List.of_mem_zip hz).2
      unfold tillC
      split
      · rw [if_neg (by omega)]
      · split
        · rw [if_neg (by omega)]
        · rfl
    rw [List.map_congr_left this]
    clear h this
    induction fs.zip ds with
    | nil => rfl
    | cons z zs ih => rw [List.map_cons, List.sum_cons, ih]; rfl
  · refine .inr ⟨t', h1, ?_⟩
    rw [low_sum, low_sum]
    refine sum_le fun z hz => ?_
    have := h3 z.2 (List.of_mem_zip hz).2
    unfold tillC
    split
    · split
      · rw [if_pos (by omega)]
        exact Int.le_refl _
      · split <;> omega
    · split
      · split
        · split <;> omega
        · rw [if_neg (by omega)]
          exact Int.le_refl _
      · exact Int.le_refl _
theorem low_lists {fs : List Fl} {ds : List Int} {l : Int} (l0 : l ≤ 0) (h : ∀ t ∈ ds, l ≤ lowAt fs ds t) (t : Int) : l ≤ lowAt fs ds t := by
  rcases low_from fs ds t with e | ⟨t', h1, h2⟩
  · omega
  · have := h t' h1
    omega
theorem low_of_least {fs : List Fl} {g : Fl → Int} {l : Int} (h : LeastOf fs (fs.map g) l) : IsLow fs (fs.map g) (-(max 0 (-l))) := by
  refine ⟨by omega, fun t => ?_, ?_⟩
  · refine low_lists (by omega) (fun t' ht' => ?_) t
    rcases h with ⟨rfl, rfl⟩ | ⟨_, _, h⟩
    · cases ht'
    · have := h t' ht'
      omega
  · rcases h with ⟨rfl, rfl⟩ | ⟨_, ⟨t, _, e⟩, _⟩
    · exact .inl rfl
    · by_cases hl : l ≤ 0
      · exact .inr ⟨t, by omega⟩
      · exact .inl (by omega)
theorem least_le {fs : List Fl} {g : Fl → Int} {l c : Int} (h : LeastOf fs (fs.map g) l) (hc : 0 ≤ c) (ha : ∀ t, 0 ≤ c + lowAt fs (fs.map g) t) : 0 ≤ c + l := by
  rcases h with ⟨rfl, rfl⟩ | ⟨_, ⟨t, _, e⟩, _⟩
  · omega
  · have := ha t
    omega
theorem low_mono {fs gs : List Fl} {ds es : List Int} {l l' : Int} (h : ∀ t, ∃ t', lowAt fs ds t' ≤ lowAt gs es t) (hl : IsLow fs ds l) (hl' : IsLow gs es l') : l ≤ l' := by
  obtain ⟨a1, a2, a3⟩ := hl
  obtain ⟨b1, b2, b3⟩ := hl'
  rcases b3 with rfl | ⟨t, rfl⟩
  · exact a1
  · obtain ⟨t', h⟩ := h t
    exact Int.le_trans (a2 t') h
/-- one function of t, moved: one low -/
theorem low_same {fs gs : List Fl} {ds es : List Int} {l l' c : Int} (h : ∀ t, lowAt gs es (t + c) = lowAt fs ds t) (hl : IsLow fs ds l) (hl' : IsLow gs es l') : l' = l := by
  have h1 := low_mono (fun t => ⟨t - c, Int.le_of_eq (by have := h (t - c); rw [Int.sub_add_cancel] at this; exact this.symm)⟩) hl hl'
  have h2 := low_mono (fun t => ⟨t + c, Int.le_of_eq (h t)⟩) hl' hl
  omega
theorem till_shift {m d t c : Int} : tillC m (d + c) (t + c) = tillC m d t := by
  unfold tillC
  have e1 : (d + c < t + c) = (d < t) := propext ⟨fun h => by omega, fun h => by omega⟩
  have e2 : (d + c ≤ t + c) = (d ≤ t) := propext ⟨fun h => by omega, fun h => by omega⟩
  simp only [e1, e2]
def later (f : Fl) : Fl := (f.1 + 7, f.2.1 + 7, f.2.2)
theorem low_later {fs : List Fl} {g : Fl → Int} (hg : ∀ f, g (later f) = g f + 7) (t : Int) : lowAt (fs.map later) ((fs.map later).map g) (t + 7) = lowAt fs (fs.map g) t := by
  rw [low_map, low_map, List.map_map]
  refine congrArg _ (List.map_congr_left fun f _ => ?_)
  show tillC f.2.2 (g (later f)) (t + 7) = _
  rw [hg, till_shift]
theorem worst_later (f : Fl) : worst (later f) = worst f + 7 := by
  unfold worst later
  simp only
  split <;> rfl
theorem best_later (f : Fl) : best (later f) = best f + 7 := by
  unfold best later
  simp only
  split <;> rfl
theorem low_twice {fs : List Fl} {g : Fl → Int} (t : Int) : lowAt (fs ++ fs) ((fs ++ fs).map g) t = 2 * lowAt fs (fs.map g) t := by
  rw [low_map, low_map, List.map_append, List.sum_append]
  omega
theorem twice_low {fs : List Fl} {g : Fl → Int} {l l' : Int} (h : IsLow fs (fs.map g) l) (h' : IsLow (fs ++ fs) ((fs ++ fs).map g) l') : l' = 2 * l := by
  obtain ⟨a1, a2, a3⟩ := h
  obtain ⟨b1, b2, b3⟩ := h'
  have x1 : 2 * l ≤ l' := by
    rcases b3 with rfl | ⟨t, e⟩
    · omega
    · rw [low_twice] at e
      have := a2 t
      omega
  have x2 : l' ≤ 2 * l := by
    rcases a3 with rfl | ⟨t, e⟩
    · omega
    · have := b2 t
      rw [low_twice] at this
      omega
  omega
theorem sum_rev {l : List Int} : l.reverse.sum = l.sum := by
  induction l with
  | nil => rfl
  | cons a l ih => rw [List.reverse_cons, List.sum_append, ih, List.sum_cons]; simp; omega
theorem low_rev {fs : List Fl} {g : Fl → Int} (t : Int) : lowAt fs.reverse (fs.reverse.map g) (t + 0) = lowAt fs (fs.map g) t := by
  rw [low_map, low_map, List.map_reverse, sum_rev, Int.add_zero]
/-- later days of what comes in, earlier ones of what goes out: never better -/
theorem till_mono {m d d' t : Int} (h : (0 < m → d' ≤ d) ∧ (m < 0 → d ≤ d')) : tillC m d t ≤ tillC m d' t := by
  unfold tillC
  split
  · have := h.1 (by assumption)
    split
    · rw [if_pos (by omega)]
      exact Int.le_refl _
    · split <;> omega
  · split
    · have := h.2 (by assumption)
      split
      · split <;> omega
      · rw [if_neg (by omega)]
        exact Int.le_refl _
    · exact Int.le_refl _
def Narrow (fs gs : List Fl) : Prop := gs.length = fs.length ∧ ∀ z ∈ fs.zip gs, z.1.1 ≤ z.2.1 ∧ z.2.1 ≤ z.2.2.1 ∧ z.2.2.1 ≤ z.1.2.1 ∧ z.2.2.2 = z.1.2.2
theorem narrow_worst {fs gs : List Fl} (h : Narrow fs gs) (t : Int) : lowAt fs (fs.map worst) t ≤ lowAt gs (gs.map worst) t := by
  rw [low_map, low_map]
  refine sum_le2 h.1.symm fun z hz => ?_
  obtain ⟨h1, h2, h3, h4⟩ := h.2 z hz
  rw [h4]
  refine till_mono ⟨fun q => ?_, fun q => ?_⟩
  · unfold worst
    rw [h4, if_neg (by omega), if_neg (by omega)]
    exact h3
  · unfold worst
    rw [h4, if_pos q, if_pos q]
    exact h1
theorem narrow_best {fs gs : List Fl} (h : Narrow fs gs) (t : Int) : lowAt gs (gs.map best) t ≤ lowAt fs (fs.map best) t := by
  rw [low_map, low_map]
  refine sum_le2 (f := fun f => tillC f.2.2 (best f) t) (l := gs) (r := fs) h.1 fun z hz => ?_
  have hz' : (z.2, z.1) ∈ fs.zip gs := by
    obtain ⟨i, hi, e⟩ := List.getElem_of_mem hz
    rw [List.getElem_zip] at e
    subst e
    rw [List.length_zip] at hi
    exact List.mem_iff_getElem.mpr ⟨i, by rw [List.length_zip]; omega, List.getElem_zip⟩
  obtain ⟨h1, h2, h3, h4⟩ := h.2 _ hz'
  simp only at h1 h2 h3 h4 ⊢
  rw [h4]
  refine till_mono ⟨fun q => ?_, fun q => ?_⟩
  · unfold best
    rw [h4, if_neg (by omega), if_neg (by omega)]
    exact h1
  · unfold best
    rw [h4, if_pos q, if_pos q]
    exact h3
def CrsOk (fs : List Fl) (ds : List Int) : Prop := ds.length = fs.length ∧ ∀ z ∈ fs.zip ds, z.1.1 ≤ z.2 ∧ z.2 ≤ z.1.2.1
theorem low_zip (fs : List Fl) (g : Fl → Int) (ds : List Int) (h : ds.length = fs.length) (t : Int) : lowAt fs (fs.map g) t = ((fs.zip ds).map fun z => tillC z.1.2.2 (g z.1) t).sum := by
  rw [low_map]
  have e : fs.map (fun f => tillC f.2.2 (g f) t) = (fs.zip ds).map fun z => tillC z.1.2.2 (g z.1) t := by
    have : ((fs.zip ds).map Prod.fst).map (fun f => tillC f.2.2 (g f) t) = (fs.zip ds).map fun z => tillC z.1.2.2 (g z.1) t := by rw [List.map_map]; rfl
    rw [← this, List.map_fst_zip (by omega)]
  rw [e]
theorem crs_worst {fs : List Fl} {ds : List Int} (h : CrsOk fs ds) (t : Int) : lowAt fs (fs.map worst) t ≤ lowAt fs ds t := by
  rw [low_zip fs worst ds h.1, low_sum]
  refine sum_le fun z hz => till_mono ?_
  obtain ⟨h1, h2⟩ := h.2 z hz
  unfold worst
  exact ⟨fun q => by rw [if_neg (by omega)]; exact h2, fun q => by rw [if_pos q]; exact h1⟩
theorem crs_best {fs : List Fl} {ds : List Int} (h : CrsOk fs ds) (t : Int) : lowAt fs ds t ≤ lowAt fs (fs.map best) t := by
  rw [low_zip fs best ds h.1, low_sum]
  refine sum_le fun z hz => till_mono ?_
  obtain ⟨h1, h2⟩ := h.2 z hz
  unfold best
  exact ⟨fun q => by rw [if_neg (by omega)]; exact h1, fun q => by rw [if_pos q]; exact h2⟩
theorem worst_best {fs : List Fl} (h : ∀ f ∈ fs, f.1 ≤ f.2.1) (t : Int) : lowAt fs (fs.map worst) t ≤ lowAt fs (fs.map best) t := by
  rw [low_map, low_map]
  refine sum_le fun f hf => till_mono ?_
  have := h f hf
  unfold worst best
  exact ⟨fun q => by rw [if_neg (by omega), if_neg (by omega)]; exact this, fun q => by rw [if_pos q, if_pos q]; exact this⟩
/-- flows each on its own day -/
def sureOf (z : Int × Fl) : Fl := (z.1, z.1, z.2.2.2)
theorem low_sure {g : Fl → Int} (hg : ∀ d m, g (d, d, m) = d) : ∀ {fs : List Fl} {ds : List Int}, ds.length = fs.length → ∀ t, lowAt ((ds.zip fs).map sureOf) (((ds.zip fs).map sureOf).map g) (t + 0) = lowAt fs ds t := by
  intro fs ds h t
  rw [low_map, low_sum, List.map_map, Int.add_zero]
  induction fs generalizing ds with
  | nil =>
    cases ds with
    | nil => rfl
    | cons d ds => cases h
  | cons f fs ih =>
    cases ds with
    | nil => cases h
    | cons d ds =>
      simp only [List.zip_cons_cons, List.map_cons, List.sum_cons]
      rw [ih (Nat.succ.inj h)]
      show tillC f.2.2 (g (d, d, f.2.2)) t + _ = _
      rw [hg]
theorem worst_one (d m : Int) : worst (d, d, m) = d := by unfold worst; simp
theorem best_one (d m : Int) : best (d, d, m) = d := by unfold best; simp
theorem left_le {fs : List Fl} {day : Int} : leftLo fs day ≤ leftHi fs day := sum_le fun f _ => by
  split
  · exact Int.le_refl _
  · split <;> omega
theorem narrow_lo {fs gs : List Fl} (h : Narrow fs gs) (day : Int) : leftLo fs day ≤ leftLo gs day := sum_le2 h.1.symm fun z hz => by
  obtain ⟨h1, h2, h3, h4⟩ := h.2 z hz
  rw [h4]
  (repeat' split) <;> omega
theorem narrow_hi {fs gs : List Fl} (h : Narrow fs gs) (day : Int) : leftHi gs day ≤ leftHi fs day := by
  refine sum_le2 (l := gs) (r := fs) h.1 fun z hz => ?_
  have hz' : (z.2, z.1) ∈ fs.zip gs := by
    obtain ⟨i, hi, e⟩ := List.getElem_of_mem hz
    rw [List.getElem_zip] at e
    subst e
    rw [List.length_zip] at hi
    exact List.mem_iff_getElem.mpr ⟨i, by rw [List.length_zip]; omega, List.getElem_zip⟩
  obtain ⟨h1, h2, h3, h4⟩ := h.2 _ hz'
  simp only at h1 h2 h3 h4 ⊢
  rw [h4]
  (repeat' split) <;> omega
def endOf (fs : List Fl) : Int := (fs.map fun f => f.2.2).sum
theorem left_end {fs : List Fl} (h : ∀ f ∈ fs, f.2.1 ≤ 10000) : leftLo fs 10000 = endOf fs ∧ leftHi fs 10000 = endOf fs :=
  ⟨congrArg List.sum (List.map_congr_left fun f hf => if_pos (h f hf)), congrArg List.sum (List.map_congr_left fun f hf => if_pos (h f hf))⟩
def back (f : Fl) : Fl := (300 - f.2.1, 300 - f.1, -f.2.2)
theorem end_back (fs : List Fl) : endOf (fs.map back) = -endOf fs := by
  unfold endOf
  rw [List.map_map]
  induction fs with
  | nil => rfl
  | cons f fs ih =>
    rw [List.map_cons, List.map_cons, List.sum_cons, List.sum_cons, ih]
    show -f.2.2 + _ = _
    omega
theorem low_end {fs : List Fl} {g : Fl → Int} (h : ∀ f ∈ fs, g f < 10001) : lowAt fs (fs.map g) 10001 = endOf fs := by
  rw [low_map]
  refine congrArg List.sum (List.map_congr_left fun f hf => ?_)
  have := h f hf
  unfold tillC
  (repeat' split) <;> omega
theorem till_ge {m d t : Int} (h : -1000000 ≤ m) : -1000000 ≤ tillC m d t := by
  unfold tillC
  (repeat' split) <;> omega
theorem low_big {fs : List Fl} {g : Fl → Int} {l : Int} (h : ∀ f ∈ fs, -1000000 ≤ f.2.2) (hn : fs.length ≤ 60) (hl : IsLow fs (fs.map g) l) : -60000000 ≤ l := by
  rcases hl.2.2 with rfl | ⟨t, rfl⟩
  · decide
  · rw [low_map]
    have := sum_ge (c := 1000000) (by decide) (l := fs) (f := fun f => tillC f.2.2 (g f) t) fun f hf => till_ge (h f hf)
    omega
def encF (f : Fl) : D := .tuple [.int f.1, .int f.2.1, .int f.2.2]
def FlOk (f : Fl) : Prop := 0 ≤ f.1 ∧ f.1 ≤ f.2.1 ∧ f.2.1 ≤ 10000 ∧ -1000000000 ≤ f.2.2 ∧ f.2.2 ≤ 1000000000 ∧ f.2.2 ≠ 0
def FlsOk (fs : List Fl) : Prop := fs.length ≤ 60 ∧ ∀ f ∈ fs, FlOk f
abbrev encFs (fs : List Fl) : D := .tuple (fs.map encF)
def isIntD (v : D) (lo hi : Int) : Bool := match v with | .int i => decide (lo ≤ i) && decide (i ≤ hi) | _ => false
theorem isIntD_i {i lo hi : Int} (h1 : lo ≤ i) (h2 : i ≤ hi) : isIntD (.int i) lo hi = true := by simp [isIntD, h1, h2]

def S_is_int : FC := SpC fun ds_ P_ => ∃ (v : D) (lo hi : Int), ds_ = [v, .int lo, .int hi] ∧ (True) ∧ P_ = fun d => d = .bool (isIntD v lo hi)
theorem up_is_int : UpC S_is_int := up_SpC
theorem use_is_int {v : D} {lo hi : Int} {Q : D → Prop} (pre : True) (h : Q (.bool (isIntD v lo hi))) : S_is_int [v, .int lo, .int hi] Q := ⟨_, ⟨v, lo, hi, rfl, pre, rfl⟩, fun d e => e ▸ h⟩
set_option maxHeartbeats 4000000 in
theorem ok_is_int (T : Tx mg) (F : FunAt K mg "is_int" s_is_int p_is_int)  : OkAt P w K mg base "is_int" p_is_int 1 (spP K S_is_int) := by
  have nd := sc_is_int.nd
  refine okP F sc_is_int (by rintro ds Q ⟨P, ⟨v, lo, hi, rfl, _, _⟩, _⟩; rfl) fun f cdv A outer s H E hr => ⟨_, (ssd_one (sd_ret (ed_and (ed_is cr_isInt PyProof.Rows.boot_int (by rfl) T.int (by rfl) T.isinstance (ed_var (pv 0))) (ed_and (ed_not (ed_is cr_isBool PyProof.Rows.boot_bool (by rfl) T.bool (by rfl) T.isinstance (ed_var (pv 0)))) (ed_one (ed_chain (or_leD (hU hr)) (or_leD (hU hr)) ol_le ol_le up_cmp up_cmp (ed_var (pv 1)) (ed_var (pv 0)) (ed_var (pv 2)))))))), fun ds Q h => ?_⟩
  obtain ⟨P, ⟨v, lo, hi, rfl, pre, rfl⟩, q⟩ := h
  replace q := q _ rfl
  cases v with
  | int i =>
    (try simp only [dSeq, dNext, dRet, dRetN, dIfS, dNever, dAsg, dSetO, dPar, dPar3, dAug, dDrop, dApp, dSetIx, dVar, dC, PD.d2, PD.d1, dCons, dNil, dStar, dTup, dLstN, dLst, dNew, dAnd, dOr, dNot, dIf, dB, bAnd, bOr, bNot, fAdd_ii, fAdd_tt, fAdd_ll, fSub_ii, fMul_ii, fDiv_ii, fMod_ii, fPow_ii, fNeg_i, fLt_ii, fLe_ii, fGt_ii, fGe_ii, fOpI_ii, dIs, dCall, dCallM, dCallMN, lCall, dIxO, dIsN, dNotN, fIsN_i, fIsN_n, fIsN_t, fNotN_i, fNotN_n, fNotN_t, dSl, dNo, dSome, fSl_l, fSl_t, dChain, dChain3, cLen_l, cLen_t, cInt_i, cInt_b, cAbs_i, cMax2_ii, cMin2_ii, cTuple_l, cTuple_t, cList_l, cList_t, gSet, gNilD, gConsD, gTupD, iSeq, PD.iZip, iR1, iR2, dComp, dFor, dSortedSet, dRg1, dRg2, fIx_l, fIx_t, fRev_l, fRev_t, dMove, dBreak, dCont, startD, startM, List.map_cons, List.map_nil, List.length_cons, List.length_nil, List.cons_append, List.nil_append, List.getElem?_cons_zero, List.getElem?_cons_succ, List.set_cons_zero, List.set_cons_succ, Option.some.injEq, Sl.dt.injEq, Sl.ow.injEq, PyData.int.injEq, PyData.bool.injEq, PyData.tuple.injEq, PyData.list.injEq, PyData.str.injEq, exists_eq_left, exists_eq_left', exists_eq_right, true_and, and_true, List.cons.injEq, Ob.lst.injEq, Nat.sub_zero, Nat.reduceAdd, Nat.reduceSub, List.replicate_succ, List.replicate_zero, if_true, if_false, Bool.false_eq_true, if_false, PyData.isInt, PyData.isBool, PyData.isStr, PyData.isTuple, PyData.isList, fEq_int, fNe_int, fEq_str, fNe_str, fEq_pair, fNe_pair, fNe_str1, fEq_nil, fNe_nil, atI_0, atI_1, atI_2, ixN_0, ixN_1, ixN_2, Bool.not_true, Bool.not_false, ite_true, ite_false, reduceCtorEq, ↓reduceIte, exists_and_left, exists_const, and_assoc, or_false, false_or, Nat.zero_le, Int.reduceAdd, Int.reduceNeg, Int.reduceSub, Int.reduceMul, Int.reduceLE, Int.reduceLT, Int.cast_ofNat_Int, decide_true, decide_false, eq_self, Nat.reduceLeDiff, Int.reduceEq])
    by_cases h1 : lo ≤ i
    · rw [if_pos (by simpa using h1)]
      simpa [isIntD, h1] using q
    · rw [if_neg (by simpa using h1)]
      simpa [isIntD, h1] using q
  | _ =>
    (try simp only [dSeq, dNext, dRet, dRetN, dIfS, dNever, dAsg, dSetO, dPar, dPar3, dAug, dDrop, dApp, dSetIx, dVar, dC, PD.d2, PD.d1, dCons, dNil, dStar, dTup, dLstN, dLst, dNew, dAnd, dOr, dNot, dIf, dB, bAnd, bOr, bNot, fAdd_ii, fAdd_tt, fAdd_ll, fSub_ii, fMul_ii, fDiv_ii, fMod_ii, fPow_ii, fNeg_i, fLt_ii, fLe_ii, fGt_ii, fGe_ii, fOpI_ii, dIs, dCall, dCallM, dCallMN, lCall, dIxO, dIsN, dNotN, fIsN_i, fIsN_n, fIsN_t, fNotN_i, fNotN_n, fNotN_t, dSl, dNo, dSome, fSl_l, fSl_t, dChain, dChain3, cLen_l, cLen_t, cInt_i, cInt_b, cAbs_i, cMax2_ii, cMin2_ii, cTuple_l, cTuple_t, cList_l, cList_t, gSet, gNilD, gConsD, gTupD, iSeq, PD.iZip, iR1, iR2, dComp, dFor, dSortedSet, dRg1, dRg2, fIx_l, fIx_t, fRev_l, fRev_t, dMove, dBreak, dCont, startD, startM, List.map_cons, List.map_nil, List.length_cons, List.length_nil, List.cons_append, List.nil_append, List.getElem?_cons_zero, List.getElem?_cons_succ, List.set_cons_zero, List.set_cons_succ, Option.some.injEq, Sl.dt.injEq, Sl.ow.injEq, PyData.int.injEq, PyData.bool.injEq, PyData.tuple.injEq, PyData.list.injEq, PyData.str.injEq, exists_eq_left, exists_eq_left', exists_eq_right, true_and, and_true, List.cons.injEq, Ob.lst.injEq, Nat.sub_zero, Nat.reduceAdd, Nat.reduceSub, List.replicate_succ, List.replicate_zero, if_true, if_false, Bool.false_eq_true, if_false, PyData.isInt, PyData.isBool, PyData.isStr, PyData.isTuple, PyData.isList, fEq_int, fNe_int, fEq_str, fNe_str, fEq_pair, fNe_pair, fNe_str1, fEq_nil, fNe_nil, atI_0, atI_1, atI_2, ixN_0, ixN_1, ixN_2, Bool.not_true, Bool.not_false, ite_true, ite_false, reduceCtorEq, ↓reduceIte, exists_and_left, exists_const, and_assoc, or_false, false_or, Nat.zero_le, Int.reduceAdd, Int.reduceNeg, Int.reduceSub, Int.reduceMul, Int.reduceLE, Int.reduceLT, Int.cast_ofNat_Int, decide_true, decide_false, eq_self, Nat.reduceLeDiff, Int.reduceEq])
    exact q


def S_are_ints : FC := SpC fun ds_ P_ => ∃ (xs : List D) (lo hi : Int), ds_ = [.tuple xs, .int lo, .int hi] ∧ (xs.length ≤ 16777216) ∧ P_ = fun d => d = .bool (xs.all fun x => isIntD x lo hi)
theorem up_are_ints : UpC S_are_ints := up_SpC
theorem use_are_ints {xs : List D} {lo hi : Int} {Q : D → Prop} (pre : xs.length ≤ 16777216) (h : Q (.bool (xs.all fun x => isIntD x lo hi))) : S_are_ints [.tuple xs, .int lo, .int hi] Q := ⟨_, ⟨xs, lo, hi, rfl, pre, rfl⟩, fun d e => e ▸ h⟩
set_option maxHeartbeats 4000000 in
theorem ok_are_ints (T : Tx mg) (F : FunAt K mg "are_ints" s_are_ints p_are_ints) (h_is_int : OkAt P w K mg base "is_int" p_is_int 1 (spP K S_is_int)) : OkAt P w K mg base "are_ints" p_are_ints 2 (spP K S_are_ints) := by
  have nd := sc_are_ints.nd
  refine okP F sc_are_ints (by rintro ds Q ⟨P, ⟨xs, lo, hi, rfl, _, _⟩, _⟩; rfl) fun f cdv A outer s H E hr => ⟨_, (ssd_one (sd_ret (ed_and (ed_is cr_isTuple PyProof.Rows.boot_tuple (by rfl) T.tuple (by rfl) T.isinstance (ed_var (pv 0))) (ed_one (ed_call (fun h => pe_callB (cr_all rfl) (by rfl) T.all PyProof.Rows.boot_all h) lk_all up_all (ad_cons (ed_new (ld_comp (own := [("one", 3)]) rfl nd (id_seq (ed_var (pv 0))) (blkOk_by (N := N_are_ints) (sc := defScope s_are_ints) (by decide +kernel)) (by decide) (fun _ _ _ _ _ => (gd_name (pg_name (i := 3) nd rfl (by first | exact Or.inl rfl | exact Or.inr rfl)))) (fun _ _ _ _ _ => tsd_nil) (fun _ _ _ _ _ => (ed_fnA h_is_int up_is_int hr (by rfl) (ad_cons (ed_var (pv 3)) (ad_cons (ed_var (pv 1)) (ad_cons (ed_var (pv 2)) ad_nil))))) s)) ad_nil)))))), fun ds Q h => ?_⟩
  obtain ⟨P, ⟨xs, lo, hi, rfl, pre, rfl⟩, q⟩ := h
  replace q := q _ rfl
  (try simp only [dSeq, dNext, dRet, dRetN, dIfS, dNever, dAsg, dSetO, dPar, dPar3, dAug, dDrop, dApp, dSetIx, dVar, dC, PD.d2, PD.d1, dCons, dNil, dStar, dTup, dLstN, dLst, dNew, dAnd, dOr, dNot, dIf, dB, bAnd, bOr, bNot, fAdd_ii, fAdd_tt, fAdd_ll, fSub_ii, fMul_ii, fDiv_ii, fMod_ii, fPow_ii, fNeg_i, fLt_ii, fLe_ii, fGt_ii, fGe_ii, fOpI_ii, dIs, dCall, dCallM, dCallMN, lCall, dIxO, dIsN, dNotN, fIsN_i, fIsN_n, fIsN_t, fNotN_i, fNotN_n, fNotN_t, dSl, dNo, dSome, fSl_l, fSl_t, dChain, dChain3, cLen_l, cLen_t, cInt_i, cInt_b, cAbs_i, cMax2_ii, cMin2_ii, cTuple_l, cTuple_t, cList_l, cList_t, gSet, gNilD, gConsD, gTupD, iSeq, PD.iZip, iR1, iR2, dComp, dFor, dSortedSet, dRg1, dRg2, fIx_l, fIx_t, fRev_l, fRev_t, dMove, dBreak, dCont, startD, startM, List.map_cons, List.map_nil, List.length_cons, List.length_nil, List.cons_append, List.nil_append, List.getElem?_cons_zero, List.getElem?_cons_succ, List.set_cons_zero, List.set_cons_succ, Option.some.injEq, Sl.dt.injEq, Sl.ow.injEq, PyData.int.injEq, PyData.bool.injEq, PyData.tuple.injEq, PyData.list.injEq, PyData.str.injEq, exists_eq_left, exists_eq_left', exists_eq_right, true_and, and_true, List.cons.injEq, Ob.lst.injEq, Nat.sub_zero, Nat.reduceAdd, Nat.reduceSub, List.replicate_succ, List.replicate_zero, if_true, if_false, Bool.false_eq_true, if_false, PyData.isInt, PyData.isBool, PyData.isStr, PyData.isTuple, PyData.isList, fEq_int, fNe_int, fEq_str, fNe_str, fEq_pair, fNe_pair, fNe_str1, fEq_nil, fNe_nil, atI_0, atI_1, atI_2, ixN_0, ixN_1, ixN_2, Bool.not_true, Bool.not_false, ite_true, ite_false, reduceCtorEq, ↓reduceIte, exists_and_left, exists_const, and_assoc, or_false, false_or, Nat.zero_le, Int.reduceAdd, Int.reduceNeg, Int.reduceSub, Int.reduceMul, Int.reduceLE, Int.reduceLT, Int.cast_ofNat_Int, decide_true, decide_false, eq_self, Nat.reduceLeDiff, Int.reduceEq])
  refine ⟨pre, ?_⟩
  refine comp_all id (fun x => .bool (isIntD x lo hi)) xs (List.map_id xs).symm (fun x _ K hK => ?_) fun e2 _ => ?_
  · simp only [restD_c, restD_n, keepD_d, keepD_n, keepD_o, wipeD_c, wipeD_n, List.getElem?_cons_zero, List.getElem?_cons_succ, List.set_cons_zero, List.set_cons_succ, id, dSeq, dNext, dRet, dRetN, dIfS, dNever, dAsg, dSetO, dPar, dPar3, dAug, dDrop, dApp, dSetIx, dVar, dC, PD.d2, PD.d1, dCons, dNil, dStar, dTup, dLstN, dLst, dNew, dAnd, dOr, dNot, dIf, dB, bAnd, bOr, bNot, fAdd_ii, fAdd_tt, fAdd_ll, fSub_ii, fMul_ii, fDiv_ii, fMod_ii, fPow_ii, fNeg_i, fLt_ii, fLe_ii, fGt_ii, fGe_ii, fOpI_ii, dIs, dCall, dCallM, dCallMN, lCall, dIxO, dIsN, dNotN, fIsN_i, fIsN_n, fIsN_t, fNotN_i, fNotN_n, fNotN_t, dSl, dNo, dSome, fSl_l, fSl_t, dChain, dChain3, cLen_l, cLen_t, cInt_i, cInt_b, cAbs_i, cMax2_ii, cMin2_ii, cTuple_l, cTuple_t, cList_l, cList_t, gSet, gNilD, gConsD, gTupD, iSeq, PD.iZip, iR1, iR2, dComp, dFor, dSortedSet, dRg1, dRg2, fIx_l, fIx_t, fRev_l, fRev_t, dMove, dBreak, dCont, startD, startM, List.map_cons, List.map_nil, List.length_cons, List.length_nil, List.cons_append, List.nil_append, List.getElem?_cons_zero, List.getElem?_cons_succ, List.set_cons_zero, List.set_cons_succ, Option.some.injEq, Sl.dt.injEq, Sl.ow.injEq, PyData.int.injEq, PyData.bool.injEq, PyData.tuple.injEq, PyData.list.injEq, PyData.str.injEq, exists_eq_left, exists_eq_left', exists_eq_right, true_and, and_true, List.cons.injEq, Ob.lst.injEq, Nat.sub_zero, Nat.reduceAdd, Nat.reduceSub, List.replicate_succ, List.replicate_zero, if_true, if_false, Bool.false_eq_true, if_false, PyData.isInt, PyData.isBool, PyData.isStr, PyData.isTuple, PyData.isList, fEq_int, fNe_int, fEq_str, fNe_str, fEq_pair, fNe_pair, fNe_str1, fEq_nil, fNe_nil, atI_0, atI_1, atI_2, ixN_0, ixN_1, ixN_2, Bool.not_true, Bool.not_false, ite_true, ite_false, reduceCtorEq, ↓reduceIte, exists_and_left, exists_const, and_assoc, or_false, false_or, Nat.zero_le, Int.reduceAdd, Int.reduceNeg, Int.reduceSub, Int.reduceMul, Int.reduceLE, Int.reduceLT, Int.cast_ofNat_Int, decide_true, decide_false, eq_self, Nat.reduceLeDiff, Int.reduceEq]
    exact use_is_int trivial (hK _ rfl)
  · exact ⟨xs.map fun x => isIntD x lo hi, by rw [List.map_map]; rfl, by rw [all_map]; exact q⟩


def S_is_flow : FC := SpC fun ds_ P_ => ∃ (f : Fl), ds_ = [encF f] ∧ (FlOk f) ∧ P_ = fun d => d = .bool true
theorem up_is_flow : UpC S_is_flow := up_SpC
theorem use_is_flow {f : Fl} {Q : D → Prop} (pre : FlOk f) (h : Q (.bool true)) : S_is_flow [encF f] Q := ⟨_, ⟨f, rfl, pre, rfl⟩, fun d e => e ▸ h⟩
set_option maxHeartbeats 4000000 in
theorem ok_is_flow (T : Tx mg) (F : FunAt K mg "is_flow" s_is_flow p_is_flow) (h_is_int : OkAt P w K mg base "is_int" p_is_int 1 (spP K S_is_int)) (h_are_ints : OkAt P w K mg base "are_ints" p_are_ints 2 (spP K S_are_ints)) : OkAt P w K mg base "is_flow" p_is_flow 3 (spP K S_is_flow) := by
  have nd := sc_is_flow.nd
  refine okP F sc_is_flow (by rintro ds Q ⟨P, ⟨f, rfl, _, _⟩, _⟩; rfl) fun f cdv A outer s H E hr => ⟨_, (ssd_cons (sd_if (td_w (wd_or (td_not (td_val (ed_is cr_isTuple PyProof.Rows.boot_tuple (by rfl) T.tuple (by rfl) T.isinstance (ed_var (pv 0))))) (wd_or (td_ne (hU hr) (ed_call (fun h => pe_callB call_len (by rfl) T.len PySem.boot_len h) lk_len up_len (ad_cons (ed_var (pv 0)) ad_nil)) (ed_add ed_int ed_int)) (wd_or1 (td_not (td_val (ed_fnA h_are_ints up_are_ints hr (by rfl) (ad_cons (ed_slice (ed_var (pv 0)) od_no (od_some ed_int)) (ad_cons ed_int (ad_cons (ed_giE (by rfl) T.c_MOST_DAY) ad_nil)))))))))) (ssd_one (sd_ret ed_bl)) ssd_nil) (ssd_one (sd_ret (ed_and (ed_le (hU hr) (ed_ix (fun _ _ => rfl) (ed_var (pv 0)) ed_int) (ed_ix (fun _ _ => rfl) (ed_var (pv 0)) ed_int)) (ed_and (ed_fnA h_is_int up_is_int (hr.mono (by decide)) (by rfl) (ad_cons (ed_ix (fun _ _ => rfl) (ed_var (pv 0)) ed_int) (ad_cons (ed_neg (ed_giE (by rfl) T.c_MOST_MONEY)) (ad_cons (ed_giE (by rfl) T.c_MOST_MONEY) ad_nil)))) (ed_one (ed_ne (hU hr) (ed_ix (fun _ _ => rfl) (ed_var (pv 0)) ed_int) ed_int))))))), fun ds Q h => ?_⟩
  obtain ⟨P, ⟨f, rfl, pre, rfl⟩, q⟩ := h
  replace q := q _ rfl
  obtain ⟨h1, h2, h3, h4, h5, h6⟩ := pre
  simp only [encF, dSeq, dNext, dRet, dRetN, dIfS, dNever, dAsg, dSetO, dPar, dPar3, dAug, dDrop, dApp, dSetIx, dVar, dC, PD.d2, PD.d1, dCons, dNil, dStar, dTup, dLstN, dLst, dNew, dAnd, dOr, dNot, dIf, dB, bAnd, bOr, bNot, fAdd_ii, fAdd_tt, fAdd_ll, fSub_ii, fMul_ii, fDiv_ii, fMod_ii, fPow_ii, fNeg_i, fLt_ii, fLe_ii, fGt_ii, fGe_ii, fOpI_ii, dIs, dCall, dCallM, dCallMN, lCall, dIxO, dIsN, dNotN, fIsN_i, fIsN_n, fIsN_t, fNotN_i, fNotN_n, fNotN_t, dSl, dNo, dSome, fSl_l, fSl_t, dChain, dChain3, cLen_l, cLen_t, cInt_i, cInt_b, cAbs_i, cMax2_ii, cMin2_ii, cTuple_l, cTuple_t, cList_l, cList_t, gSet, gNilD, gConsD, gTupD, iSeq, PD.iZip, iR1, iR2, dComp, dFor, dSortedSet, dRg1, dRg2, fIx_l, fIx_t, fRev_l, fRev_t, dMove, dBreak, dCont, startD, startM, List.map_cons, List.map_nil, List.length_cons, List.length_nil, List.cons_append, List.nil_append, List.getElem?_cons_zero, List.getElem?_cons_succ, List.set_cons_zero, List.set_cons_succ, Option.some.injEq, Sl.dt.injEq, Sl.ow.injEq, PyData.int.injEq, PyData.bool.injEq, PyData.tuple.injEq, PyData.list.injEq, PyData.str.injEq, exists_eq_left, exists_eq_left', exists_eq_right, true_and, and_true, List.cons.injEq, Ob.lst.injEq, Nat.sub_zero, Nat.reduceAdd, Nat.reduceSub, List.replicate_succ, List.replicate_zero, if_true, if_false, Bool.false_eq_true, if_false, PyData.isInt, PyData.isBool, PyData.isStr, PyData.isTuple, PyData.isList, fEq_int, fNe_int, fEq_str, fNe_str, fEq_pair, fNe_pair, fNe_str1, fEq_nil, fNe_nil, atI_0, atI_1, atI_2, ixN_0, ixN_1, ixN_2, Bool.not_true, Bool.not_false, ite_true, ite_false, reduceCtorEq, ↓reduceIte, exists_and_left, exists_const, and_assoc, or_false, false_or, Nat.zero_le, Int.reduceAdd, Int.reduceNeg, Int.reduceSub, Int.reduceMul, Int.reduceLE, Int.reduceLT, Int.cast_ofNat_Int, decide_true, decide_false, eq_self, Nat.reduceLeDiff, Int.reduceEq]
  refine use_are_ints (by show 2 ≤ 16777216; decide) ⟨_, rfl, ?_⟩
  have e : ((PD.cutD [PyData.int f.1, PyData.int f.2.1, PyData.int f.2.2] none (some 2)).all fun x => isIntD x 0 10000) = true := by
    show ([PyData.int f.1, PyData.int f.2.1].all fun x => isIntD x 0 10000) = true
    simp only [List.all_cons, List.all_nil, Bool.and_true, Bool.and_eq_true]
    exact ⟨isIntD_i h1 (by omega), isIntD_i (by omega) h3⟩
  rw [e]
  (try simp only [dSeq, dNext, dRet, dRetN, dIfS, dNever, dAsg, dSetO, dPar, dPar3, dAug, dDrop, dApp, dSetIx, dVar, dC, PD.d2, PD.d1, dCons, dNil, dStar, dTup, dLstN, dLst, dNew, dAnd, dOr, dNot, dIf, dB, bAnd, bOr, bNot, fAdd_ii, fAdd_tt, fAdd_ll, fSub_ii, fMul_ii, fDiv_ii, fMod_ii, fPow_ii, fNeg_i, fLt_ii, fLe_ii, fGt_ii, fGe_ii, fOpI_ii, dIs, dCall, dCallM, dCallMN, lCall, dIxO, dIsN, dNotN, fIsN_i, fIsN_n, fIsN_t, fNotN_i, fNotN_n, fNotN_t, dSl, dNo, dSome, fSl_l, fSl_t, dChain, dChain3, cLen_l, cLen_t, cInt_i, cInt_b, cAbs_i, cMax2_ii, cMin2_ii, cTuple_l, cTuple_t, cList_l, cList_t, gSet, gNilD, gConsD, gTupD, iSeq, PD.iZip, iR1, iR2, dComp, dFor, dSortedSet, dRg1, dRg2, fIx_l, fIx_t, fRev_l, fRev_t, dMove, dBreak, dCont, startD, startM, List.map_cons, List.map_nil, List.length_cons, List.length_nil, List.cons_append, List.nil_append, List.getElem?_cons_zero, List.getElem?_cons_succ, List.set_cons_zero, List.set_cons_succ, Option.some.injEq, Sl.dt.injEq, Sl.ow.injEq, PyData.int.injEq, PyData.bool.injEq, PyData.tuple.injEq, PyData.list.injEq, PyData.str.injEq, exists_eq_left, exists_eq_left', exists_eq_right, true_and, and_true, List.cons.injEq, Ob.lst.injEq, Nat.sub_zero, Nat.reduceAdd, Nat.reduceSub, List.replicate_succ, List.replicate_zero, if_true, if_false, Bool.false_eq_true, if_false, PyData.isInt, PyData.isBool, PyData.isStr, PyData.isTuple, PyData.isList, fEq_int, fNe_int, fEq_str, fNe_str, fEq_pair, fNe_pair, fNe_str1, fEq_nil, fNe_nil, atI_0, atI_1, atI_2, ixN_0, ixN_1, ixN_2, Bool.not_true, Bool.not_false, ite_true, ite_false, reduceCtorEq, ↓reduceIte, exists_and_left, exists_const, and_assoc, or_false, false_or, Nat.zero_le, Int.reduceAdd, Int.reduceNeg, Int.reduceSub, Int.reduceMul, Int.reduceLE, Int.reduceLT, Int.cast_ofNat_Int, decide_true, decide_false, eq_self, Nat.reduceLeDiff, Int.reduceEq])
  rw [if_pos (by simpa using h2)]
  refine use_is_int trivial ⟨_, rfl, ?_⟩
  rw [isIntD_i h4 h5]
  (try simp only [dSeq, dNext, dRet, dRetN, dIfS, dNever, dAsg, dSetO, dPar, dPar3, dAug, dDrop, dApp, dSetIx, dVar, dC, PD.d2, PD.d1, dCons, dNil, dStar, dTup, dLstN, dLst, dNew, dAnd, dOr, dNot, dIf, dB, bAnd, bOr, bNot, fAdd_ii, fAdd_tt, fAdd_ll, fSub_ii, fMul_ii, fDiv_ii, fMod_ii, fPow_ii, fNeg_i, fLt_ii, fLe_ii, fGt_ii, fGe_ii, fOpI_ii, dIs, dCall, dCallM, dCallMN, lCall, dIxO, dIsN, dNotN, fIsN_i, fIsN_n, fIsN_t, fNotN_i, fNotN_n, fNotN_t, dSl, dNo, dSome, fSl_l, fSl_t, dChain, dChain3, cLen_l, cLen_t, cInt_i, cInt_b, cAbs_i, cMax2_ii, cMin2_ii, cTuple_l, cTuple_t, cList_l, cList_t, gSet, gNilD, gConsD, gTupD, iSeq, PD.iZip, iR1, iR2, dComp, dFor, dSortedSet, dRg1, dRg2, fIx_l, fIx_t, fRev_l, fRev_t, dMove, dBreak, dCont, startD, startM, List.map_cons, List.map_nil, List.length_cons, List.length_nil, List.cons_append, List.nil_append, List.getElem?_cons_zero, List.getElem?_cons_succ, List.set_cons_zero, List.set_cons_succ, Option.some.injEq, Sl.dt.injEq, Sl.ow.injEq, PyData.int.injEq, PyData.bool.injEq, PyData.tuple.injEq, PyData.list.injEq, PyData.str.injEq, exists_eq_left, exists_eq_left', exists_eq_right, true_and, and_true, List.cons.injEq, Ob.lst.injEq, Nat.sub_zero, Nat.reduceAdd, Nat.reduceSub, List.replicate_succ, List.replicate_zero, if_true, if_false, Bool.false_eq_true, if_false, PyData.isInt, PyData.isBool, PyData.isStr, PyData.isTuple, PyData.isList, fEq_int, fNe_int, fEq_str, fNe_str, fEq_pair, fNe_pair, fNe_str1, fEq_nil, fNe_nil, atI_0, atI_1, atI_2, ixN_0, ixN_1, ixN_2, Bool.not_true, Bool.not_false, ite_true, ite_false, reduceCtorEq, ↓reduceIte, exists_and_left, exists_const, and_assoc, or_false, false_or, Nat.zero_le, Int.reduceAdd, Int.reduceNeg, Int.reduceSub, Int.reduceMul, Int.reduceLE, Int.reduceLT, Int.cast_ofNat_Int, decide_true, decide_false, eq_self, Nat.reduceLeDiff, Int.reduceEq])
  rw [decide_eq_false h6]
  exact q


def S_are_flows : FC := SpC fun ds_ P_ => ∃ (fs : List Fl), ds_ = [encFs fs] ∧ (FlsOk fs) ∧ P_ = fun d => d = .bool true
theorem up_are_flows : UpC S_are_flows := up_SpC
theorem use_are_flows {fs : List Fl} {Q : D → Prop} (pre : FlsOk fs) (h : Q (.bool true)) : S_are_flows [encFs fs] Q := ⟨_, ⟨fs, rfl, pre, rfl⟩, fun d e => e ▸ h⟩
set_option maxHeartbeats 4000000 in
theorem ok_are_flows (T : Tx mg) (F : FunAt K mg "are_flows" s_are_flows p_are_flows) (h_is_flow : OkAt P w K mg base "is_flow" p_is_flow 3 (spP K S_is_flow)) : OkAt P w K mg base "are_flows" p_are_flows 4 (spP K S_are_flows) := by
  have nd := sc_are_flows.nd
  refine okP F sc_are_flows (by rintro ds Q ⟨P, ⟨fs, rfl, _, _⟩, _⟩; rfl) fun f cdv A outer s H E hr => ⟨_, (ssd_one (sd_ret (ed_and (ed_is cr_isTuple PyProof.Rows.boot_tuple (by rfl) T.tuple (by rfl) T.isinstance (ed_var (pv 0))) (ed_and (ed_le (hU hr) (ed_call (fun h => pe_callB call_len (by rfl) T.len PySem.boot_len h) lk_len up_len (ad_cons (ed_var (pv 0)) ad_nil)) (ed_giE (by rfl) T.c_MOST_FLOWS)) (ed_one (ed_call (fun h => pe_callB (cr_all rfl) (by rfl) T.all PyProof.Rows.boot_all h) lk_all up_all (ad_cons (ed_new (ld_comp (own := [("one", 1)]) rfl nd (id_seq (ed_var (pv 0))) (blkOk_by (N := N_are_flows) (sc := defScope s_are_flows) (by decide +kernel)) (by decide) (fun _ _ _ _ _ => (gd_name (pg_name (i := 1) nd rfl (by first | exact Or.inl rfl | exact Or.inr rfl)))) (fun _ _ _ _ _ => tsd_nil) (fun _ _ _ _ _ => (ed_fnA h_is_flow up_is_flow hr (by rfl) (ad_cons (ed_var (pv 1)) ad_nil))) s)) ad_nil))))))), fun ds Q h => ?_⟩
  obtain ⟨P, ⟨fs, rfl, pre, rfl⟩, q⟩ := h
  replace q := q _ rfl
  simp only [dSeq, dNext, dRet, dRetN, dIfS, dNever, dAsg, dSetO, dPar, dPar3, dAug, dDrop, dApp, dSetIx, dVar, dC, PD.d2, PD.d1, dCons, dNil, dStar, dTup, dLstN, dLst, dNew, dAnd, dOr, dNot, dIf, dB, bAnd, bOr, bNot, fAdd_ii, fAdd_tt, fAdd_ll, fSub_ii, fMul_ii, fDiv_ii, fMod_ii, fPow_ii, fNeg_i, fLt_ii, fLe_ii, fGt_ii, fGe_ii, fOpI_ii, dIs, dCall, dCallM, dCallMN, lCall, dIxO, dIsN, dNotN, fIsN_i, fIsN_n, fIsN_t, fNotN_i, fNotN_n, fNotN_t, dSl, dNo, dSome, fSl_l, fSl_t, dChain, dChain3, cLen_l, cLen_t, cInt_i, cInt_b, cAbs_i, cMax2_ii, cMin2_ii, cTuple_l, cTuple_t, cList_l, cList_t, gSet, gNilD, gConsD, gTupD, iSeq, PD.iZip, iR1, iR2, dComp, dFor, dSortedSet, dRg1, dRg2, fIx_l, fIx_t, fRev_l, fRev_t, dMove, dBreak, dCont, startD, startM, List.map_cons, List.map_nil, List.length_cons, List.length_nil, List.cons_append, List.nil_append, List.getElem?_cons_zero, List.getElem?_cons_succ, List.set_cons_zero, List.set_cons_succ, Option.some.injEq, Sl.dt.injEq, Sl.ow.injEq, PyData.int.injEq, PyData.bool.injEq, PyData.tuple.injEq, PyData.list.injEq, PyData.str.injEq, exists_eq_left, exists_eq_left', exists_eq_right, true_and, and_true, List.cons.injEq, Ob.lst.injEq, Nat.sub_zero, Nat.reduceAdd, Nat.reduceSub, List.replicate_succ, List.replicate_zero, if_true, if_false, Bool.false_eq_true, if_false, PyData.isInt, PyData.isBool, PyData.isStr, PyData.isTuple, PyData.isList, fEq_int, fNe_int, fEq_str, fNe_str, fEq_pair, fNe_pair, fNe_str1, fEq_nil, fNe_nil, atI_0, atI_1, atI_2, ixN_0, ixN_1, ixN_2, Bool.not_true, Bool.not_false, ite_true, ite_false, reduceCtorEq, ↓reduceIte, exists_and_left, exists_const, and_assoc, or_false, false_or, Nat.zero_le, Int.reduceAdd, Int.reduceNeg, Int.reduceSub, Int.reduceMul, Int.reduceLE, Int.reduceLT, Int.cast_ofNat_Int, decide_true, decide_false, eq_self, Nat.reduceLeDiff, Int.reduceEq, encFs, List.length_map]
  have h1 := pre.1
  rw [if_pos (by simp; omega)]
  refine ⟨by omega, ?_⟩
  refine comp_all encF (fun _ => .bool true) fs rfl (fun f hf K hK => ?_) fun e2 _ => ?_
  · simp only [restD_c, restD_n, keepD_d, keepD_n, keepD_o, wipeD_c, wipeD_n, List.getElem?_cons_zero, List.getElem?_cons_succ, List.set_cons_zero, List.set_cons_succ, dSeq, dNext, dRet, dRetN, dIfS, dNever, dAsg, dSetO, dPar, dPar3, dAug, dDrop, dApp, dSetIx, dVar, dC, PD.d2, PD.d1, dCons, dNil, dStar, dTup, dLstN, dLst, dNew, dAnd, dOr, dNot, dIf, dB, bAnd, bOr, bNot, fAdd_ii, fAdd_tt, fAdd_ll, fSub_ii, fMul_ii, fDiv_ii, fMod_ii, fPow_ii, fNeg_i, fLt_ii, fLe_ii, fGt_ii, fGe_ii, fOpI_ii, dIs, dCall, dCallM, dCallMN, lCall, dIxO, dIsN, dNotN, fIsN_i, fIsN_n, fIsN_t, fNotN_i, fNotN_n, fNotN_t, dSl, dNo, dSome, fSl_l, fSl_t, dChain, dChain3, cLen_l, cLen_t, cInt_i, cInt_b, cAbs_i, cMax2_ii, cMin2_ii, cTuple_l, cTuple_t, cList_l, cList_t, gSet, gNilD, gConsD, gTupD, iSeq, PD.iZip, iR1, iR2, dComp, dFor, dSortedSet, dRg1, dRg2, fIx_l, fIx_t, fRev_l, fRev_t, dMove, dBreak, dCont, startD, startM, List.map_cons, List.map_nil, List.length_cons, List.length_nil, List.cons_append, List.nil_append, List.getElem?_cons_zero, List.getElem?_cons_succ, List.set_cons_zero, List.set_cons_succ, Option.some.injEq, Sl.dt.injEq, Sl.ow.injEq, PyData.int.injEq, PyData.bool.injEq, PyData.tuple.injEq, PyData.list.injEq, PyData.str.injEq, exists_eq_left, exists_eq_left', exists_eq_right, true_and, and_true, List.cons.injEq, Ob.lst.injEq, Nat.sub_zero, Nat.reduceAdd, Nat.reduceSub, List.replicate_succ, List.replicate_zero, if_true, if_false, Bool.false_eq_true, if_false, PyData.isInt, PyData.isBool, PyData.isStr, PyData.isTuple, PyData.isList, fEq_int, fNe_int, fEq_str, fNe_str, fEq_pair, fNe_pair, fNe_str1, fEq_nil, fNe_nil, atI_0, atI_1, atI_2, ixN_0, ixN_1, ixN_2, Bool.not_true, Bool.not_false, ite_true, ite_false, reduceCtorEq, ↓reduceIte, exists_and_left, exists_const, and_assoc, or_false, false_or, Nat.zero_le, Int.reduceAdd, Int.reduceNeg, Int.reduceSub, Int.reduceMul, Int.reduceLE, Int.reduceLT, Int.cast_ofNat_Int, decide_true, decide_false, eq_self, Nat.reduceLeDiff, Int.reduceEq]
    exact use_is_flow (pre.2 f hf) (hK _ rfl)
  · refine ⟨fs.map fun _ => true, by rw [List.map_map]; rfl, ?_⟩
    rw [all_map, List.all_eq_true.mpr fun _ _ => rfl]
    exact q


def S_look_at_flows : FC := SpC fun ds_ P_ => ∃ (cash : Int) (fs : List Fl), ds_ = [.int cash, encFs fs] ∧ (FlsOk fs ∧ 0 ≤ cash ∧ cash ≤ 1000000000) ∧ P_ = fun d => d = .none
theorem up_look_at_flows : UpC S_look_at_flows := up_SpC
theorem use_look_at_flows {cash : Int} {fs : List Fl} {Q : D → Prop} (pre : FlsOk fs ∧ 0 ≤ cash ∧ cash ≤ 1000000000) (h : Q (.none)) : S_look_at_flows [.int cash, encFs fs] Q := ⟨_, ⟨cash, fs, rfl, pre, rfl⟩, fun d e => e ▸ h⟩
set_option maxHeartbeats 4000000 in
theorem ok_look_at_flows (T : Tx mg) (F : FunAt K mg "look_at_flows" s_look_at_flows p_look_at_flows) (h_are_flows : OkAt P w K mg base "are_flows" p_are_flows 4 (spP K S_are_flows)) (h_is_int : OkAt P w K mg base "is_int" p_is_int 1 (spP K S_is_int)) : OkAt P w K mg base "look_at_flows" p_look_at_flows 5 (spP K S_look_at_flows) := by
  have nd := sc_look_at_flows.nd
  refine okP F sc_look_at_flows (by rintro ds Q ⟨P, ⟨cash, fs, rfl, _, _⟩, _⟩; rfl) fun f cdv A outer s H E hr => ⟨_, (ssd_cons (sd_if (td_not (td_val (ed_fnA h_is_int up_is_int (hr.mono (by decide)) (by rfl) (ad_cons (ed_var (pv 0)) (ad_cons ed_int (ad_cons (ed_giE (by rfl) T.c_MOST_MONEY) ad_nil)))))) ssd_never ssd_nil) (ssd_one (sd_if (td_not (td_val (ed_fnA h_are_flows up_are_flows hr (by rfl) (ad_cons (ed_var (pv 1)) ad_nil)))) ssd_never ssd_nil))), fun ds Q h => ?_⟩
  obtain ⟨P, ⟨cash, fs, rfl, pre, rfl⟩, q⟩ := h
  replace q := q _ rfl
  (try simp only [dSeq, dNext, dRet, dRetN, dIfS, dNever, dAsg, dSetO, dPar, dPar3, dAug, dDrop, dApp, dSetIx, dVar, dC, PD.d2, PD.d1, dCons, dNil, dStar, dTup, dLstN, dLst, dNew, dAnd, dOr, dNot, dIf, dB, bAnd, bOr, bNot, fAdd_ii, fAdd_tt, fAdd_ll, fSub_ii, fMul_ii, fDiv_ii, fMod_ii, fPow_ii, fNeg_i, fLt_ii, fLe_ii, fGt_ii, fGe_ii, fOpI_ii, dIs, dCall, dCallM, dCallMN, lCall, dIxO, dIsN, dNotN, fIsN_i, fIsN_n, fIsN_t, fNotN_i, fNotN_n, fNotN_t, dSl, dNo, dSome, fSl_l, fSl_t, dChain, dChain3, cLen_l, cLen_t, cInt_i, cInt_b, cAbs_i, cMax2_ii, cMin2_ii, cTuple_l, cTuple_t, cList_l, cList_t, gSet, gNilD, gConsD, gTupD, iSeq, PD.iZip, iR1, iR2, dComp, dFor, dSortedSet, dRg1, dRg2, fIx_l, fIx_t, fRev_l, fRev_t, dMove, dBreak, dCont, startD, startM, List.map_cons, List.map_nil, List.length_cons, List.length_nil, List.cons_append, List.nil_append, List.getElem?_cons_zero, List.getElem?_cons_succ, List.set_cons_zero, List.set_cons_succ, Option.some.injEq, Sl.dt.injEq, Sl.ow.injEq, PyData.int.injEq, PyData.bool.injEq, PyData.tuple.injEq, PyData.list.injEq, PyData.str.injEq, exists_eq_left, exists_eq_left', exists_eq_right, true_and, and_true, List.cons.injEq, Ob.lst.injEq, Nat.sub_zero, Nat.reduceAdd, Nat.reduceSub, List.replicate_succ, List.replicate_zero, if_true, if_false, Bool.false_eq_true, if_false, PyData.isInt, PyData.isBool, PyData.isStr, PyData.isTuple, PyData.isList, fEq_int, fNe_int, fEq_str, fNe_str, fEq_pair, fNe_pair, fNe_str1, fEq_nil, fNe_nil, atI_0, atI_1, atI_2, ixN_0, ixN_1, ixN_2, Bool.not_true, Bool.not_false, ite_true, ite_false, reduceCtorEq, ↓reduceIte, exists_and_left, exists_const, and_assoc, or_false, false_or, Nat.zero_le, Int.reduceAdd, Int.reduceNeg, Int.reduceSub, Int.reduceMul, Int.reduceLE, Int.reduceLT, Int.cast_ofNat_Int, decide_true, decide_false, eq_self, Nat.reduceLeDiff, Int.reduceEq])
  refine use_is_int trivial ⟨_, rfl, ?_⟩
  rw [isIntD_i pre.2.1 pre.2.2]
  (try simp only [dSeq, dNext, dRet, dRetN, dIfS, dNever, dAsg, dSetO, dPar, dPar3, dAug, dDrop, dApp, dSetIx, dVar, dC, PD.d2, PD.d1, dCons, dNil, dStar, dTup, dLstN, dLst, dNew, dAnd, dOr, dNot, dIf, dB, bAnd, bOr, bNot, fAdd_ii, fAdd_tt, fAdd_ll, fSub_ii, fMul_ii, fDiv_ii, fMod_ii, fPow_ii, fNeg_i, fLt_ii, fLe_ii, fGt_ii, fGe_ii, fOpI_ii, dIs, dCall, dCallM, dCallMN, lCall, dIxO, dIsN, dNotN, fIsN_i, fIsN_n, fIsN_t, fNotN_i, fNotN_n, fNotN_t, dSl, dNo, dSome, fSl_l, fSl_t, dChain, dChain3, cLen_l, cLen_t, cInt_i, cInt_b, cAbs_i, cMax2_ii, cMin2_ii, cTuple_l, cTuple_t, cList_l, cList_t, gSet, gNilD, gConsD, gTupD, iSeq, PD.iZip, iR1, iR2, dComp, dFor, dSortedSet, dRg1, dRg2, fIx_l, fIx_t, fRev_l, fRev_t, dMove, dBreak, dCont, startD, startM, List.map_cons, List.map_nil, List.length_cons, List.length_nil, List.cons_append, List.nil_append, List.getElem?_cons_zero, List.getElem?_cons_succ, List.set_cons_zero, List.set_cons_succ, Option.some.injEq, Sl.dt.injEq, Sl.ow.injEq, PyData.int.injEq, PyData.bool.injEq, PyData.tuple.injEq, PyData.list.injEq, PyData.str.injEq, exists_eq_left, exists_eq_left', exists_eq_right, true_and, and_true, List.cons.injEq, Ob.lst.injEq, Nat.sub_zero, Nat.reduceAdd, Nat.reduceSub, List.replicate_succ, List.replicate_zero, if_true, if_false, Bool.false_eq_true, if_false, PyData.isInt, PyData.isBool, PyData.isStr, PyData.isTuple, PyData.isList, fEq_int, fNe_int, fEq_str, fNe_str, fEq_pair, fNe_pair, fNe_str1, fEq_nil, fNe_nil, atI_0, atI_1, atI_2, ixN_0, ixN_1, ixN_2, Bool.not_true, Bool.not_false, ite_true, ite_false, reduceCtorEq, ↓reduceIte, exists_and_left, exists_const, and_assoc, or_false, false_or, Nat.zero_le, Int.reduceAdd, Int.reduceNeg, Int.reduceSub, Int.reduceMul, Int.reduceLE, Int.reduceLT, Int.cast_ofNat_Int, decide_true, decide_false, eq_self, Nat.reduceLeDiff, Int.reduceEq])
  refine use_are_flows pre.1 ⟨_, rfl, ?_⟩
  exact q


def S_is_course : FC := SpC fun ds_ P_ => ∃ (fs : List Fl) (ds : List Int), ds_ = [encFs fs, .tuple (ds.map PyData.int)] ∧ (FlsOk fs ∧ CrsOk fs ds) ∧ P_ = fun d => d = .bool true
theorem up_is_course : UpC S_is_course := up_SpC
theorem use_is_course {fs : List Fl} {ds : List Int} {Q : D → Prop} (pre : FlsOk fs ∧ CrsOk fs ds) (h : Q (.bool true)) : S_is_course [encFs fs, .tuple (ds.map PyData.int)] Q := ⟨_, ⟨fs, ds, rfl, pre, rfl⟩, fun d e => e ▸ h⟩
set_option maxHeartbeats 4000000 in
theorem ok_is_course (T : Tx mg) (F : FunAt K mg "is_course" s_is_course p_is_course) (h_are_ints : OkAt P w K mg base "are_ints" p_are_ints 2 (spP K S_are_ints)) : OkAt P w K mg base "is_course" p_is_course 3 (spP K S_is_course) := by
  have nd := sc_is_course.nd
  refine okP F sc_is_course (by rintro ds Q ⟨P, ⟨fs, ds, rfl, _, _⟩, _⟩; rfl) fun f cdv A outer s H E hr => ⟨_, (ssd_cons (sd_if (td_w (wd_or (td_not (td_val (ed_fnA h_are_ints up_are_ints hr (by rfl) (ad_cons (ed_var (pv 1)) (ad_cons ed_int (ad_cons (ed_giE (by rfl) T.c_MOST_DAY) ad_nil)))))) (wd_or1 (td_ne (hU hr) (ed_call (fun h => pe_callB call_len (by rfl) T.len PySem.boot_len h) lk_len up_len (ad_cons (ed_var (pv 1)) ad_nil)) (ed_call (fun h => pe_callB call_len (by rfl) T.len PySem.boot_len h) lk_len up_len (ad_cons (ed_var (pv 0)) ad_nil)))))) (ssd_one (sd_ret ed_bl)) ssd_nil) (ssd_one (sd_ret (ed_call (fun h => pe_callB (cr_all rfl) (by rfl) T.all PyProof.Rows.boot_all h) lk_all up_all (ad_cons (ed_new (ld_comp (own := [("flow", 2), ("day", 3)]) rfl nd (id_zip (by rfl) T.zip (ad_cons (ed_var (pv 0)) (ad_cons (ed_var (pv 1)) ad_nil))) (blkOk_by (N := N_is_course) (sc := defScope s_is_course) (by decide +kernel)) (by decide) (fun _ _ _ _ _ => (gd_tup (n := 2) rfl (gsd_cons (gd_name (pg_name (i := 2) nd rfl (by first | exact Or.inl rfl | exact Or.inr rfl))) (gsd_cons (gd_name (pg_name (i := 3) nd rfl (by first | exact Or.inl rfl | exact Or.inr rfl))) gsd_nil)))) (fun _ _ _ _ _ => tsd_nil) (fun _ _ _ _ _ => (ed_chain (or_leD (hU hr)) (or_leD (hU hr)) ol_le ol_le up_cmp up_cmp (ed_ix (fun _ _ => rfl) (ed_var (pv 2)) ed_int) (ed_var (pv 3)) (ed_ix (fun _ _ => rfl) (ed_var (pv 2)) ed_int))) s)) ad_nil))))), fun ds Q h => ?_⟩
  obtain ⟨P, ⟨fs, ds, rfl, pre, rfl⟩, q⟩ := h
  replace q := q _ rfl
  obtain ⟨⟨l1, okf⟩, e, ok⟩ := pre
  simp only [dSeq, dNext, dRet, dRetN, dIfS, dNever, dAsg, dSetO, dPar, dPar3, dAug, dDrop, dApp, dSetIx, dVar, dC, PD.d2, PD.d1, dCons, dNil, dStar, dTup, dLstN, dLst, dNew, dAnd, dOr, dNot, dIf, dB, bAnd, bOr, bNot, fAdd_ii, fAdd_tt, fAdd_ll, fSub_ii, fMul_ii, fDiv_ii, fMod_ii, fPow_ii, fNeg_i, fLt_ii, fLe_ii, fGt_ii, fGe_ii, fOpI_ii, dIs, dCall, dCallM, dCallMN, lCall, dIxO, dIsN, dNotN, fIsN_i, fIsN_n, fIsN_t, fNotN_i, fNotN_n, fNotN_t, dSl, dNo, dSome, fSl_l, fSl_t, dChain, dChain3, cLen_l, cLen_t, cInt_i, cInt_b, cAbs_i, cMax2_ii, cMin2_ii, cTuple_l, cTuple_t, cList_l, cList_t, gSet, gNilD, gConsD, gTupD, iSeq, PD.iZip, iR1, iR2, dComp, dFor, dSortedSet, dRg1, dRg2, fIx_l, fIx_t, fRev_l, fRev_t, dMove, dBreak, dCont, startD, startM, List.map_cons, List.map_nil, List.length_cons, List.length_nil, List.cons_append, List.nil_append, List.getElem?_cons_zero, List.getElem?_cons_succ, List.set_cons_zero, List.set_cons_succ, Option.some.injEq, Sl.dt.injEq, Sl.ow.injEq, PyData.int.injEq, PyData.bool.injEq, PyData.tuple.injEq, PyData.list.injEq, PyData.str.injEq, exists_eq_left, exists_eq_left', exists_eq_right, true_and, and_true, List.cons.injEq, Ob.lst.injEq, Nat.sub_zero, Nat.reduceAdd, Nat.reduceSub, List.replicate_succ, List.replicate_zero, if_true, if_false, Bool.false_eq_true, if_false, PyData.isInt, PyData.isBool, PyData.isStr, PyData.isTuple, PyData.isList, fEq_int, fNe_int, fEq_str, fNe_str, fEq_pair, fNe_pair, fNe_str1, fEq_nil, fNe_nil, atI_0, atI_1, atI_2, ixN_0, ixN_1, ixN_2, Bool.not_true, Bool.not_false, ite_true, ite_false, reduceCtorEq, ↓reduceIte, exists_and_left, exists_const, and_assoc, or_false, false_or, Nat.zero_le, Int.reduceAdd, Int.reduceNeg, Int.reduceSub, Int.reduceMul, Int.reduceLE, Int.reduceLT, Int.cast_ofNat_Int, decide_true, decide_false, eq_self, Nat.reduceLeDiff, Int.reduceEq, encFs]
  have mem : ∀ d ∈ ds, 0 ≤ d ∧ d ≤ 10000 := fun d hd => by
    obtain ⟨i, hi, rfl⟩ := List.getElem_of_mem hd
    have z := ok (fs[i], ds[i]) (by rw [List.mem_iff_getElem]; exact ⟨i, by simp; omega, by simp⟩)
    have y := okf fs[i] (List.getElem_mem _)
    obtain ⟨y1, y2, y3, _⟩ := y
    simp only at z
    exact ⟨by omega, by omega⟩
  refine use_are_ints (by rw [List.length_map]; omega) ⟨_, rfl, ?_⟩
  have ea : ((ds.map PyData.int).all fun x => isIntD x 0 10000) = true := by
    rw [List.all_map, List.all_eq_true]
    exact fun d hd => isIntD_i (mem d hd).1 (mem d hd).2
  rw [ea]
  simp only [dSeq, dNext, dRet, dRetN, dIfS, dNever, dAsg, dSetO, dPar, dPar3, dAug, dDrop, dApp, dSetIx, dVar, dC, PD.d2, PD.d1, dCons, dNil, dStar, dTup, dLstN, dLst, dNew, dAnd, dOr, dNot, dIf, dB, bAnd, bOr, bNot, fAdd_ii, fAdd_tt, fAdd_ll, fSub_ii, fMul_ii, fDiv_ii, fMod_ii, fPow_ii, fNeg_i, fLt_ii, fLe_ii, fGt_ii, fGe_ii, fOpI_ii, dIs, dCall, dCallM, dCallMN, lCall, dIxO, dIsN, dNotN, fIsN_i, fIsN_n, fIsN_t, fNotN_i, fNotN_n, fNotN_t, dSl, dNo, dSome, fSl_l, fSl_t, dChain, dChain3, cLen_l, cLen_t, cInt_i, cInt_b, cAbs_i, cMax2_ii, cMin2_ii, cTuple_l, cTuple_t, cList_l, cList_t, gSet, gNilD, gConsD, gTupD, iSeq, PD.iZip, iR1, iR2, dComp, dFor, dSortedSet, dRg1, dRg2, fIx_l, fIx_t, fRev_l, fRev_t, dMove, dBreak, dCont, startD, startM, List.map_cons, List.map_nil, List.length_cons, List.length_nil, List.cons_append, List.nil_append, List.getElem?_cons_zero, List.getElem?_cons_succ, List.set_cons_zero, List.set_cons_succ, Option.some.injEq, Sl.dt.injEq, Sl.ow.injEq, PyData.int.injEq, PyData.bool.injEq, PyData.tuple.injEq, PyData.list.injEq, PyData.str.injEq, exists_eq_left, exists_eq_left', exists_eq_right, true_and, and_true, List.cons.injEq, Ob.lst.injEq, Nat.sub_zero, Nat.reduceAdd, Nat.reduceSub, List.replicate_succ, List.replicate_zero, if_true, if_false, Bool.false_eq_true, if_false, PyData.isInt, PyData.isBool, PyData.isStr, PyData.isTuple, PyData.isList, fEq_int, fNe_int, fEq_str, fNe_str, fEq_pair, fNe_pair, fNe_str1, fEq_nil, fNe_nil, atI_0, atI_1, atI_2, ixN_0, ixN_1, ixN_2, Bool.not_true, Bool.not_false, ite_true, ite_false, reduceCtorEq, ↓reduceIte, exists_and_left, exists_const, and_assoc, or_false, false_or, Nat.zero_le, Int.reduceAdd, Int.reduceNeg, Int.reduceSub, Int.reduceMul, Int.reduceLE, Int.reduceLT, Int.cast_ofNat_Int, decide_true, decide_false, eq_self, Nat.reduceLeDiff, Int.reduceEq, List.length_map]
  rw [e, decide_eq_true rfl]
  (try simp only [dSeq, dNext, dRet, dRetN, dIfS, dNever, dAsg, dSetO, dPar, dPar3, dAug, dDrop, dApp, dSetIx, dVar, dC, PD.d2, PD.d1, dCons, dNil, dStar, dTup, dLstN, dLst, dNew, dAnd, dOr, dNot, dIf, dB, bAnd, bOr, bNot, fAdd_ii, fAdd_tt, fAdd_ll, fSub_ii, fMul_ii, fDiv_ii, fMod_ii, fPow_ii, fNeg_i, fLt_ii, fLe_ii, fGt_ii, fGe_ii, fOpI_ii, dIs, dCall, dCallM, dCallMN, lCall, dIxO, dIsN, dNotN, fIsN_i, fIsN_n, fIsN_t, fNotN_i, fNotN_n, fNotN_t, dSl, dNo, dSome, fSl_l, fSl_t, dChain, dChain3, cLen_l, cLen_t, cInt_i, cInt_b, cAbs_i, cMax2_ii, cMin2_ii, cTuple_l, cTuple_t, cList_l, cList_t, gSet, gNilD, gConsD, gTupD, iSeq, PD.iZip, iR1, iR2, dComp, dFor, dSortedSet, dRg1, dRg2, fIx_l, fIx_t, fRev_l, fRev_t, dMove, dBreak, dCont, startD, startM, List.map_cons, List.map_nil, List.length_cons, List.length_nil, List.cons_append, List.nil_append, List.getElem?_cons_zero, List.getElem?_cons_succ, List.set_cons_zero, List.set_cons_succ, Option.some.injEq, Sl.dt.injEq, Sl.ow.injEq, PyData.int.injEq, PyData.bool.injEq, PyData.tuple.injEq, PyData.list.injEq, PyData.str.injEq, exists_eq_left, exists_eq_left', exists_eq_right, true_and, and_true, List.cons.injEq, Ob.lst.injEq, Nat.sub_zero, Nat.reduceAdd, Nat.reduceSub, List.replicate_succ, List.replicate_zero, if_true, if_false, Bool.false_eq_true, if_false, PyData.isInt, PyData.isBool, PyData.isStr, PyData.isTuple, PyData.isList, fEq_int, fNe_int, fEq_str, fNe_str, fEq_pair, fNe_pair, fNe_str1, fEq_nil, fNe_nil, atI_0, atI_1, atI_2, ixN_0, ixN_1, ixN_2, Bool.not_true, Bool.not_false, ite_true, ite_false, reduceCtorEq, ↓reduceIte, exists_and_left, exists_const, and_assoc, or_false, false_or, Nat.zero_le, Int.reduceAdd, Int.reduceNeg, Int.reduceSub, Int.reduceMul, Int.reduceLE, Int.reduceLT, Int.cast_ofNat_Int, decide_true, decide_false, eq_self, Nat.reduceLeDiff, Int.reduceEq])
  refine ⟨?_, ?_⟩
  · unfold zipD
    rw [List.length_zipWith, List.length_map]
    omega
  rw [zip_map]
  refine comp_all (fun z : Fl × Int => PyData.tuple [encF z.1, .int z.2]) (fun _ => .bool true) (fs.zip ds) rfl (fun z hz K hK => ?_) fun e2 _ => ?_
  · have zz := ok z hz
    simp only [restD_c, restD_n, keepD_d, keepD_n, keepD_o, wipeD_c, wipeD_n, List.getElem?_cons_zero, List.getElem?_cons_succ, List.set_cons_zero, List.set_cons_succ, dSeq, dNext, dRet, dRetN, dIfS, dNever, dAsg, dSetO, dPar, dPar3, dAug, dDrop, dApp, dSetIx, dVar, dC, PD.d2, PD.d1, dCons, dNil, dStar, dTup, dLstN, dLst, dNew, dAnd, dOr, dNot, dIf, dB, bAnd, bOr, bNot, fAdd_ii, fAdd_tt, fAdd_ll, fSub_ii, fMul_ii, fDiv_ii, fMod_ii, fPow_ii, fNeg_i, fLt_ii, fLe_ii, fGt_ii, fGe_ii, fOpI_ii, dIs, dCall, dCallM, dCallMN, lCall, dIxO, dIsN, dNotN, fIsN_i, fIsN_n, fIsN_t, fNotN_i, fNotN_n, fNotN_t, dSl, dNo, dSome, fSl_l, fSl_t, dChain, dChain3, cLen_l, cLen_t, cInt_i, cInt_b, cAbs_i, cMax2_ii, cMin2_ii, cTuple_l, cTuple_t, cList_l, cList_t, gSet, gNilD, gConsD, gTupD, iSeq, PD.iZip, iR1, iR2, dComp, dFor, dSortedSet, dRg1, dRg2, fIx_l, fIx_t, fRev_l, fRev_t, dMove, dBreak, dCont, startD, startM, List.map_cons, List.map_nil, List.length_cons, List.length_nil, List.cons_append, List.nil_append, List.getElem?_cons_zero, List.getElem?_cons_succ, List.set_cons_zero, List.set_cons_succ, Option.some.injEq, Sl.dt.injEq, Sl.ow.injEq, PyData.int.injEq, PyData.bool.injEq, PyData.tuple.injEq, PyData.list.injEq, PyData.str.injEq, exists_eq_left, exists_eq_left', exists_eq_right, true_and, and_true, List.cons.injEq, Ob.lst.injEq, Nat.sub_zero, Nat.reduceAdd, Nat.reduceSub, List.replicate_succ, List.replicate_zero, if_true, if_false, Bool.false_eq_true, if_false, PyData.isInt, PyData.isBool, PyData.isStr, PyData.isTuple, PyData.isList, fEq_int, fNe_int, fEq_str, fNe_str, fEq_pair, fNe_pair, fNe_str1, fEq_nil, fNe_nil, atI_0, atI_1, atI_2, ixN_0, ixN_1, ixN_2, Bool.not_true, Bool.not_false, ite_true, ite_false, reduceCtorEq, ↓reduceIte, exists_and_left, exists_const, and_assoc, or_false, false_or, Nat.zero_le, Int.reduceAdd, Int.reduceNeg, Int.reduceSub, Int.reduceMul, Int.reduceLE, Int.reduceLT, Int.cast_ofNat_Int, decide_true, decide_false, eq_self, Nat.reduceLeDiff, Int.reduceEq, encF]
    rw [if_pos (by simpa using zz.1), decide_eq_true zz.2]
    exact hK _ rfl
  · refine ⟨(fs.zip ds).map fun _ => true, by rw [List.map_map]; rfl, ?_⟩
    rw [all_map, List.all_eq_true.mpr fun _ _ => rfl]
    exact q


def S_told_lows : FC := SpC fun ds_ P_ => ∃ (fs : List Fl) (ds : List Int) (dd : D), ds_ = [encFs fs, dd] ∧ (fs.length ≤ 60 ∧ ds.length < 64 ∧ (dd = .list (ds.map PyData.int) ∨ dd = .tuple (ds.map PyData.int))) ∧ P_ = fun d => ∃ ts : List Int, ts.Pairwise (· < ·) ∧ (∀ k, k ∈ ts ↔ k ∈ ds) ∧ d = .list (ts.map fun t => .tuple [.int t, .int (lowAt fs ds t)])
theorem up_told_lows : UpC S_told_lows := up_SpC
theorem use_told_lows {fs : List Fl} {ds : List Int} {dd : D} {Q : D → Prop} (pre : fs.length ≤ 60 ∧ ds.length < 64 ∧ (dd = .list (ds.map PyData.int) ∨ dd = .tuple (ds.map PyData.int))) (h : ∀ d, (fun d => ∃ ts : List Int, ts.Pairwise (· < ·) ∧ (∀ k, k ∈ ts ↔ k ∈ ds) ∧ d = .list (ts.map fun t => .tuple [.int t, .int (lowAt fs ds t)])) d → Q d) : S_told_lows [encFs fs, dd] Q := ⟨_, ⟨fs, ds, dd, rfl, pre, rfl⟩, h⟩
set_option maxHeartbeats 4000000 in
theorem ok_told_lows (T : Tx mg) (F : FunAt K mg "told_lows" s_told_lows p_told_lows)  : OkAt P w K mg base "told_lows" p_told_lows 1 (spP K S_told_lows) := by
  have nd := sc_told_lows.nd
  refine okP F sc_told_lows (by rintro ds Q ⟨P, ⟨fs, ds, dd, rfl, _, _⟩, _⟩; rfl) fun f cdv A outer s H E hr => ⟨_, (ssd_cons (sd_setO (i := 2) nd rfl (by first | exact Or.inl rfl | exact Or.inr rfl) (ld_lst ad_nil)) (ssd_cons (sd_for PassesOwn.never rfl (id_seq (ed_new (ld_sortedSet rfl (by rfl) T.sorted (by rfl) T.set (ed_var (pv 1))))) (gd_name (pg_name (i := 3) nd rfl (by first | exact Or.inl rfl | exact Or.inr rfl))) (ssd_cons (sd_set (i := 4) nd rfl (by first | exact Or.inl rfl | exact Or.inr rfl) (ed_call (fun h => pe_callB (cr_sum rfl) (by rfl) T.sum PyProof.Rows.boot_sum h) lk_sum up_sum (ad_cons (ed_new (ld_comp (own := [("flow", 5), ("day", 6)]) rfl nd (id_zip (by rfl) T.zip (ad_cons (ed_var (pv 0)) (ad_cons (ed_var (pv 1)) ad_nil))) (blkOk_by (N := N_told_lows) (sc := defScope s_told_lows) (by decide +kernel)) (by decide) (fun _ _ _ _ _ => (gd_tup (n := 2) rfl (gsd_cons (gd_name (pg_name (i := 5) nd rfl (by first | exact Or.inl rfl | exact Or.inr rfl))) (gsd_cons (gd_name (pg_name (i := 6) nd rfl (by first | exact Or.inl rfl | exact Or.inr rfl))) gsd_nil)))) (fun _ _ _ _ _ => (tsd_one (td_w (wd_and (td_gt (hU hr) (ed_ix (fun _ _ => rfl) (ed_var (pv 5)) ed_int) ed_int) (wd_and1 (td_lt (hU hr) (ed_var (pv 6)) (ed_var (pv 3)))))))) (fun _ _ _ _ _ => (ed_ix (fun _ _ => rfl) (ed_var (pv 5)) ed_int)) s)) ad_nil))) (ssd_one (sd_app (pv 2) (ed_tup (ad_cons (ed_var (pv 3)) (ad_cons (ed_add (ed_var (pv 4)) (ed_call (fun h => pe_callB (cr_sum rfl) (by rfl) T.sum PyProof.Rows.boot_sum h) lk_sum up_sum (ad_cons (ed_new (ld_comp (own := [("flow", 5), ("day", 6)]) rfl nd (id_zip (by rfl) T.zip (ad_cons (ed_var (pv 0)) (ad_cons (ed_var (pv 1)) ad_nil))) (blkOk_by (N := N_told_lows) (sc := defScope s_told_lows) (by decide +kernel)) (by decide) (fun _ _ _ _ _ => (gd_tup (n := 2) rfl (gsd_cons (gd_name (pg_name (i := 5) nd rfl (by first | exact Or.inl rfl | exact Or.inr rfl))) (gsd_cons (gd_name (pg_name (i := 6) nd rfl (by first | exact Or.inl rfl | exact Or.inr rfl))) gsd_nil)))) (fun _ _ _ _ _ => (tsd_one (td_w (wd_and (td_lt (hU hr) (ed_ix (fun _ _ => rfl) (ed_var (pv 5)) ed_int) ed_int) (wd_and1 (td_le (hU hr) (ed_var (pv 6)) (ed_var (pv 3)))))))) (fun _ _ _ _ _ => (ed_ix (fun _ _ => rfl) (ed_var (pv 5)) ed_int)) s)) ad_nil))) ad_nil))) (fun h => pe_bm PySem.F.plainAttrs_list PySem.F.slot_list_append PySem.F.type_list_append mt_append (pv 2) (pa_cons h pa_nil)))))) (ssd_one (sd_ret (ed_move (pv 2)))))), fun ds Q h => ?_⟩
  obtain ⟨P, ⟨fs, ds, dd, rfl, pre, rfl⟩, q⟩ := h
  obtain ⟨l1, l2, hd⟩ := pre
  simp only [dSeq, dNext, dRet, dRetN, dIfS, dNever, dAsg, dSetO, dPar, dPar3, dAug, dDrop, dApp, dSetIx, dVar, dC, PD.d2, PD.d1, dCons, dNil, dStar, dTup, dLstN, dLst, dNew, dAnd, dOr, dNot, dIf, dB, bAnd, bOr, bNot, fAdd_ii, fAdd_tt, fAdd_ll, fSub_ii, fMul_ii, fDiv_ii, fMod_ii, fPow_ii, fNeg_i, fLt_ii, fLe_ii, fGt_ii, fGe_ii, fOpI_ii, dIs, dCall, dCallM, dCallMN, lCall, dIxO, dIsN, dNotN, fIsN_i, fIsN_n, fIsN_t, fNotN_i, fNotN_n, fNotN_t, dSl, dNo, dSome, fSl_l, fSl_t, dChain, dChain3, cLen_l, cLen_t, cInt_i, cInt_b, cAbs_i, cMax2_ii, cMin2_ii, cTuple_l, cTuple_t, cList_l, cList_t, gSet, gNilD, gConsD, gTupD, iSeq, PD.iZip, iR1, iR2, dComp, dFor, dSortedSet, dRg1, dRg2, fIx_l, fIx_t, fRev_l, fRev_t, dMove, dBreak, dCont, startD, startM, List.map_cons, List.map_nil, List.length_cons, List.length_nil, List.cons_append, List.nil_append, List.getElem?_cons_zero, List.getElem?_cons_succ, List.set_cons_zero, List.set_cons_succ, Option.some.injEq, Sl.dt.injEq, Sl.ow.injEq, PyData.int.injEq, PyData.bool.injEq, PyData.tuple.injEq, PyData.list.injEq, PyData.str.injEq, exists_eq_left, exists_eq_left', exists_eq_right, true_and, and_true, List.cons.injEq, Ob.lst.injEq, Nat.sub_zero, Nat.reduceAdd, Nat.reduceSub, List.replicate_succ, List.replicate_zero, if_true, if_false, Bool.false_eq_true, if_false, PyData.isInt, PyData.isBool, PyData.isStr, PyData.isTuple, PyData.isList, fEq_int, fNe_int, fEq_str, fNe_str, fEq_pair, fNe_pair, fNe_str1, fEq_nil, fNe_nil, atI_0, atI_1, atI_2, ixN_0, ixN_1, ixN_2, Bool.not_true, Bool.not_false, ite_true, ite_false, reduceCtorEq, ↓reduceIte, exists_and_left, exists_const, and_assoc, or_false, false_or, Nat.zero_le, Int.reduceAdd, Int.reduceNeg, Int.reduceSub, Int.reduceMul, Int.reduceLE, Int.reduceLT, Int.cast_ofNat_Int, decide_true, decide_false, eq_self, Nat.reduceLeDiff, Int.reduceEq, encFs]
  intro p
  refine ⟨_, hd, l2, fun ts hp hk => ?_⟩
  have lt : ts.length < 64 := Nat.lt_of_le_of_lt (nodup_le (hp.imp fun h => Int.ne_of_lt h) fun k hk' => (hk k).mp hk') l2
  refine for_all PyData.int (fun rest e => ∃ (done : List Int) (s3 s4 : Sl), e = [.dt (.tuple (fs.map encF)), .dt dd, .ow true p (.lst (done.map fun t => .tuple [.int t, .int (lowAt fs ds t)])), s3, s4, .no, .no] ∧ ts = done ++ rest) ts _ ⟨[], _, _, rfl, rfl⟩ (fun t r e ⟨done, s3, s4, he, ht⟩ N hN => ?_) fun e ⟨done, s3, s4, he, ht⟩ => ?_
  · subst he
    (try simp only [dSeq, dNext, dRet, dRetN, dIfS, dNever, dAsg, dSetO, dPar, dPar3, dAug, dDrop, dApp, dSetIx, dVar, dC, PD.d2, PD.d1, dCons, dNil, dStar, dTup, dLstN, dLst, dNew, dAnd, dOr, dNot, dIf, dB, bAnd, bOr, bNot, fAdd_ii, fAdd_tt, fAdd_ll, fSub_ii, fMul_ii, fDiv_ii, fMod_ii, fPow_ii, fNeg_i, fLt_ii, fLe_ii, fGt_ii, fGe_ii, fOpI_ii, dIs, dCall, dCallM, dCallMN, lCall, dIxO, dIsN, dNotN, fIsN_i, fIsN_n, fIsN_t, fNotN_i, fNotN_n, fNotN_t, dSl, dNo, dSome, fSl_l, fSl_t, dChain, dChain3, cLen_l, cLen_t, cInt_i, cInt_b, cAbs_i, cMax2_ii, cMin2_ii, cTuple_l, cTuple_t, cList_l, cList_t, gSet, gNilD, gConsD, gTupD, iSeq, PD.iZip, iR1, iR2, dComp, dFor, dSortedSet, dRg1, dRg2, fIx_l, fIx_t, fRev_l, fRev_t, dMove, dBreak, dCont, startD, startM, List.map_cons, List.map_nil, List.length_cons, List.length_nil, List.cons_append, List.nil_append, List.getElem?_cons_zero, List.getElem?_cons_succ, List.set_cons_zero, List.set_cons_succ, Option.some.injEq, Sl.dt.injEq, Sl.ow.injEq, PyData.int.injEq, PyData.bool.injEq, PyData.tuple.injEq, PyData.list.injEq, PyData.str.injEq, exists_eq_left, exists_eq_left', exists_eq_right, true_and, and_true, List.cons.injEq, Ob.lst.injEq, Nat.sub_zero, Nat.reduceAdd, Nat.reduceSub, List.replicate_succ, List.replicate_zero, if_true, if_false, Bool.false_eq_true, if_false, PyData.isInt, PyData.isBool, PyData.isStr, PyData.isTuple, PyData.isList, fEq_int, fNe_int, fEq_str, fNe_str, fEq_pair, fNe_pair, fNe_str1, fEq_nil, fNe_nil, atI_0, atI_1, atI_2, ixN_0, ixN_1, ixN_2, Bool.not_true, Bool.not_false, ite_true, ite_false, reduceCtorEq, ↓reduceIte, exists_and_left, exists_const, and_assoc, or_false, false_or, Nat.zero_le, Int.reduceAdd, Int.reduceNeg, Int.reduceSub, Int.reduceMul, Int.reduceLE, Int.reduceLT, Int.cast_ofNat_Int, decide_true, decide_false, eq_self, Nat.reduceLeDiff, Int.reduceEq])
    refine ⟨_, hd, ?_, ?_⟩
    · unfold zipD
      rw [List.length_zipWith, List.length_map]
      omega
    rw [zip_map]
    refine comp_if (fun z : Fl × Int => PyData.tuple [encF z.1, .int z.2]) (fun z => decide (0 < z.1.2.2) && decide (z.2 < t)) (fun z => .int z.1.2.2) (fs.zip ds) rfl (fun z hz K K0 hK hK0 => ?_) fun e2 he2 => cSum_of (by rw [List.map_map]; rfl) ?_
    · simp only [restD_c, restD_n, keepD_d, keepD_n, keepD_o, wipeD_c, wipeD_n, List.getElem?_cons_zero, List.getElem?_cons_succ, List.set_cons_zero, List.set_cons_succ, dSeq, dNext, dRet, dRetN, dIfS, dNever, dAsg, dSetO, dPar, dPar3, dAug, dDrop, dApp, dSetIx, dVar, dC, PD.d2, PD.d1, dCons, dNil, dStar, dTup, dLstN, dLst, dNew, dAnd, dOr, dNot, dIf, dB, bAnd, bOr, bNot, fAdd_ii, fAdd_tt, fAdd_ll, fSub_ii, fMul_ii, fDiv_ii, fMod_ii, fPow_ii, fNeg_i, fLt_ii, fLe_ii, fGt_ii, fGe_ii, fOpI_ii, dIs, dCall, dCallM, dCallMN, lCall, dIxO, dIsN, dNotN, fIsN_i, fIsN_n, fIsN_t, fNotN_i, fNotN_n, fNotN_t, dSl, dNo, dSome, fSl_l, fSl_t, dChain, dChain3, cLen_l, cLen_t, cInt_i, cInt_b, cAbs_i, cMax2_ii, cMin2_ii, cTuple_l, cTuple_t, cList_l, cList_t, gSet, gNilD, gConsD, gTupD, iSeq, PD.iZip, iR1, iR2, dComp, dFor, dSortedSet, dRg1, dRg2, fIx_l, fIx_t, fRev_l, fRev_t, dMove, dBreak, dCont, startD, startM, List.map_cons, List.map_nil, List.length_cons, List.length_nil, List.cons_append, List.nil_append, List.getElem?_cons_zero, List.getElem?_cons_succ, List.set_cons_zero, List.set_cons_succ, Option.some.injEq, Sl.dt.injEq, Sl.ow.injEq, PyData.int.injEq, PyData.bool.injEq, PyData.tuple.injEq, PyData.list.injEq, PyData.str.injEq, exists_eq_left, exists_eq_left', exists_eq_right, true_and, and_true, List.cons.injEq, Ob.lst.injEq, Nat.sub_zero, Nat.reduceAdd, Nat.reduceSub, List.replicate_succ, List.replicate_zero, if_true, if_false, Bool.false_eq_true, if_false, PyData.isInt, PyData.isBool, PyData.isStr, PyData.isTuple, PyData.isList, fEq_int, fNe_int, fEq_str, fNe_str, fEq_pair, fNe_pair, fNe_str1, fEq_nil, fNe_nil, atI_0, atI_1, atI_2, ixN_0, ixN_1, ixN_2, Bool.not_true, Bool.not_false, ite_true, ite_false, reduceCtorEq, ↓reduceIte, exists_and_left, exists_const, and_assoc, or_false, false_or, Nat.zero_le, Int.reduceAdd, Int.reduceNeg, Int.reduceSub, Int.reduceMul, Int.reduceLE, Int.reduceLT, Int.cast_ofNat_Int, decide_true, decide_false, eq_self, Nat.reduceLeDiff, Int.reduceEq, encF]
      (repeat' split) <;> first | exact hK (by first | (rename_i a b; revert a b; simp; done) | (rename_i a b; revert a b; simp; omega) | (rename_i a; revert a; simp; done) | (rename_i a; revert a; simp; omega)) _ rfl | exact hK0 (by first | (rename_i a b; revert a b; simp; done) | (rename_i a b; revert a b; simp; omega) | (rename_i a; revert a; simp; done) | (rename_i a; revert a; simp; omega)) _ rfl
    rw [he2]
    simp only [restD_c, restD_n, keepD_d, keepD_n, keepD_o, wipeD_c, wipeD_n, List.getElem?_cons_zero, List.getElem?_cons_succ, List.set_cons_zero, List.set_cons_succ, dSeq, dNext, dRet, dRetN, dIfS, dNever, dAsg, dSetO, dPar, dPar3, dAug, dDrop, dApp, dSetIx, dVar, dC, PD.d2, PD.d1, dCons, dNil, dStar, dTup, dLstN, dLst, dNew, dAnd, dOr, dNot, dIf, dB, bAnd, bOr, bNot, fAdd_ii, fAdd_tt, fAdd_ll, fSub_ii, fMul_ii, fDiv_ii, fMod_ii, fPow_ii, fNeg_i, fLt_ii, fLe_ii, fGt_ii, fGe_ii, fOpI_ii, dIs, dCall, dCallM, dCallMN, lCall, dIxO, dIsN, dNotN, fIsN_i, fIsN_n, fIsN_t, fNotN_i, fNotN_n, fNotN_t, dSl, dNo, dSome, fSl_l, fSl_t, dChain, dChain3, cLen_l, cLen_t, cInt_i, cInt_b, cAbs_i, cMax2_ii, cMin2_ii, cTuple_l, cTuple_t, cList_l, cList_t, gSet, gNilD, gConsD, gTupD, iSeq, PD.iZip, iR1, iR2, dComp, dFor, dSortedSet, dRg1, dRg2, fIx_l, fIx_t, fRev_l, fRev_t, dMove, dBreak, dCont, startD, startM, List.map_cons, List.map_nil, List.length_cons, List.length_nil, List.cons_append, List.nil_append, List.getElem?_cons_zero, List.getElem?_cons_succ, List.set_cons_zero, List.set_cons_succ, Option.some.injEq, Sl.dt.injEq, Sl.ow.injEq, PyData.int.injEq, PyData.bool.injEq, PyData.tuple.injEq, PyData.list.injEq, PyData.str.injEq, exists_eq_left, exists_eq_left', exists_eq_right, true_and, and_true, List.cons.injEq, Ob.lst.injEq, Nat.sub_zero, Nat.reduceAdd, Nat.reduceSub, List.replicate_succ, List.replicate_zero, if_true, if_false, Bool.false_eq_true, if_false, PyData.isInt, PyData.isBool, PyData.isStr, PyData.isTuple, PyData.isList, fEq_int, fNe_int, fEq_str, fNe_str, fEq_pair, fNe_pair, fNe_str1, fEq_nil, fNe_nil, atI_0, atI_1, atI_2, ixN_0, ixN_1, ixN_2, Bool.not_true, Bool.not_false, ite_true, ite_false, reduceCtorEq, ↓reduceIte, exists_and_left, exists_const, and_assoc, or_false, false_or, Nat.zero_le, Int.reduceAdd, Int.reduceNeg, Int.reduceSub, Int.reduceMul, Int.reduceLE, Int.reduceLT, Int.cast_ofNat_Int, decide_true, decide_false, eq_self, Nat.reduceLeDiff, Int.reduceEq]
    refine ⟨_, hd, ?_, ?_⟩
    · unfold zipD
      rw [List.length_zipWith, List.length_map]
      omega
    rw [zip_map]
    refine comp_if (fun z : Fl × Int => PyData.tuple [encF z.1, .int z.2]) (fun z => decide (z.1.2.2 < 0) && decide (z.2 ≤ t)) (fun z => .int z.1.2.2) (fs.zip ds) rfl (fun z hz K K0 hK hK0 => ?_) fun e3 he3 => cSum_of (by rw [List.map_map]; rfl) ?_
    · simp only [restD_c, restD_n, keepD_d, keepD_n, keepD_o, wipeD_c, wipeD_n, List.getElem?_cons_zero, List.getElem?_cons_succ, List.set_cons_zero, List.set_cons_succ, dSeq, dNext, dRet, dRetN, dIfS, dNever, dAsg, dSetO, dPar, dPar3, dAug, dDrop, dApp, dSetIx, dVar, dC, PD.d2, PD.d1, dCons, dNil, dStar, dTup, dLstN, dLst, dNew, dAnd, dOr, dNot, dIf, dB, bAnd, bOr, bNot, fAdd_ii, fAdd_tt, fAdd_ll, fSub_ii, fMul_ii, fDiv_ii, fMod_ii, fPow_ii, fNeg_i, fLt_ii, fLe_ii, fGt_ii, fGe_ii, fOpI_ii, dIs, dCall, dCallM, dCallMN, lCall, dIxO, dIsN, dNotN, fIsN_i, fIsN_n, fIsN_t, fNotN_i, fNotN_n, fNotN_t, dSl, dNo, dSome, fSl_l, fSl_t, dChain, dChain3, cLen_l, cLen_t, cInt_i, cInt_b, cAbs_i, cMax2_ii, cMin2_ii, cTuple_l, cTuple_t, cList_l, cList_t, gSet, gNilD, gConsD, gTupD, iSeq, PD.iZip, iR1, iR2, dComp, dFor, dSortedSet, dRg1, dRg2, fIx_l, fIx_t, fRev_l, fRev_t, dMove, dBreak, dCont, startD, startM, List.map_cons, List.map_nil, List.length_cons, List.length_nil, List.cons_append, List.nil_append, List.getElem?_cons_zero, List.getElem?_cons_succ, List.set_cons_zero, List.set_cons_succ, Option.some.injEq, Sl.dt.injEq, Sl.ow.injEq, PyData.int.injEq, PyData.bool.injEq, PyData.tuple.injEq, PyData.list.injEq, PyData.str.injEq, exists_eq_left, exists_eq_left', exists_eq_right, true_and, and_true, List.cons.injEq, Ob.lst.injEq, Nat.sub_zero, Nat.reduceAdd, Nat.reduceSub, List.replicate_succ, List.replicate_zero, if_true, if_false, Bool.false_eq_true, if_false, PyData.isInt, PyData.isBool, PyData.isStr, PyData.isTuple, PyData.isList, fEq_int, fNe_int, fEq_str, fNe_str, fEq_pair, fNe_pair, fNe_str1, fEq_nil, fNe_nil, atI_0, atI_1, atI_2, ixN_0, ixN_1, ixN_2, Bool.not_true, Bool.not_false, ite_true, ite_false, reduceCtorEq, ↓reduceIte, exists_and_left, exists_const, and_assoc, or_false, false_or, Nat.zero_le, Int.reduceAdd, Int.reduceNeg, Int.reduceSub, Int.reduceMul, Int.reduceLE, Int.reduceLT, Int.cast_ofNat_Int, decide_true, decide_false, eq_self, Nat.reduceLeDiff, Int.reduceEq, encF]
      (repeat' split) <;> first | exact hK (by first | (rename_i a b; revert a b; simp; done) | (rename_i a b; revert a b; simp; omega) | (rename_i a; revert a; simp; done) | (rename_i a; revert a; simp; omega)) _ rfl | exact hK0 (by first | (rename_i a b; revert a b; simp; done) | (rename_i a b; revert a b; simp; omega) | (rename_i a; revert a; simp; done) | (rename_i a; revert a; simp; omega)) _ rfl
    rw [he3]
    simp only [restD_c, restD_n, keepD_d, keepD_n, keepD_o, wipeD_c, wipeD_n, List.getElem?_cons_zero, List.getElem?_cons_succ, List.set_cons_zero, List.set_cons_succ, dSeq, dNext, dRet, dRetN, dIfS, dNever, dAsg, dSetO, dPar, dPar3, dAug, dDrop, dApp, dSetIx, dVar, dC, PD.d2, PD.d1, dCons, dNil, dStar, dTup, dLstN, dLst, dNew, dAnd, dOr, dNot, dIf, dB, bAnd, bOr, bNot, fAdd_ii, fAdd_tt, fAdd_ll, fSub_ii, fMul_ii, fDiv_ii, fMod_ii, fPow_ii, fNeg_i, fLt_ii, fLe_ii, fGt_ii, fGe_ii, fOpI_ii, dIs, dCall, dCallM, dCallMN, lCall, dIxO, dIsN, dNotN, fIsN_i, fIsN_n, fIsN_t, fNotN_i, fNotN_n, fNotN_t, dSl, dNo, dSome, fSl_l, fSl_t, dChain, dChain3, cLen_l, cLen_t, cInt_i, cInt_b, cAbs_i, cMax2_ii, cMin2_ii, cTuple_l, cTuple_t, cList_l, cList_t, gSet, gNilD, gConsD, gTupD, iSeq, PD.iZip, iR1, iR2, dComp, dFor, dSortedSet, dRg1, dRg2, fIx_l, fIx_t, fRev_l, fRev_t, dMove, dBreak, dCont, startD, startM, List.map_cons, List.map_nil, List.length_cons, List.length_nil, List.cons_append, List.nil_append, List.getElem?_cons_zero, List.getElem?_cons_succ, List.set_cons_zero, List.set_cons_succ, Option.some.injEq, Sl.dt.injEq, Sl.ow.injEq, PyData.int.injEq, PyData.bool.injEq, PyData.tuple.injEq, PyData.list.injEq, PyData.str.injEq, exists_eq_left, exists_eq_left', exists_eq_right, true_and, and_true, List.cons.injEq, Ob.lst.injEq, Nat.sub_zero, Nat.reduceAdd, Nat.reduceSub, List.replicate_succ, List.replicate_zero, if_true, if_false, Bool.false_eq_true, if_false, PyData.isInt, PyData.isBool, PyData.isStr, PyData.isTuple, PyData.isList, fEq_int, fNe_int, fEq_str, fNe_str, fEq_pair, fNe_pair, fNe_str1, fEq_nil, fNe_nil, atI_0, atI_1, atI_2, ixN_0, ixN_1, ixN_2, Bool.not_true, Bool.not_false, ite_true, ite_false, reduceCtorEq, ↓reduceIte, exists_and_left, exists_const, and_assoc, or_false, false_or, Nat.zero_le, Int.reduceAdd, Int.reduceNeg, Int.reduceSub, Int.reduceMul, Int.reduceLE, Int.reduceLT, Int.cast_ofNat_Int, decide_true, decide_false, eq_self, Nat.reduceLeDiff, Int.reduceEq]
    refine ⟨?_, ?_⟩
    · rw [List.length_map]
      have := congrArg List.length ht
      rw [List.length_append] at this
      omega
    · exact hN _ ⟨done ++ [t], _, _, by rw [List.map_append]; rfl, by rw [List.append_assoc]; exact ht⟩
  · subst he
    rw [List.append_nil] at ht
    (try simp only [dSeq, dNext, dRet, dRetN, dIfS, dNever, dAsg, dSetO, dPar, dPar3, dAug, dDrop, dApp, dSetIx, dVar, dC, PD.d2, PD.d1, dCons, dNil, dStar, dTup, dLstN, dLst, dNew, dAnd, dOr, dNot, dIf, dB, bAnd, bOr, bNot, fAdd_ii, fAdd_tt, fAdd_ll, fSub_ii, fMul_ii, fDiv_ii, fMod_ii, fPow_ii, fNeg_i, fLt_ii, fLe_ii, fGt_ii, fGe_ii, fOpI_ii, dIs, dCall, dCallM, dCallMN, lCall, dIxO, dIsN, dNotN, fIsN_i, fIsN_n, fIsN_t, fNotN_i, fNotN_n, fNotN_t, dSl, dNo, dSome, fSl_l, fSl_t, dChain, dChain3, cLen_l, cLen_t, cInt_i, cInt_b, cAbs_i, cMax2_ii, cMin2_ii, cTuple_l, cTuple_t, cList_l, cList_t, gSet, gNilD, gConsD, gTupD, iSeq, PD.iZip, iR1, iR2, dComp, dFor, dSortedSet, dRg1, dRg2, fIx_l, fIx_t, fRev_l, fRev_t, dMove, dBreak, dCont, startD, startM, List.map_cons, List.map_nil, List.length_cons, List.length_nil, List.cons_append, List.nil_append, List.getElem?_cons_zero, List.getElem?_cons_succ, List.set_cons_zero, List.set_cons_succ, Option.some.injEq, Sl.dt.injEq, Sl.ow.injEq, PyData.int.injEq, PyData.bool.injEq, PyData.tuple.injEq, PyData.list.injEq, PyData.str.injEq, exists_eq_left, exists_eq_left', exists_eq_right, true_and, and_true, List.cons.injEq, Ob.lst.injEq, Nat.sub_zero, Nat.reduceAdd, Nat.reduceSub, List.replicate_succ, List.replicate_zero, if_true, if_false, Bool.false_eq_true, if_false, PyData.isInt, PyData.isBool, PyData.isStr, PyData.isTuple, PyData.isList, fEq_int, fNe_int, fEq_str, fNe_str, fEq_pair, fNe_pair, fNe_str1, fEq_nil, fNe_nil, atI_0, atI_1, atI_2, ixN_0, ixN_1, ixN_2, Bool.not_true, Bool.not_false, ite_true, ite_false, reduceCtorEq, ↓reduceIte, exists_and_left, exists_const, and_assoc, or_false, false_or, Nat.zero_le, Int.reduceAdd, Int.reduceNeg, Int.reduceSub, Int.reduceMul, Int.reduceLE, Int.reduceLT, Int.cast_ofNat_Int, decide_true, decide_false, eq_self, Nat.reduceLeDiff, Int.reduceEq])
    exact q _ ⟨ts, hp, hk, by rw [ht]⟩


def S_lows_of : FC := SpC fun ds_ P_ => ∃ (cash : Int) (fs : List Fl) (ds : List Int), ds_ = [.int cash, encFs fs, .tuple (ds.map PyData.int)] ∧ (FlsOk fs ∧ CrsOk fs ds ∧ 0 ≤ cash ∧ cash ≤ 1000000000) ∧ P_ = fun d => ∃ ts : List Int, ts.Pairwise (· < ·) ∧ (∀ k, k ∈ ts ↔ k ∈ ds) ∧ d = .tuple (ts.map fun t => .tuple [.int t, .int (cash + lowAt fs ds t)])
theorem up_lows_of : UpC S_lows_of := up_SpC
theorem use_lows_of {cash : Int} {fs : List Fl} {ds : List Int} {Q : D → Prop} (pre : FlsOk fs ∧ CrsOk fs ds ∧ 0 ≤ cash ∧ cash ≤ 1000000000) (h : ∀ d, (fun d => ∃ ts : List Int, ts.Pairwise (· < ·) ∧ (∀ k, k ∈ ts ↔ k ∈ ds) ∧ d = .tuple (ts.map fun t => .tuple [.int t, .int (cash + lowAt fs ds t)])) d → Q d) : S_lows_of [.int cash, encFs fs, .tuple (ds.map PyData.int)] Q := ⟨_, ⟨cash, fs, ds, rfl, pre, rfl⟩, h⟩
set_option maxHeartbeats 4000000 in
theorem ok_lows_of (T : Tx mg) (F : FunAt K mg "lows_of" s_lows_of p_lows_of) (h_told_lows : OkAt P w K mg base "told_lows" p_told_lows 1 (spP K S_told_lows)) (h_is_course : OkAt P w K mg base "is_course" p_is_course 3 (spP K S_is_course)) (h_look_at_flows : OkAt P w K mg base "look_at_flows" p_look_at_flows 5 (spP K S_look_at_flows)) : OkAt P w K mg base "lows_of" p_lows_of 6 (spP K S_lows_of) := by
  have nd := sc_lows_of.nd
  refine okP F sc_lows_of (by rintro ds Q ⟨P, ⟨cash, fs, ds, rfl, _, _⟩, _⟩; rfl) fun f cdv A outer s H E hr => ⟨_, (ssd_cons (sd_expr (ed_fnA h_look_at_flows up_look_at_flows hr (by rfl) (ad_cons (ed_var (pv 0)) (ad_cons (ed_var (pv 1)) ad_nil)))) (ssd_cons (sd_if (td_not (td_val (ed_fnA h_is_course up_is_course (hr.mono (by decide)) (by rfl) (ad_cons (ed_var (pv 1)) (ad_cons (ed_var (pv 2)) ad_nil))))) ssd_never ssd_nil) (ssd_one (sd_ret (ed_call (fun h => pe_callTy call_tuple_of (by rfl) T.tuple PyProof.Rows.boot_tuple h) lk_tuple up_tuple (ad_cons (ed_new (ld_comp (own := [("day", 3), ("money", 4)]) rfl nd (id_seq (ed_fnA h_told_lows up_told_lows (hr.mono (by decide)) (by rfl) (ad_cons (ed_var (pv 1)) (ad_cons (ed_var (pv 2)) ad_nil)))) (blkOk_by (N := N_lows_of) (sc := defScope s_lows_of) (by decide +kernel)) (by decide) (fun _ _ _ _ _ => (gd_tup (n := 2) rfl (gsd_cons (gd_name (pg_name (i := 3) nd rfl (by first | exact Or.inl rfl | exact Or.inr rfl))) (gsd_cons (gd_name (pg_name (i := 4) nd rfl (by first | exact Or.inl rfl | exact Or.inr rfl))) gsd_nil)))) (fun _ _ _ _ _ => tsd_nil) (fun _ _ _ _ _ => (ed_tup (ad_cons (ed_var (pv 3)) (ad_cons (ed_add (ed_var (pv 0)) (ed_var (pv 4))) ad_nil)))) s)) ad_nil)))))), fun ds Q h => ?_⟩
  obtain ⟨P, ⟨cash, fs, ds, rfl, pre, rfl⟩, q⟩ := h
  obtain ⟨okf, okc, c0, c1⟩ := pre
  have l1 := okf.1
  have l2 := okc.1
  (try simp only [dSeq, dNext, dRet, dRetN, dIfS, dNever, dAsg, dSetO, dPar, dPar3, dAug, dDrop, dApp, dSetIx, dVar, dC, PD.d2, PD.d1, dCons, dNil, dStar, dTup, dLstN, dLst, dNew, dAnd, dOr, dNot, dIf, dB, bAnd, bOr, bNot, fAdd_ii, fAdd_tt, fAdd_ll, fSub_ii, fMul_ii, fDiv_ii, fMod_ii, fPow_ii, fNeg_i, fLt_ii, fLe_ii, fGt_ii, fGe_ii, fOpI_ii, dIs, dCall, dCallM, dCallMN, lCall, dIxO, dIsN, dNotN, fIsN_i, fIsN_n, fIsN_t, fNotN_i, fNotN_n, fNotN_t, dSl, dNo, dSome, fSl_l, fSl_t, dChain, dChain3, cLen_l, cLen_t, cInt_i, cInt_b, cAbs_i, cMax2_ii, cMin2_ii, cTuple_l, cTuple_t, cList_l, cList_t, gSet, gNilD, gConsD, gTupD, iSeq, PD.iZip, iR1, iR2, dComp, dFor, dSortedSet, dRg1, dRg2, fIx_l, fIx_t, fRev_l, fRev_t, dMove, dBreak, dCont, startD, startM, List.map_cons, List.map_nil, List.length_cons, List.length_nil, List.cons_append, List.nil_append, List.getElem?_cons_zero, List.getElem?_cons_succ, List.set_cons_zero, List.set_cons_succ, Option.some.injEq, Sl.dt.injEq, Sl.ow.injEq, PyData.int.injEq, PyData.bool.injEq, PyData.tuple.injEq, PyData.list.injEq, PyData.str.injEq, exists_eq_left, exists_eq_left', exists_eq_right, true_and, and_true, List.cons.injEq, Ob.lst.injEq, Nat.sub_zero, Nat.reduceAdd, Nat.reduceSub, List.replicate_succ, List.replicate_zero, if_true, if_false, Bool.false_eq_true, if_false, PyData.isInt, PyData.isBool, PyData.isStr, PyData.isTuple, PyData.isList, fEq_int, fNe_int, fEq_str, fNe_str, fEq_pair, fNe_pair, fNe_str1, fEq_nil, fNe_nil, atI_0, atI_1, atI_2, ixN_0, ixN_1, ixN_2, Bool.not_true, Bool.not_false, ite_true, ite_false, reduceCtorEq, ↓reduceIte, exists_and_left, exists_const, and_assoc, or_false, false_or, Nat.zero_le, Int.reduceAdd, Int.reduceNeg, Int.reduceSub, Int.reduceMul, Int.reduceLE, Int.reduceLT, Int.cast_ofNat_Int, decide_true, decide_false, eq_self, Nat.reduceLeDiff, Int.reduceEq])
  refine use_look_at_flows ⟨okf, c0, c1⟩ ?_
  (try simp only [dSeq, dNext, dRet, dRetN, dIfS, dNever, dAsg, dSetO, dPar, dPar3, dAug, dDrop, dApp, dSetIx, dVar, dC, PD.d2, PD.d1, dCons, dNil, dStar, dTup, dLstN, dLst, dNew, dAnd, dOr, dNot, dIf, dB, bAnd, bOr, bNot, fAdd_ii, fAdd_tt, fAdd_ll, fSub_ii, fMul_ii, fDiv_ii, fMod_ii, fPow_ii, fNeg_i, fLt_ii, fLe_ii, fGt_ii, fGe_ii, fOpI_ii, dIs, dCall, dCallM, dCallMN, lCall, dIxO, dIsN, dNotN, fIsN_i, fIsN_n, fIsN_t, fNotN_i, fNotN_n, fNotN_t, dSl, dNo, dSome, fSl_l, fSl_t, dChain, dChain3, cLen_l, cLen_t, cInt_i, cInt_b, cAbs_i, cMax2_ii, cMin2_ii, cTuple_l, cTuple_t, cList_l, cList_t, gSet, gNilD, gConsD, gTupD, iSeq, PD.iZip, iR1, iR2, dComp, dFor, dSortedSet, dRg1, dRg2, fIx_l, fIx_t, fRev_l, fRev_t, dMove, dBreak, dCont, startD, startM, List.map_cons, List.map_nil, List.length_cons, List.length_nil, List.cons_append, List.nil_append, List.getElem?_cons_zero, List.getElem?_cons_succ, List.set_cons_zero, List.set_cons_succ, Option.some.injEq, Sl.dt.injEq, Sl.ow.injEq, PyData.int.injEq, PyData.bool.injEq, PyData.tuple.injEq, PyData.list.injEq, PyData.str.injEq, exists_eq_left, exists_eq_left', exists_eq_right, true_and, and_true, List.cons.injEq, Ob.lst.injEq, Nat.sub_zero, Nat.reduceAdd, Nat.reduceSub, List.replicate_succ, List.replicate_zero, if_true, if_false, Bool.false_eq_true, if_false, PyData.isInt, PyData.isBool, PyData.isStr, PyData.isTuple, PyData.isList, fEq_int, fNe_int, fEq_str, fNe_str, fEq_pair, fNe_pair, fNe_str1, fEq_nil, fNe_nil, atI_0, atI_1, atI_2, ixN_0, ixN_1, ixN_2, Bool.not_true, Bool.not_false, ite_true, ite_false, reduceCtorEq, ↓reduceIte, exists_and_left, exists_const, and_assoc, or_false, false_or, Nat.zero_le, Int.reduceAdd, Int.reduceNeg, Int.reduceSub, Int.reduceMul, Int.reduceLE, Int.reduceLT, Int.cast_ofNat_Int, decide_true, decide_false, eq_self, Nat.reduceLeDiff, Int.reduceEq])
  refine use_is_course ⟨okf, okc⟩ ⟨_, rfl, ?_⟩
  (try simp only [dSeq, dNext, dRet, dRetN, dIfS, dNever, dAsg, dSetO, dPar, dPar3, dAug, dDrop, dApp, dSetIx, dVar, dC, PD.d2, PD.d1, dCons, dNil, dStar, dTup, dLstN, dLst, dNew, dAnd, dOr, dNot, dIf, dB, bAnd, bOr, bNot, fAdd_ii, fAdd_tt, fAdd_ll, fSub_ii, fMul_ii, fDiv_ii, fMod_ii, fPow_ii, fNeg_i, fLt_ii, fLe_ii, fGt_ii, fGe_ii, fOpI_ii, dIs, dCall, dCallM, dCallMN, lCall, dIxO, dIsN, dNotN, fIsN_i, fIsN_n, fIsN_t, fNotN_i, fNotN_n, fNotN_t, dSl, dNo, dSome, fSl_l, fSl_t, dChain, dChain3, cLen_l, cLen_t, cInt_i, cInt_b, cAbs_i, cMax2_ii, cMin2_ii, cTuple_l, cTuple_t, cList_l, cList_t, gSet, gNilD, gConsD, gTupD, iSeq, PD.iZip, iR1, iR2, dComp, dFor, dSortedSet, dRg1, dRg2, fIx_l, fIx_t, fRev_l, fRev_t, dMove, dBreak, dCont, startD, startM, List.map_cons, List.map_nil, List.length_cons, List.length_nil, List.cons_append, List.nil_append, List.getElem?_cons_zero, List.getElem?_cons_succ, List.set_cons_zero, List.set_cons_succ, Option.some.injEq, Sl.dt.injEq, Sl.ow.injEq, PyData.int.injEq, PyData.bool.injEq, PyData.tuple.injEq, PyData.list.injEq, PyData.str.injEq, exists_eq_left, exists_eq_left', exists_eq_right, true_and, and_true, List.cons.injEq, Ob.lst.injEq, Nat.sub_zero, Nat.reduceAdd, Nat.reduceSub, List.replicate_succ, List.replicate_zero, if_true, if_false, Bool.false_eq_true, if_false, PyData.isInt, PyData.isBool, PyData.isStr, PyData.isTuple, PyData.isList, fEq_int, fNe_int, fEq_str, fNe_str, fEq_pair, fNe_pair, fNe_str1, fEq_nil, fNe_nil, atI_0, atI_1, atI_2, ixN_0, ixN_1, ixN_2, Bool.not_true, Bool.not_false, ite_true, ite_false, reduceCtorEq, ↓reduceIte, exists_and_left, exists_const, and_assoc, or_false, false_or, Nat.zero_le, Int.reduceAdd, Int.reduceNeg, Int.reduceSub, Int.reduceMul, Int.reduceLE, Int.reduceLT, Int.cast_ofNat_Int, decide_true, decide_false, eq_self, Nat.reduceLeDiff, Int.reduceEq])
  refine use_told_lows ⟨l1, by omega, .inr rfl⟩ ?_
  rintro _ ⟨ts, hp, hk, rfl⟩
  have lt : ts.length < 64 := Nat.lt_of_le_of_lt (nodup_le (hp.imp fun h => Int.ne_of_lt h) fun k hk' => (hk k).mp hk') (by omega)
  refine ⟨_, .inl rfl, by rw [List.length_map]; omega, ?_⟩
  refine comp_all (fun t : Int => .tuple [.int t, .int (lowAt fs ds t)]) (fun t => .tuple [.int t, .int (cash + lowAt fs ds t)]) ts rfl (fun t _ K hK => ?_) fun e2 _ => ?_
  · simp only [restD_c, restD_n, keepD_d, keepD_n, keepD_o, wipeD_c, wipeD_n, List.getElem?_cons_zero, List.getElem?_cons_succ, List.set_cons_zero, List.set_cons_succ, dSeq, dNext, dRet, dRetN, dIfS, dNever, dAsg, dSetO, dPar, dPar3, dAug, dDrop, dApp, dSetIx, dVar, dC, PD.d2, PD.d1, dCons, dNil, dStar, dTup, dLstN, dLst, dNew, dAnd, dOr, dNot, dIf, dB, bAnd, bOr, bNot, fAdd_ii, fAdd_tt, fAdd_ll, fSub_ii, fMul_ii, fDiv_ii, fMod_ii, fPow_ii, fNeg_i, fLt_ii, fLe_ii, fGt_ii, fGe_ii, fOpI_ii, dIs, dCall, dCallM, dCallMN, lCall, dIxO, dIsN, dNotN, fIsN_i, fIsN_n, fIsN_t, fNotN_i, fNotN_n, fNotN_t, dSl, dNo, dSome, fSl_l, fSl_t, dChain, dChain3, cLen_l, cLen_t, cInt_i, cInt_b, cAbs_i, cMax2_ii, cMin2_ii, cTuple_l, cTuple_t, cList_l, cList_t, gSet, gNilD, gConsD, gTupD, iSeq, PD.iZip, iR1, iR2, dComp, dFor, dSortedSet, dRg1, dRg2, fIx_l, fIx_t, fRev_l, fRev_t, dMove, dBreak, dCont, startD, startM, List.map_cons, List.map_nil, List.length_cons, List.length_nil, List.cons_append, List.nil_append, List.getElem?_cons_zero, List.getElem?_cons_succ, List.set_cons_zero, List.set_cons_succ, Option.some.injEq, Sl.dt.injEq, Sl.ow.injEq, PyData.int.injEq, PyData.bool.injEq, PyData.tuple.injEq, PyData.list.injEq, PyData.str.injEq, exists_eq_left, exists_eq_left', exists_eq_right, true_and, and_true, List.cons.injEq, Ob.lst.injEq, Nat.sub_zero, Nat.reduceAdd, Nat.reduceSub, List.replicate_succ, List.replicate_zero, if_true, if_false, Bool.false_eq_true, if_false, PyData.isInt, PyData.isBool, PyData.isStr, PyData.isTuple, PyData.isList, fEq_int, fNe_int, fEq_str, fNe_str, fEq_pair, fNe_pair, fNe_str1, fEq_nil, fNe_nil, atI_0, atI_1, atI_2, ixN_0, ixN_1, ixN_2, Bool.not_true, Bool.not_false, ite_true, ite_false, reduceCtorEq, ↓reduceIte, exists_and_left, exists_const, and_assoc, or_false, false_or, Nat.zero_le, Int.reduceAdd, Int.reduceNeg, Int.reduceSub, Int.reduceMul, Int.reduceLE, Int.reduceLT, Int.cast_ofNat_Int, decide_true, decide_false, eq_self, Nat.reduceLeDiff, Int.reduceEq]
    exact hK _ rfl
  · (try simp only [dSeq, dNext, dRet, dRetN, dIfS, dNever, dAsg, dSetO, dPar, dPar3, dAug, dDrop, dApp, dSetIx, dVar, dC, PD.d2, PD.d1, dCons, dNil, dStar, dTup, dLstN, dLst, dNew, dAnd, dOr, dNot, dIf, dB, bAnd, bOr, bNot, fAdd_ii, fAdd_tt, fAdd_ll, fSub_ii, fMul_ii, fDiv_ii, fMod_ii, fPow_ii, fNeg_i, fLt_ii, fLe_ii, fGt_ii, fGe_ii, fOpI_ii, dIs, dCall, dCallM, dCallMN, lCall, dIxO, dIsN, dNotN, fIsN_i, fIsN_n, fIsN_t, fNotN_i, fNotN_n, fNotN_t, dSl, dNo, dSome, fSl_l, fSl_t, dChain, dChain3, cLen_l, cLen_t, cInt_i, cInt_b, cAbs_i, cMax2_ii, cMin2_ii, cTuple_l, cTuple_t, cList_l, cList_t, gSet, gNilD, gConsD, gTupD, iSeq, PD.iZip, iR1, iR2, dComp, dFor, dSortedSet, dRg1, dRg2, fIx_l, fIx_t, fRev_l, fRev_t, dMove, dBreak, dCont, startD, startM, List.map_cons, List.map_nil, List.length_cons, List.length_nil, List.cons_append, List.nil_append, List.getElem?_cons_zero, List.getElem?_cons_succ, List.set_cons_zero, List.set_cons_succ, Option.some.injEq, Sl.dt.injEq, Sl.ow.injEq, PyData.int.injEq, PyData.bool.injEq, PyData.tuple.injEq, PyData.list.injEq, PyData.str.injEq, exists_eq_left, exists_eq_left', exists_eq_right, true_and, and_true, List.cons.injEq, Ob.lst.injEq, Nat.sub_zero, Nat.reduceAdd, Nat.reduceSub, List.replicate_succ, List.replicate_zero, if_true, if_false, Bool.false_eq_true, if_false, PyData.isInt, PyData.isBool, PyData.isStr, PyData.isTuple, PyData.isList, fEq_int, fNe_int, fEq_str, fNe_str, fEq_pair, fNe_pair, fNe_str1, fEq_nil, fNe_nil, atI_0, atI_1, atI_2, ixN_0, ixN_1, ixN_2, Bool.not_true, Bool.not_false, ite_true, ite_false, reduceCtorEq, ↓reduceIte, exists_and_left, exists_const, and_assoc, or_false, false_or, Nat.zero_le, Int.reduceAdd, Int.reduceNeg, Int.reduceSub, Int.reduceMul, Int.reduceLE, Int.reduceLT, Int.cast_ofNat_Int, decide_true, decide_false, eq_self, Nat.reduceLeDiff, Int.reduceEq])
    exact q _ ⟨ts, hp, hk, rfl⟩


def S_told_worst : FC := SpC fun ds_ P_ => ∃ (fs : List Fl), ds_ = [encFs fs] ∧ (fs.length ≤ 60) ∧ P_ = fun d => d = .list ((fs.map worst).map PyData.int)
theorem up_told_worst : UpC S_told_worst := up_SpC
theorem use_told_worst {fs : List Fl} {Q : D → Prop} (pre : fs.length ≤ 60) (h : Q (.list ((fs.map worst).map PyData.int))) : S_told_worst [encFs fs] Q := ⟨_, ⟨fs, rfl, pre, rfl⟩, fun d e => e ▸ h⟩
set_option maxHeartbeats 4000000 in
theorem ok_told_worst (T : Tx mg) (F : FunAt K mg "told_worst" s_told_worst p_told_worst)  : OkAt P w K mg base "told_worst" p_told_worst 1 (spP K S_told_worst) := by
  have nd := sc_told_worst.nd
  refine okP F sc_told_worst (by rintro ds Q ⟨P, ⟨fs, rfl, _, _⟩, _⟩; rfl) fun f cdv A outer s H E hr => ⟨_, (ssd_one (sd_ret (ed_new (ld_comp (own := [("first", 1), ("last", 2), ("money", 3)]) rfl nd (id_seq (ed_var (pv 0))) (blkOk_by (N := N_told_worst) (sc := defScope s_told_worst) (by decide +kernel)) (by decide) (fun _ _ _ _ _ => (gd_tup (n := 3) rfl (gsd_cons (gd_name (pg_name (i := 1) nd rfl (by first | exact Or.inl rfl | exact Or.inr rfl))) (gsd_cons (gd_name (pg_name (i := 2) nd rfl (by first | exact Or.inl rfl | exact Or.inr rfl))) (gsd_cons (gd_name (pg_name (i := 3) nd rfl (by first | exact Or.inl rfl | exact Or.inr rfl))) gsd_nil))))) (fun _ _ _ _ _ => tsd_nil) (fun _ _ _ _ _ => (ed_if (td_lt (hU hr) (ed_var (pv 3)) ed_int) (ed_var (pv 1)) (ed_var (pv 2)))) s)))), fun ds Q h => ?_⟩
  obtain ⟨P, ⟨fs, rfl, pre, rfl⟩, q⟩ := h
  replace q := q _ rfl
  simp only [dSeq, dNext, dRet, dRetN, dIfS, dNever, dAsg, dSetO, dPar, dPar3, dAug, dDrop, dApp, dSetIx, dVar, dC, PD.d2, PD.d1, dCons, dNil, dStar, dTup, dLstN, dLst, dNew, dAnd, dOr, dNot, dIf, dB, bAnd, bOr, bNot, fAdd_ii, fAdd_tt, fAdd_ll, fSub_ii, fMul_ii, fDiv_ii, fMod_ii, fPow_ii, fNeg_i, fLt_ii, fLe_ii, fGt_ii, fGe_ii, fOpI_ii, dIs, dCall, dCallM, dCallMN, lCall, dIxO, dIsN, dNotN, fIsN_i, fIsN_n, fIsN_t, fNotN_i, fNotN_n, fNotN_t, dSl, dNo, dSome, fSl_l, fSl_t, dChain, dChain3, cLen_l, cLen_t, cInt_i, cInt_b, cAbs_i, cMax2_ii, cMin2_ii, cTuple_l, cTuple_t, cList_l, cList_t, gSet, gNilD, gConsD, gTupD, iSeq, PD.iZip, iR1, iR2, dComp, dFor, dSortedSet, dRg1, dRg2, fIx_l, fIx_t, fRev_l, fRev_t, dMove, dBreak, dCont, startD, startM, List.map_cons, List.map_nil, List.length_cons, List.length_nil, List.cons_append, List.nil_append, List.getElem?_cons_zero, List.getElem?_cons_succ, List.set_cons_zero, List.set_cons_succ, Option.some.injEq, Sl.dt.injEq, Sl.ow.injEq, PyData.int.injEq, PyData.bool.injEq, PyData.tuple.injEq, PyData.list.injEq, PyData.str.injEq, exists_eq_left, exists_eq_left', exists_eq_right, true_and, and_true, List.cons.injEq, Ob.lst.injEq, Nat.sub_zero, Nat.reduceAdd, Nat.reduceSub, List.replicate_succ, List.replicate_zero, if_true, if_false, Bool.false_eq_true, if_false, PyData.isInt, PyData.isBool, PyData.isStr, PyData.isTuple, PyData.isList, fEq_int, fNe_int, fEq_str, fNe_str, fEq_pair, fNe_pair, fNe_str1, fEq_nil, fNe_nil, atI_0, atI_1, atI_2, ixN_0, ixN_1, ixN_2, Bool.not_true, Bool.not_false, ite_true, ite_false, reduceCtorEq, ↓reduceIte, exists_and_left, exists_const, and_assoc, or_false, false_or, Nat.zero_le, Int.reduceAdd, Int.reduceNeg, Int.reduceSub, Int.reduceMul, Int.reduceLE, Int.reduceLT, Int.cast_ofNat_Int, decide_true, decide_false, eq_self, Nat.reduceLeDiff, Int.reduceEq, encFs, List.length_map]
  refine ⟨by omega, ?_⟩
  refine comp_all encF (fun f => .int (worst f)) fs rfl (fun f _ K hK => ?_) fun e2 _ => ?_
  · simp only [restD_c, restD_n, keepD_d, keepD_n, keepD_o, wipeD_c, wipeD_n, List.getElem?_cons_zero, List.getElem?_cons_succ, List.set_cons_zero, List.set_cons_succ, dSeq, dNext, dRet, dRetN, dIfS, dNever, dAsg, dSetO, dPar, dPar3, dAug, dDrop, dApp, dSetIx, dVar, dC, PD.d2, PD.d1, dCons, dNil, dStar, dTup, dLstN, dLst, dNew, dAnd, dOr, dNot, dIf, dB, bAnd, bOr, bNot, fAdd_ii, fAdd_tt, fAdd_ll, fSub_ii, fMul_ii, fDiv_ii, fMod_ii, fPow_ii, fNeg_i, fLt_ii, fLe_ii, fGt_ii, fGe_ii, fOpI_ii, dIs, dCall, dCallM, dCallMN, lCall, dIxO, dIsN, dNotN, fIsN_i, fIsN_n, fIsN_t, fNotN_i, fNotN_n, fNotN_t, dSl, dNo, dSome, fSl_l, fSl_t, dChain, dChain3, cLen_l, cLen_t, cInt_i, cInt_b, cAbs_i, cMax2_ii, cMin2_ii, cTuple_l, cTuple_t, cList_l, cList_t, gSet, gNilD, gConsD, gTupD, iSeq, PD.iZip, iR1, iR2, dComp, dFor, dSortedSet, dRg1, dRg2, fIx_l, fIx_t, fRev_l, fRev_t, dMove, dBreak, dCont, startD, startM, List.map_cons, List.map_nil, List.length_cons, List.length_nil, List.cons_append, List.nil_append, List.getElem?_cons_zero, List.getElem?_cons_succ, List.set_cons_zero, List.set_cons_succ, Option.some.injEq, Sl.dt.injEq, Sl.ow.injEq, PyData.int.injEq, PyData.bool.injEq, PyData.tuple.injEq, PyData.list.injEq, PyData.str.injEq, exists_eq_left, exists_eq_left', exists_eq_right, true_and, and_true, List.cons.injEq, Ob.lst.injEq, Nat.sub_zero, Nat.reduceAdd, Nat.reduceSub, List.replicate_succ, List.replicate_zero, if_true, if_false, Bool.false_eq_true, if_false, PyData.isInt, PyData.isBool, PyData.isStr, PyData.isTuple, PyData.isList, fEq_int, fNe_int, fEq_str, fNe_str, fEq_pair, fNe_pair, fNe_str1, fEq_nil, fNe_nil, atI_0, atI_1, atI_2, ixN_0, ixN_1, ixN_2, Bool.not_true, Bool.not_false, ite_true, ite_false, reduceCtorEq, ↓reduceIte, exists_and_left, exists_const, and_assoc, or_false, false_or, Nat.zero_le, Int.reduceAdd, Int.reduceNeg, Int.reduceSub, Int.reduceMul, Int.reduceLE, Int.reduceLT, Int.cast_ofNat_Int, decide_true, decide_false, eq_self, Nat.reduceLeDiff, Int.reduceEq, encF]
    unfold worst at hK
    split <;> rename_i a <;> simp only [decide_eq_true_eq] at a <;> simp only [a, ↓reduceIte] at hK <;> exact hK _ rfl
  · rw [List.map_map] at q
    exact q


def S_told_best : FC := SpC fun ds_ P_ => ∃ (fs : List Fl), ds_ = [encFs fs] ∧ (fs.length ≤ 60) ∧ P_ = fun d => d = .list ((fs.map best).map PyData.int)
theorem up_told_best : UpC S_told_best := up_SpC
theorem use_told_best {fs : List Fl} {Q : D → Prop} (pre : fs.length ≤ 60) (h : Q (.list ((fs.map best).map PyData.int))) : S_told_best [encFs fs] Q := ⟨_, ⟨fs, rfl, pre, rfl⟩, fun d e => e ▸ h⟩
set_option maxHeartbeats 4000000 in
theorem ok_told_best (T : Tx mg) (F : FunAt K mg "told_best" s_told_best p_told_best)  : OkAt P w K mg base "told_best" p_told_best 1 (spP K S_told_best) := by
  have nd := sc_told_best.nd
  refine okP F sc_told_best (by rintro ds Q ⟨P, ⟨fs, rfl, _, _⟩, _⟩; rfl) fun f cdv A outer s H E hr => ⟨_, (ssd_one (sd_ret (ed_new (ld_comp (own := [("first", 1), ("last", 2), ("money", 3)]) rfl nd (id_seq (ed_var (pv 0))) (blkOk_by (N := N_told_best) (sc := defScope s_told_best) (by decide +kernel)) (by decide) (fun _ _ _ _ _ => (gd_tup (n := 3) rfl (gsd_cons (gd_name (pg_name (i := 1) nd rfl (by first | exact Or.inl rfl | exact Or.inr rfl))) (gsd_cons (gd_name (pg_name (i := 2) nd rfl (by first | exact Or.inl rfl | exact Or.inr rfl))) (gsd_cons (gd_name (pg_name (i := 3) nd rfl (by first | exact Or.inl rfl | exact Or.inr rfl))) gsd_nil))))) (fun _ _ _ _ _ => tsd_nil) (fun _ _ _ _ _ => (ed_if (td_lt (hU hr) (ed_var (pv 3)) ed_int) (ed_var (pv 2)) (ed_var (pv 1)))) s)))), fun ds Q h => ?_⟩
  obtain ⟨P, ⟨fs, rfl, pre, rfl⟩, q⟩ := h
  replace q := q _ rfl
  simp only [dSeq, dNext, dRet, dRetN, dIfS, dNever, dAsg, dSetO, dPar, dPar3, dAug, dDrop, dApp, dSetIx, dVar, dC, PD.d2, PD.d1, dCons, dNil, dStar, dTup, dLstN, dLst, dNew, dAnd, dOr, dNot, dIf, dB, bAnd, bOr, bNot, fAdd_ii, fAdd_tt, fAdd_ll, fSub_ii, fMul_ii, fDiv_ii, fMod_ii, fPow_ii, fNeg_i, fLt_ii, fLe_ii, fGt_ii, fGe_ii, fOpI_ii, dIs, dCall, dCallM, dCallMN, lCall, dIxO, dIsN, dNotN, fIsN_i, fIsN_n, fIsN_t, fNotN_i, fNotN_n, fNotN_t, dSl, dNo, dSome, fSl_l, fSl_t, dChain, dChain3, cLen_l, cLen_t, cInt_i, cInt_b, cAbs_i, cMax2_ii, cMin2_ii, cTuple_l, cTuple_t, cList_l, cList_t, gSet, gNilD, gConsD, gTupD, iSeq, PD.iZip, iR1, iR2, dComp, dFor, dSortedSet, dRg1, dRg2, fIx_l, fIx_t, fRev_l, fRev_t, dMove, dBreak, dCont, startD, startM, List.map_cons, List.map_nil, List.length_cons, List.length_nil, List.cons_append, List.nil_append, List.getElem?_cons_zero, List.getElem?_cons_succ, List.set_cons_zero, List.set_cons_succ, Option.some.injEq, Sl.dt.injEq, Sl.ow.injEq, PyData.int.injEq, PyData.bool.injEq, PyData.tuple.injEq, PyData.list.injEq, PyData.str.injEq, exists_eq_left, exists_eq_left', exists_eq_right, true_and, and_true, List.cons.injEq, Ob.lst.injEq, Nat.sub_zero, Nat.reduceAdd, Nat.reduceSub, List.replicate_succ, List.replicate_zero, if_true, if_false, Bool.false_eq_true, if_false, PyData.isInt, PyData.isBool, PyData.isStr, PyData.isTuple, PyData.isList, fEq_int, fNe_int, fEq_str, fNe_str, fEq_pair, fNe_pair, fNe_str1, fEq_nil, fNe_nil, atI_0, atI_1, atI_2, ixN_0, ixN_1, ixN_2, Bool.not_true, Bool.not_false, ite_true, ite_false, reduceCtorEq, ↓reduceIte, exists_and_left, exists_const, and_assoc, or_false, false_or, Nat.zero_le, Int.reduceAdd, Int.reduceNeg, Int.reduceSub, Int.reduceMul, Int.reduceLE, Int.reduceLT, Int.cast_ofNat_Int, decide_true, decide_false, eq_self, Nat.reduceLeDiff, Int.reduceEq, encFs, List.length_map]
  refine ⟨by omega, ?_⟩
  refine comp_all encF (fun f => .int (best f)) fs rfl (fun f _ K hK => ?_) fun e2 _ => ?_
  · simp only [restD_c, restD_n, keepD_d, keepD_n, keepD_o, wipeD_c, wipeD_n, List.getElem?_cons_zero, List.getElem?_cons_succ, List.set_cons_zero, List.set_cons_succ, dSeq, dNext, dRet, dRetN, dIfS, dNever, dAsg, dSetO, dPar, dPar3, dAug, dDrop, dApp, dSetIx, dVar, dC, PD.d2, PD.d1, dCons, dNil, dStar, dTup, dLstN, dLst, dNew, dAnd, dOr, dNot, dIf, dB, bAnd, bOr, bNot, fAdd_ii, fAdd_tt, fAdd_ll, fSub_ii, fMul_ii, fDiv_ii, fMod_ii, fPow_ii, fNeg_i, fLt_ii, fLe_ii, fGt_ii, fGe_ii, fOpI_ii, dIs, dCall, dCallM, dCallMN, lCall, dIxO, dIsN, dNotN, fIsN_i, fIsN_n, fIsN_t, fNotN_i, fNotN_n, fNotN_t, dSl, dNo, dSome, fSl_l, fSl_t, dChain, dChain3, cLen_l, cLen_t, cInt_i, cInt_b, cAbs_i, cMax2_ii, cMin2_ii, cTuple_l, cTuple_t, cList_l, cList_t, gSet, gNilD, gConsD, gTupD, iSeq, PD.iZip, iR1, iR2, dComp, dFor, dSortedSet, dRg1, dRg2, fIx_l, fIx_t, fRev_l, fRev_t, dMove, dBreak, dCont, startD, startM, List.map_cons, List.map_nil, List.length_cons, List.length_nil, List.cons_append, List.nil_append, List.getElem?_cons_zero, List.getElem?_cons_succ, List.set_cons_zero, List.set_cons_succ, Option.some.injEq, Sl.dt.injEq, Sl.ow.injEq, PyData.int.injEq, PyData.bool.injEq, PyData.tuple.injEq, PyData.list.injEq, PyData.str.injEq, exists_eq_left, exists_eq_left', exists_eq_right, true_and, and_true, List.cons.injEq, Ob.lst.injEq, Nat.sub_zero, Nat.reduceAdd, Nat.reduceSub, List.replicate_succ, List.replicate_zero, if_true, if_false, Bool.false_eq_true, if_false, PyData.isInt, PyData.isBool, PyData.isStr, PyData.isTuple, PyData.isList, fEq_int, fNe_int, fEq_str, fNe_str, fEq_pair, fNe_pair, fNe_str1, fEq_nil, fNe_nil, atI_0, atI_1, atI_2, ixN_0, ixN_1, ixN_2, Bool.not_true, Bool.not_false, ite_true, ite_false, reduceCtorEq, ↓reduceIte, exists_and_left, exists_const, and_assoc, or_false, false_or, Nat.zero_le, Int.reduceAdd, Int.reduceNeg, Int.reduceSub, Int.reduceMul, Int.reduceLE, Int.reduceLT, Int.cast_ofNat_Int, decide_true, decide_false, eq_self, Nat.reduceLeDiff, Int.reduceEq, encF]
    unfold best at hK
    split <;> rename_i a <;> simp only [decide_eq_true_eq] at a <;> simp only [a, ↓reduceIte] at hK <;> exact hK _ rfl
  · rw [List.map_map] at q
    exact q


def S_told_least : FC := SpC fun ds_ P_ => ∃ (fs : List Fl), ds_ = [encFs fs] ∧ (fs.length ≤ 60) ∧ P_ = fun d => ∃ (l : Int) (x : D), LeastOf fs (fs.map worst) l ∧ d = .tuple [.int l, x]
theorem up_told_least : UpC S_told_least := up_SpC
theorem use_told_least {fs : List Fl} {Q : D → Prop} (pre : fs.length ≤ 60) (h : ∀ d, (fun d => ∃ (l : Int) (x : D), LeastOf fs (fs.map worst) l ∧ d = .tuple [.int l, x]) d → Q d) : S_told_least [encFs fs] Q := ⟨_, ⟨fs, rfl, pre, rfl⟩, h⟩
set_option maxHeartbeats 4000000 in
theorem ok_told_least (T : Tx mg) (F : FunAt K mg "told_least" s_told_least p_told_least) (h_told_lows : OkAt P w K mg base "told_lows" p_told_lows 1 (spP K S_told_lows)) (h_told_worst : OkAt P w K mg base "told_worst" p_told_worst 1 (spP K S_told_worst)) : OkAt P w K mg base "told_least" p_told_least 2 (spP K S_told_least) := by
  have nd := sc_told_least.nd
  refine okP F sc_told_least (by rintro ds Q ⟨P, ⟨fs, rfl, _, _⟩, _⟩; rfl) fun f cdv A outer s H E hr => ⟨_, (ssd_cons (sd_set (i := 1) nd rfl (by first | exact Or.inl rfl | exact Or.inr rfl) (ed_fnA h_told_lows up_told_lows hr (by rfl) (ad_cons (ed_var (pv 0)) (ad_cons (ed_fnA h_told_worst up_told_worst hr (by rfl) (ad_cons (ed_var (pv 0)) ad_nil)) ad_nil)))) (ssd_one (sd_ret (ed_if (td_ne (hU hr) (ed_var (pv 1)) (ed_new (ld_lst ad_nil))) (ed_call (fun h => pe_callB (cr_minD rfl (hU hr)) (by rfl) T.min PyProof.Rows.boot_min h) (lk_best up_minL) up_minL (ad_cons (ed_new (ld_comp (own := [("day", 2), ("money", 3)]) rfl nd (id_seq (ed_var (pv 1))) (blkOk_by (N := N_told_least) (sc := defScope s_told_least) (by decide +kernel)) (by decide) (fun _ _ _ _ _ => (gd_tup (n := 2) rfl (gsd_cons (gd_name (pg_name (i := 2) nd rfl (by first | exact Or.inl rfl | exact Or.inr rfl))) (gsd_cons (gd_name (pg_name (i := 3) nd rfl (by first | exact Or.inl rfl | exact Or.inr rfl))) gsd_nil)))) (fun _ _ _ _ _ => tsd_nil) (fun _ _ _ _ _ => (ed_tup (ad_cons (ed_var (pv 3)) (ad_cons (ed_var (pv 2)) ad_nil)))) s)) ad_nil)) (ed_tup (ad_cons ed_int (ad_cons ed_non ad_nil))))))), fun ds Q h => ?_⟩
  obtain ⟨P, ⟨fs, rfl, pre, rfl⟩, q⟩ := h
  (try simp only [dSeq, dNext, dRet, dRetN, dIfS, dNever, dAsg, dSetO, dPar, dPar3, dAug, dDrop, dApp, dSetIx, dVar, dC, PD.d2, PD.d1, dCons, dNil, dStar, dTup, dLstN, dLst, dNew, dAnd, dOr, dNot, dIf, dB, bAnd, bOr, bNot, fAdd_ii, fAdd_tt, fAdd_ll, fSub_ii, fMul_ii, fDiv_ii, fMod_ii, fPow_ii, fNeg_i, fLt_ii, fLe_ii, fGt_ii, fGe_ii, fOpI_ii, dIs, dCall, dCallM, dCallMN, lCall, dIxO, dIsN, dNotN, fIsN_i, fIsN_n, fIsN_t, fNotN_i, fNotN_n, fNotN_t, dSl, dNo, dSome, fSl_l, fSl_t, dChain, dChain3, cLen_l, cLen_t, cInt_i, cInt_b, cAbs_i, cMax2_ii, cMin2_ii, cTuple_l, cTuple_t, cList_l, cList_t, gSet, gNilD, gConsD, gTupD, iSeq, PD.iZip, iR1, iR2, dComp, dFor, dSortedSet, dRg1, dRg2, fIx_l, fIx_t, fRev_l, fRev_t, dMove, dBreak, dCont, startD, startM, List.map_cons, List.map_nil, List.length_cons, List.length_nil, List.cons_append, List.nil_append, List.getElem?_cons_zero, List.getElem?_cons_succ, List.set_cons_zero, List.set_cons_succ, Option.some.injEq, Sl.dt.injEq, Sl.ow.injEq, PyData.int.injEq, PyData.bool.injEq, PyData.tuple.injEq, PyData.list.injEq, PyData.str.injEq, exists_eq_left, exists_eq_left', exists_eq_right, true_and, and_true, List.cons.injEq, Ob.lst.injEq, Nat.sub_zero, Nat.reduceAdd, Nat.reduceSub, List.replicate_succ, List.replicate_zero, if_true, if_false, Bool.false_eq_true, if_false, PyData.isInt, PyData.isBool, PyData.isStr, PyData.isTuple, PyData.isList, fEq_int, fNe_int, fEq_str, fNe_str, fEq_pair, fNe_pair, fNe_str1, fEq_nil, fNe_nil, atI_0, atI_1, atI_2, ixN_0, ixN_1, ixN_2, Bool.not_true, Bool.not_false, ite_true, ite_false, reduceCtorEq, ↓reduceIte, exists_and_left, exists_const, and_assoc, or_false, false_or, Nat.zero_le, Int.reduceAdd, Int.reduceNeg, Int.reduceSub, Int.reduceMul, Int.reduceLE, Int.reduceLT, Int.cast_ofNat_Int, decide_true, decide_false, eq_self, Nat.reduceLeDiff, Int.reduceEq])
  refine use_told_worst pre ?_
  refine use_told_lows ⟨pre, by rw [List.length_map]; omega, .inl rfl⟩ ?_
  rintro _ ⟨ts, hp, hk, rfl⟩
  have lt : ts.length < 64 := Nat.lt_of_le_of_lt (nodup_le (hp.imp fun h => Int.ne_of_lt h) fun k hk' => (hk k).mp hk') (by rw [List.length_map]; omega)
  (try simp only [dSeq, dNext, dRet, dRetN, dIfS, dNever, dAsg, dSetO, dPar, dPar3, dAug, dDrop, dApp, dSetIx, dVar, dC, PD.d2, PD.d1, dCons, dNil, dStar, dTup, dLstN, dLst, dNew, dAnd, dOr, dNot, dIf, dB, bAnd, bOr, bNot, fAdd_ii, fAdd_tt, fAdd_ll, fSub_ii, fMul_ii, fDiv_ii, fMod_ii, fPow_ii, fNeg_i, fLt_ii, fLe_ii, fGt_ii, fGe_ii, fOpI_ii, dIs, dCall, dCallM, dCallMN, lCall, dIxO, dIsN, dNotN, fIsN_i, fIsN_n, fIsN_t, fNotN_i, fNotN_n, fNotN_t, dSl, dNo, dSome, fSl_l, fSl_t, dChain, dChain3, cLen_l, cLen_t, cInt_i, cInt_b, cAbs_i, cMax2_ii, cMin2_ii, cTuple_l, cTuple_t, cList_l, cList_t, gSet, gNilD, gConsD, gTupD, iSeq, PD.iZip, iR1, iR2, dComp, dFor, dSortedSet, dRg1, dRg2, fIx_l, fIx_t, fRev_l, fRev_t, dMove, dBreak, dCont, startD, startM, List.map_cons, List.map_nil, List.length_cons, List.length_nil, List.cons_append, List.nil_append, List.getElem?_cons_zero, List.getElem?_cons_succ, List.set_cons_zero, List.set_cons_succ, Option.some.injEq, Sl.dt.injEq, Sl.ow.injEq, PyData.int.injEq, PyData.bool.injEq, PyData.tuple.injEq, PyData.list.injEq, PyData.str.injEq, exists_eq_left, exists_eq_left', exists_eq_right, true_and, and_true, List.cons.injEq, Ob.lst.injEq, Nat.sub_zero, Nat.reduceAdd, Nat.reduceSub, List.replicate_succ, List.replicate_zero, if_true, if_false, Bool.false_eq_true, if_false, PyData.isInt, PyData.isBool, PyData.isStr, PyData.isTuple, PyData.isList, fEq_int, fNe_int, fEq_str, fNe_str, fEq_pair, fNe_pair, fNe_str1, fEq_nil, fNe_nil, atI_0, atI_1, atI_2, ixN_0, ixN_1, ixN_2, Bool.not_true, Bool.not_false, ite_true, ite_false, reduceCtorEq, ↓reduceIte, exists_and_left, exists_const, and_assoc, or_false, false_or, Nat.zero_le, Int.reduceAdd, Int.reduceNeg, Int.reduceSub, Int.reduceMul, Int.reduceLE, Int.reduceLT, Int.cast_ofNat_Int, decide_true, decide_false, eq_self, Nat.reduceLeDiff, Int.reduceEq])
  have e0 : (ts.map fun t => PyData.tuple [PyData.int t, PyData.int (lowAt fs (List.map worst fs) t)]).isEmpty = fs.isEmpty := by
    rw [List.isEmpty_map]
    cases fs with
    | nil =>
      cases ts with
      | nil => rfl
      | cons t ts => exact absurd ((hk t).mp (List.mem_cons_self ..)) (by simp)
    | cons f fs =>
      cases ts with
      | nil => exact absurd ((hk (worst f)).mpr (List.mem_cons_self ..)) (by simp)
      | cons t ts => rfl
  rw [e0]
  cases hf : fs.isEmpty with
  | true =>
    simp only [dSeq, dNext, dRet, dRetN, dIfS, dNever, dAsg, dSetO, dPar, dPar3, dAug, dDrop, dApp, dSetIx, dVar, dC, PD.d2, PD.d1, dCons, dNil, dStar, dTup, dLstN, dLst, dNew, dAnd, dOr, dNot, dIf, dB, bAnd, bOr, bNot, fAdd_ii, fAdd_tt, fAdd_ll, fSub_ii, fMul_ii, fDiv_ii, fMod_ii, fPow_ii, fNeg_i, fLt_ii, fLe_ii, fGt_ii, fGe_ii, fOpI_ii, dIs, dCall, dCallM, dCallMN, lCall, dIxO, dIsN, dNotN, fIsN_i, fIsN_n, fIsN_t, fNotN_i, fNotN_n, fNotN_t, dSl, dNo, dSome, fSl_l, fSl_t, dChain, dChain3, cLen_l, cLen_t, cInt_i, cInt_b, cAbs_i, cMax2_ii, cMin2_ii, cTuple_l, cTuple_t, cList_l, cList_t, gSet, gNilD, gConsD, gTupD, iSeq, PD.iZip, iR1, iR2, dComp, dFor, dSortedSet, dRg1, dRg2, fIx_l, fIx_t, fRev_l, fRev_t, dMove, dBreak, dCont, startD, startM, List.map_cons, List.map_nil, List.length_cons, List.length_nil, List.cons_append, List.nil_append, List.getElem?_cons_zero, List.getElem?_cons_succ, List.set_cons_zero, List.set_cons_succ, Option.some.injEq, Sl.dt.injEq, Sl.ow.injEq, PyData.int.injEq, PyData.bool.injEq, PyData.tuple.injEq, PyData.list.injEq, PyData.str.injEq, exists_eq_left, exists_eq_left', exists_eq_right, true_and, and_true, List.cons.injEq, Ob.lst.injEq, Nat.sub_zero, Nat.reduceAdd, Nat.reduceSub, List.replicate_succ, List.replicate_zero, if_true, if_false, Bool.false_eq_true, if_false, PyData.isInt, PyData.isBool, PyData.isStr, PyData.isTuple, PyData.isList, fEq_int, fNe_int, fEq_str, fNe_str, fEq_pair, fNe_pair, fNe_str1, fEq_nil, fNe_nil, atI_0, atI_1, atI_2, ixN_0, ixN_1, ixN_2, Bool.not_true, Bool.not_false, ite_true, ite_false, reduceCtorEq, ↓reduceIte, exists_and_left, exists_const, and_assoc, or_false, false_or, Nat.zero_le, Int.reduceAdd, Int.reduceNeg, Int.reduceSub, Int.reduceMul, Int.reduceLE, Int.reduceLT, Int.cast_ofNat_Int, decide_true, decide_false, eq_self, Nat.reduceLeDiff, Int.reduceEq]
    exact q _ ⟨0, .none, .inl ⟨List.isEmpty_iff.mp hf, rfl⟩, rfl⟩
  | false =>
    have hne : fs ≠ [] := fun z => by rw [z] at hf; cases hf
    have tne : ts ≠ [] := fun z => by
      subst z
      cases fs with
      | nil => exact hne rfl
      | cons f fs => exact absurd ((hk (worst f)).mpr (List.mem_cons_self ..)) (by simp)
    simp only [dSeq, dNext, dRet, dRetN, dIfS, dNever, dAsg, dSetO, dPar, dPar3, dAug, dDrop, dApp, dSetIx, dVar, dC, PD.d2, PD.d1, dCons, dNil, dStar, dTup, dLstN, dLst, dNew, dAnd, dOr, dNot, dIf, dB, bAnd, bOr, bNot, fAdd_ii, fAdd_tt, fAdd_ll, fSub_ii, fMul_ii, fDiv_ii, fMod_ii, fPow_ii, fNeg_i, fLt_ii, fLe_ii, fGt_ii, fGe_ii, fOpI_ii, dIs, dCall, dCallM, dCallMN, lCall, dIxO, dIsN, dNotN, fIsN_i, fIsN_n, fIsN_t, fNotN_i, fNotN_n, fNotN_t, dSl, dNo, dSome, fSl_l, fSl_t, dChain, dChain3, cLen_l, cLen_t, cInt_i, cInt_b, cAbs_i, cMax2_ii, cMin2_ii, cTuple_l, cTuple_t, cList_l, cList_t, gSet, gNilD, gConsD, gTupD, iSeq, PD.iZip, iR1, iR2, dComp, dFor, dSortedSet, dRg1, dRg2, fIx_l, fIx_t, fRev_l, fRev_t, dMove, dBreak, dCont, startD, startM, List.map_cons, List.map_nil, List.length_cons, List.length_nil, List.cons_append, List.nil_append, List.getElem?_cons_zero, List.getElem?_cons_succ, List.set_cons_zero, List.set_cons_succ, Option.some.injEq, Sl.dt.injEq, Sl.ow.injEq, PyData.int.injEq, PyData.bool.injEq, PyData.tuple.injEq, PyData.list.injEq, PyData.str.injEq, exists_eq_left, exists_eq_left', exists_eq_right, true_and, and_true, List.cons.injEq, Ob.lst.injEq, Nat.sub_zero, Nat.reduceAdd, Nat.reduceSub, List.replicate_succ, List.replicate_zero, if_true, if_false, Bool.false_eq_true, if_false, PyData.isInt, PyData.isBool, PyData.isStr, PyData.isTuple, PyData.isList, fEq_int, fNe_int, fEq_str, fNe_str, fEq_pair, fNe_pair, fNe_str1, fEq_nil, fNe_nil, atI_0, atI_1, atI_2, ixN_0, ixN_1, ixN_2, Bool.not_true, Bool.not_false, ite_true, ite_false, reduceCtorEq, ↓reduceIte, exists_and_left, exists_const, and_assoc, or_false, false_or, Nat.zero_le, Int.reduceAdd, Int.reduceNeg, Int.reduceSub, Int.reduceMul, Int.reduceLE, Int.reduceLT, Int.cast_ofNat_Int, decide_true, decide_false, eq_self, Nat.reduceLeDiff, Int.reduceEq]
    refine ⟨by rw [List.length_map]; omega, ?_⟩
    refine comp_all (fun t : Int => .tuple [.int t, .int (lowAt fs (fs.map worst) t)]) (fun t => .tuple [.int (lowAt fs (fs.map worst) t), .int t]) ts rfl (fun t _ K hK => ?_) fun e2 _ => ?_
    · simp only [restD_c, restD_n, keepD_d, keepD_n, keepD_o, wipeD_c, wipeD_n, List.getElem?_cons_zero, List.getElem?_cons_succ, List.set_cons_zero, List.set_cons_succ, dSeq, dNext, dRet, dRetN, dIfS, dNever, dAsg, dSetO, dPar, dPar3, dAug, dDrop, dApp, dSetIx, dVar, dC, PD.d2, PD.d1, dCons, dNil, dStar, dTup, dLstN, dLst, dNew, dAnd, dOr, dNot, dIf, dB, bAnd, bOr, bNot, fAdd_ii, fAdd_tt, fAdd_ll, fSub_ii, fMul_ii, fDiv_ii, fMod_ii, fPow_ii, fNeg_i, fLt_ii, fLe_ii, fGt_ii, fGe_ii, fOpI_ii, dIs, dCall, dCallM, dCallMN, lCall, dIxO, dIsN, dNotN, fIsN_i, fIsN_n, fIsN_t, fNotN_i, fNotN_n, fNotN_t, dSl, dNo, dSome, fSl_l, fSl_t, dChain, dChain3, cLen_l, cLen_t, cInt_i, cInt_b, cAbs_i, cMax2_ii, cMin2_ii, cTuple_l, cTuple_t, cList_l, cList_t, gSet, gNilD, gConsD, gTupD, iSeq, PD.iZip, iR1, iR2, dComp, dFor, dSortedSet, dRg1, dRg2, fIx_l, fIx_t, fRev_l, fRev_t, dMove, dBreak, dCont, startD, startM, List.map_cons, List.map_nil, List.length_cons, List.length_nil, List.cons_append, List.nil_append, List.getElem?_cons_zero, List.getElem?_cons_succ, List.set_cons_zero, List.set_cons_succ, Option.some.injEq, Sl.dt.injEq, Sl.ow.injEq, PyData.int.injEq, PyData.bool.injEq, PyData.tuple.injEq, PyData.list.injEq, PyData.str.injEq, exists_eq_left, exists_eq_left', exists_eq_right, true_and, and_true, List.cons.injEq, Ob.lst.injEq, Nat.sub_zero, Nat.reduceAdd, Nat.reduceSub, List.replicate_succ, List.replicate_zero, if_true, if_false, Bool.false_eq_true, if_false, PyData.isInt, PyData.isBool, PyData.isStr, PyData.isTuple, PyData.isList, fEq_int, fNe_int, fEq_str, fNe_str, fEq_pair, fNe_pair, fNe_str1, fEq_nil, fNe_nil, atI_0, atI_1, atI_2, ixN_0, ixN_1, ixN_2, Bool.not_true, Bool.not_false, ite_true, ite_false, reduceCtorEq, ↓reduceIte, exists_and_left, exists_const, and_assoc, or_false, false_or, Nat.zero_le, Int.reduceAdd, Int.reduceNeg, Int.reduceSub, Int.reduceMul, Int.reduceLE, Int.reduceLT, Int.cast_ofNat_Int, decide_true, decide_false, eq_self, Nat.reduceLeDiff, Int.reduceEq]
      exact hK _ rfl
    have em : (ts.map fun t => PyData.tuple [.int (lowAt fs (fs.map worst) t), .int t]) = (ts.map fun t => (lowAt fs (fs.map worst) t, t)).map fun a : Int × Int => PyData.tuple [.int a.1, .int a.2] := by rw [List.map_map]; rfl
    rw [em]
    refine min_pairs (fun _ => rfl) (fun z => tne (List.map_eq_nil_iff.mp z)) fun m hm hl => ?_
    obtain ⟨t, ht, rfl⟩ := List.mem_map.mp hm
    exact q _ ⟨_, _, .inr ⟨hne, ⟨t, (hk t).mp ht, rfl⟩, fun t' ht' => hl _ (List.mem_map.mpr ⟨t', (hk t').mpr ht', rfl⟩)⟩, rfl⟩


def S_never_short : FC := SpC fun ds_ P_ => ∃ (cash : Int) (fs : List Fl), ds_ = [.int cash, encFs fs] ∧ (FlsOk fs ∧ 0 ≤ cash ∧ cash ≤ 1000000000 ∧ ∀ t, 0 ≤ cash + lowAt fs (fs.map worst) t) ∧ P_ = fun d => d = .tuple [.str "never"]
theorem up_never_short : UpC S_never_short := up_SpC
theorem use_never_short {cash : Int} {fs : List Fl} {Q : D → Prop} (pre : FlsOk fs ∧ 0 ≤ cash ∧ cash ≤ 1000000000 ∧ ∀ t, 0 ≤ cash + lowAt fs (fs.map worst) t) (h : Q (.tuple [.str "never"])) : S_never_short [.int cash, encFs fs] Q := ⟨_, ⟨cash, fs, rfl, pre, rfl⟩, fun d e => e ▸ h⟩
set_option maxHeartbeats 4000000 in
theorem ok_never_short (T : Tx mg) (F : FunAt K mg "never_short" s_never_short p_never_short) (h_told_worst : OkAt P w K mg base "told_worst" p_told_worst 1 (spP K S_told_worst)) (h_told_least : OkAt P w K mg base "told_least" p_told_least 2 (spP K S_told_least)) (h_look_at_flows : OkAt P w K mg base "look_at_flows" p_look_at_flows 5 (spP K S_look_at_flows)) : OkAt P w K mg base "never_short" p_never_short 6 (spP K S_never_short) := by
  have nd := sc_never_short.nd
  refine okP F sc_never_short (by rintro ds Q ⟨P, ⟨cash, fs, rfl, _, _⟩, _⟩; rfl) fun f cdv A outer s H E hr => ⟨_, (ssd_cons (sd_expr (ed_fnA h_look_at_flows up_look_at_flows hr (by rfl) (ad_cons (ed_var (pv 0)) (ad_cons (ed_var (pv 1)) ad_nil)))) (ssd_cons (sd_asg (ed_fnA h_told_least up_told_least (hr.mono (by decide)) (by rfl) (ad_cons (ed_var (pv 1)) ad_nil)) (gd_tup (n := 2) rfl (gsd_cons (gd_name (pg_name (i := 2) nd rfl (by first | exact Or.inl rfl | exact Or.inr rfl))) (gsd_cons (gd_name (pg_name (i := 3) nd rfl (by first | exact Or.inl rfl | exact Or.inr rfl))) gsd_nil)))) (ssd_cons (sd_if (td_ge (hU hr) (ed_add (ed_var (pv 0)) (ed_var (pv 2))) ed_int) (ssd_one (sd_ret (ed_tup (ad_cons (ed_gsE (by rfl) T.c_NEVER) ad_nil)))) ssd_nil) (ssd_one (sd_ret (ed_tup (ad_cons (ed_gsE (by rfl) T.c_COURSE) (ad_cons (ed_call (fun h => pe_callTy call_tuple_of (by rfl) T.tuple PyProof.Rows.boot_tuple h) lk_tuple up_tuple (ad_cons (ed_fnA h_told_worst up_told_worst (hr.mono (by decide)) (by rfl) (ad_cons (ed_var (pv 1)) ad_nil)) ad_nil)) (ad_cons (ed_var (pv 3)) ad_nil))))))))), fun ds Q h => ?_⟩
  obtain ⟨P, ⟨cash, fs, rfl, pre, rfl⟩, q⟩ := h
  replace q := q _ rfl
  obtain ⟨okf, c0, c1, ha⟩ := pre
  simp only [dSeq, dNext, dRet, dRetN, dIfS, dNever, dAsg, dSetO, dPar, dPar3, dAug, dDrop, dApp, dSetIx, dVar, dC, PD.d2, PD.d1, dCons, dNil, dStar, dTup, dLstN, dLst, dNew, dAnd, dOr, dNot, dIf, dB, bAnd, bOr, bNot, fAdd_ii, fAdd_tt, fAdd_ll, fSub_ii, fMul_ii, fDiv_ii, fMod_ii, fPow_ii, fNeg_i, fLt_ii, fLe_ii, fGt_ii, fGe_ii, fOpI_ii, dIs, dCall, dCallM, dCallMN, lCall, dIxO, dIsN, dNotN, fIsN_i, fIsN_n, fIsN_t, fNotN_i, fNotN_n, fNotN_t, dSl, dNo, dSome, fSl_l, fSl_t, dChain, dChain3, cLen_l, cLen_t, cInt_i, cInt_b, cAbs_i, cMax2_ii, cMin2_ii, cTuple_l, cTuple_t, cList_l, cList_t, gSet, gNilD, gConsD, gTupD, iSeq, PD.iZip, iR1, iR2, dComp, dFor, dSortedSet, dRg1, dRg2, fIx_l, fIx_t, fRev_l, fRev_t, dMove, dBreak, dCont, startD, startM, List.map_cons, List.map_nil, List.length_cons, List.length_nil, List.cons_append, List.nil_append, List.getElem?_cons_zero, List.getElem?_cons_succ, List.set_cons_zero, List.set_cons_succ, Option.some.injEq, Sl.dt.injEq, Sl.ow.injEq, PyData.int.injEq, PyData.bool.injEq, PyData.tuple.injEq, PyData.list.injEq, PyData.str.injEq, exists_eq_left, exists_eq_left', exists_eq_right, true_and, and_true, List.cons.injEq, Ob.lst.injEq, Nat.sub_zero, Nat.reduceAdd, Nat.reduceSub, List.replicate_succ, List.replicate_zero, if_true, if_false, Bool.false_eq_true, if_false, PyData.isInt, PyData.isBool, PyData.isStr, PyData.isTuple, PyData.isList, fEq_int, fNe_int, fEq_str, fNe_str, fEq_pair, fNe_pair, fNe_str1, fEq_nil, fNe_nil, atI_0, atI_1, atI_2, ixN_0, ixN_1, ixN_2, Bool.not_true, Bool.not_false, ite_true, ite_false, reduceCtorEq, ↓reduceIte, exists_and_left, exists_const, and_assoc, or_false, false_or, Nat.zero_le, Int.reduceAdd, Int.reduceNeg, Int.reduceSub, Int.reduceMul, Int.reduceLE, Int.reduceLT, Int.cast_ofNat_Int, decide_true, decide_false, eq_self, Nat.reduceLeDiff, Int.reduceEq]
  refine use_look_at_flows ⟨okf, c0, c1⟩ ?_
  (try simp only [dSeq, dNext, dRet, dRetN, dIfS, dNever, dAsg, dSetO, dPar, dPar3, dAug, dDrop, dApp, dSetIx, dVar, dC, PD.d2, PD.d1, dCons, dNil, dStar, dTup, dLstN, dLst, dNew, dAnd, dOr, dNot, dIf, dB, bAnd, bOr, bNot, fAdd_ii, fAdd_tt, fAdd_ll, fSub_ii, fMul_ii, fDiv_ii, fMod_ii, fPow_ii, fNeg_i, fLt_ii, fLe_ii, fGt_ii, fGe_ii, fOpI_ii, dIs, dCall, dCallM, dCallMN, lCall, dIxO, dIsN, dNotN, fIsN_i, fIsN_n, fIsN_t, fNotN_i, fNotN_n, fNotN_t, dSl, dNo, dSome, fSl_l, fSl_t, dChain, dChain3, cLen_l, cLen_t, cInt_i, cInt_b, cAbs_i, cMax2_ii, cMin2_ii, cTuple_l, cTuple_t, cList_l, cList_t, gSet, gNilD, gConsD, gTupD, iSeq, PD.iZip, iR1, iR2, dComp, dFor, dSortedSet, dRg1, dRg2, fIx_l, fIx_t, fRev_l, fRev_t, dMove, dBreak, dCont, startD, startM, List.map_cons, List.map_nil, List.length_cons, List.length_nil, List.cons_append, List.nil_append, List.getElem?_cons_zero, List.getElem?_cons_succ, List.set_cons_zero, List.set_cons_succ, Option.some.injEq, Sl.dt.injEq, Sl.ow.injEq, PyData.int.injEq, PyData.bool.injEq, PyData.tuple.injEq, PyData.list.injEq, PyData.str.injEq, exists_eq_left, exists_eq_left', exists_eq_right, true_and, and_true, List.cons.injEq, Ob.lst.injEq, Nat.sub_zero, Nat.reduceAdd, Nat.reduceSub, List.replicate_succ, List.replicate_zero, if_true, if_false, Bool.false_eq_true, if_false, PyData.isInt, PyData.isBool, PyData.isStr, PyData.isTuple, PyData.isList, fEq_int, fNe_int, fEq_str, fNe_str, fEq_pair, fNe_pair, fNe_str1, fEq_nil, fNe_nil, atI_0, atI_1, atI_2, ixN_0, ixN_1, ixN_2, Bool.not_true, Bool.not_false, ite_true, ite_false, reduceCtorEq, ↓reduceIte, exists_and_left, exists_const, and_assoc, or_false, false_or, Nat.zero_le, Int.reduceAdd, Int.reduceNeg, Int.reduceSub, Int.reduceMul, Int.reduceLE, Int.reduceLT, Int.cast_ofNat_Int, decide_true, decide_false, eq_self, Nat.reduceLeDiff, Int.reduceEq])
  refine use_told_least okf.1 ?_
  rintro _ ⟨l, x, hl, rfl⟩
  (try simp only [dSeq, dNext, dRet, dRetN, dIfS, dNever, dAsg, dSetO, dPar, dPar3, dAug, dDrop, dApp, dSetIx, dVar, dC, PD.d2, PD.d1, dCons, dNil, dStar, dTup, dLstN, dLst, dNew, dAnd, dOr, dNot, dIf, dB, bAnd, bOr, bNot, fAdd_ii, fAdd_tt, fAdd_ll, fSub_ii, fMul_ii, fDiv_ii, fMod_ii, fPow_ii, fNeg_i, fLt_ii, fLe_ii, fGt_ii, fGe_ii, fOpI_ii, dIs, dCall, dCallM, dCallMN, lCall, dIxO, dIsN, dNotN, fIsN_i, fIsN_n, fIsN_t, fNotN_i, fNotN_n, fNotN_t, dSl, dNo, dSome, fSl_l, fSl_t, dChain, dChain3, cLen_l, cLen_t, cInt_i, cInt_b, cAbs_i, cMax2_ii, cMin2_ii, cTuple_l, cTuple_t, cList_l, cList_t, gSet, gNilD, gConsD, gTupD, iSeq, PD.iZip, iR1, iR2, dComp, dFor, dSortedSet, dRg1, dRg2, fIx_l, fIx_t, fRev_l, fRev_t, dMove, dBreak, dCont, startD, startM, List.map_cons, List.map_nil, List.length_cons, List.length_nil, List.cons_append, List.nil_append, List.getElem?_cons_zero, List.getElem?_cons_succ, List.set_cons_zero, List.set_cons_succ, Option.some.injEq, Sl.dt.injEq, Sl.ow.injEq, PyData.int.injEq, PyData.bool.injEq, PyData.tuple.injEq, PyData.list.injEq, PyData.str.injEq, exists_eq_left, exists_eq_left', exists_eq_right, true_and, and_true, List.cons.injEq, Ob.lst.injEq, Nat.sub_zero, Nat.reduceAdd, Nat.reduceSub, List.replicate_succ, List.replicate_zero, if_true, if_false, Bool.false_eq_true, if_false, PyData.isInt, PyData.isBool, PyData.isStr, PyData.isTuple, PyData.isList, fEq_int, fNe_int, fEq_str, fNe_str, fEq_pair, fNe_pair, fNe_str1, fEq_nil, fNe_nil, atI_0, atI_1, atI_2, ixN_0, ixN_1, ixN_2, Bool.not_true, Bool.not_false, ite_true, ite_false, reduceCtorEq, ↓reduceIte, exists_and_left, exists_const, and_assoc, or_false, false_or, Nat.zero_le, Int.reduceAdd, Int.reduceNeg, Int.reduceSub, Int.reduceMul, Int.reduceLE, Int.reduceLT, Int.cast_ofNat_Int, decide_true, decide_false, eq_self, Nat.reduceLeDiff, Int.reduceEq])
  rw [decide_eq_true (least_le hl c0 ha)]
  (try simp only [dSeq, dNext, dRet, dRetN, dIfS, dNever, dAsg, dSetO, dPar, dPar3, dAug, dDrop, dApp, dSetIx, dVar, dC, PD.d2, PD.d1, dCons, dNil, dStar, dTup, dLstN, dLst, dNew, dAnd, dOr, dNot, dIf, dB, bAnd, bOr, bNot, fAdd_ii, fAdd_tt, fAdd_ll, fSub_ii, fMul_ii, fDiv_ii, fMod_ii, fPow_ii, fNeg_i, fLt_ii, fLe_ii, fGt_ii, fGe_ii, fOpI_ii, dIs, dCall, dCallM, dCallMN, lCall, dIxO, dIsN, dNotN, fIsN_i, fIsN_n, fIsN_t, fNotN_i, fNotN_n, fNotN_t, dSl, dNo, dSome, fSl_l, fSl_t, dChain, dChain3, cLen_l, cLen_t, cInt_i, cInt_b, cAbs_i, cMax2_ii, cMin2_ii, cTuple_l, cTuple_t, cList_l, cList_t, gSet, gNilD, gConsD, gTupD, iSeq, PD.iZip, iR1, iR2, dComp, dFor, dSortedSet, dRg1, dRg2, fIx_l, fIx_t, fRev_l, fRev_t, dMove, dBreak, dCont, startD, startM, List.map_cons, List.map_nil, List.length_cons, List.length_nil, List.cons_append, List.nil_append, List.getElem?_cons_zero, List.getElem?_cons_succ, List.set_cons_zero, List.set_cons_succ, Option.some.injEq, Sl.dt.injEq, Sl.ow.injEq, PyData.int.injEq, PyData.bool.injEq, PyData.tuple.injEq, PyData.list.injEq, PyData.str.injEq, exists_eq_left, exists_eq_left', exists_eq_right, true_and, and_true, List.cons.injEq, Ob.lst.injEq, Nat.sub_zero, Nat.reduceAdd, Nat.reduceSub, List.replicate_succ, List.replicate_zero, if_true, if_false, Bool.false_eq_true, if_false, PyData.isInt, PyData.isBool, PyData.isStr, PyData.isTuple, PyData.isList, fEq_int, fNe_int, fEq_str, fNe_str, fEq_pair, fNe_pair, fNe_str1, fEq_nil, fNe_nil, atI_0, atI_1, atI_2, ixN_0, ixN_1, ixN_2, Bool.not_true, Bool.not_false, ite_true, ite_false, reduceCtorEq, ↓reduceIte, exists_and_left, exists_const, and_assoc, or_false, false_or, Nat.zero_le, Int.reduceAdd, Int.reduceNeg, Int.reduceSub, Int.reduceMul, Int.reduceLE, Int.reduceLT, Int.cast_ofNat_Int, decide_true, decide_false, eq_self, Nat.reduceLeDiff, Int.reduceEq])
  exact q


def S_cash_needed : FC := SpC fun ds_ P_ => ∃ (fs : List Fl), ds_ = [encFs fs] ∧ (FlsOk fs) ∧ P_ = fun d => ∃ m, IsLow fs (fs.map worst) (-m) ∧ d = .int m
theorem up_cash_needed : UpC S_cash_needed := up_SpC
theorem use_cash_needed {fs : List Fl} {Q : D → Prop} (pre : FlsOk fs) (h : ∀ d, (fun d => ∃ m, IsLow fs (fs.map worst) (-m) ∧ d = .int m) d → Q d) : S_cash_needed [encFs fs] Q := ⟨_, ⟨fs, rfl, pre, rfl⟩, h⟩
set_option maxHeartbeats 4000000 in
theorem ok_cash_needed (T : Tx mg) (F : FunAt K mg "cash_needed" s_cash_needed p_cash_needed) (h_told_least : OkAt P w K mg base "told_least" p_told_least 2 (spP K S_told_least)) (h_look_at_flows : OkAt P w K mg base "look_at_flows" p_look_at_flows 5 (spP K S_look_at_flows)) : OkAt P w K mg base "cash_needed" p_cash_needed 6 (spP K S_cash_needed) := by
  have nd := sc_cash_needed.nd
  refine okP F sc_cash_needed (by rintro ds Q ⟨P, ⟨fs, rfl, _, _⟩, _⟩; rfl) fun f cdv A outer s H E hr => ⟨_, (ssd_cons (sd_expr (ed_fnA h_look_at_flows up_look_at_flows hr (by rfl) (ad_cons ed_int (ad_cons (ed_var (pv 0)) ad_nil)))) (ssd_one (sd_ret (ed_call (fun h => pe_callB (call_max2 rfl) (by rfl) T.max PyProof.Rows.boot_max h) lk_max2 up_max2 (ad_cons ed_int (ad_cons (ed_neg (ed_ix (fun _ _ => rfl) (ed_fnA h_told_least up_told_least (hr.mono (by decide)) (by rfl) (ad_cons (ed_var (pv 0)) ad_nil)) ed_int)) ad_nil)))))), fun ds Q h => ?_⟩
  obtain ⟨P, ⟨fs, rfl, pre, rfl⟩, q⟩ := h
  simp only [dSeq, dNext, dRet, dRetN, dIfS, dNever, dAsg, dSetO, dPar, dPar3, dAug, dDrop, dApp, dSetIx, dVar, dC, PD.d2, PD.d1, dCons, dNil, dStar, dTup, dLstN, dLst, dNew, dAnd, dOr, dNot, dIf, dB, bAnd, bOr, bNot, fAdd_ii, fAdd_tt, fAdd_ll, fSub_ii, fMul_ii, fDiv_ii, fMod_ii, fPow_ii, fNeg_i, fLt_ii, fLe_ii, fGt_ii, fGe_ii, fOpI_ii, dIs, dCall, dCallM, dCallMN, lCall, dIxO, dIsN, dNotN, fIsN_i, fIsN_n, fIsN_t, fNotN_i, fNotN_n, fNotN_t, dSl, dNo, dSome, fSl_l, fSl_t, dChain, dChain3, cLen_l, cLen_t, cInt_i, cInt_b, cAbs_i, cMax2_ii, cMin2_ii, cTuple_l, cTuple_t, cList_l, cList_t, gSet, gNilD, gConsD, gTupD, iSeq, PD.iZip, iR1, iR2, dComp, dFor, dSortedSet, dRg1, dRg2, fIx_l, fIx_t, fRev_l, fRev_t, dMove, dBreak, dCont, startD, startM, List.map_cons, List.map_nil, List.length_cons, List.length_nil, List.cons_append, List.nil_append, List.getElem?_cons_zero, List.getElem?_cons_succ, List.set_cons_zero, List.set_cons_succ, Option.some.injEq, Sl.dt.injEq, Sl.ow.injEq, PyData.int.injEq, PyData.bool.injEq, PyData.tuple.injEq, PyData.list.injEq, PyData.str.injEq, exists_eq_left, exists_eq_left', exists_eq_right, true_and, and_true, List.cons.injEq, Ob.lst.injEq, Nat.sub_zero, Nat.reduceAdd, Nat.reduceSub, List.replicate_succ, List.replicate_zero, if_true, if_false, Bool.false_eq_true, if_false, PyData.isInt, PyData.isBool, PyData.isStr, PyData.isTuple, PyData.isList, fEq_int, fNe_int, fEq_str, fNe_str, fEq_pair, fNe_pair, fNe_str1, fEq_nil, fNe_nil, atI_0, atI_1, atI_2, ixN_0, ixN_1, ixN_2, Bool.not_true, Bool.not_false, ite_true, ite_false, reduceCtorEq, ↓reduceIte, exists_and_left, exists_const, and_assoc, or_false, false_or, Nat.zero_le, Int.reduceAdd, Int.reduceNeg, Int.reduceSub, Int.reduceMul, Int.reduceLE, Int.reduceLT, Int.cast_ofNat_Int, decide_true, decide_false, eq_self, Nat.reduceLeDiff, Int.reduceEq]
  refine use_look_at_flows ⟨pre, by decide, by decide⟩ ?_
  (try simp only [dSeq, dNext, dRet, dRetN, dIfS, dNever, dAsg, dSetO, dPar, dPar3, dAug, dDrop, dApp, dSetIx, dVar, dC, PD.d2, PD.d1, dCons, dNil, dStar, dTup, dLstN, dLst, dNew, dAnd, dOr, dNot, dIf, dB, bAnd, bOr, bNot, fAdd_ii, fAdd_tt, fAdd_ll, fSub_ii, fMul_ii, fDiv_ii, fMod_ii, fPow_ii, fNeg_i, fLt_ii, fLe_ii, fGt_ii, fGe_ii, fOpI_ii, dIs, dCall, dCallM, dCallMN, lCall, dIxO, dIsN, dNotN, fIsN_i, fIsN_n, fIsN_t, fNotN_i, fNotN_n, fNotN_t, dSl, dNo, dSome, fSl_l, fSl_t, dChain, dChain3, cLen_l, cLen_t, cInt_i, cInt_b, cAbs_i, cMax2_ii, cMin2_ii, cTuple_l, cTuple_t, cList_l, cList_t, gSet, gNilD, gConsD, gTupD, iSeq, PD.iZip, iR1, iR2, dComp, dFor, dSortedSet, dRg1, dRg2, fIx_l, fIx_t, fRev_l, fRev_t, dMove, dBreak, dCont, startD, startM, List.map_cons, List.map_nil, List.length_cons, List.length_nil, List.cons_append, List.nil_append, List.getElem?_cons_zero, List.getElem?_cons_succ, List.set_cons_zero, List.set_cons_succ, Option.some.injEq, Sl.dt.injEq, Sl.ow.injEq, PyData.int.injEq, PyData.bool.injEq, PyData.tuple.injEq, PyData.list.injEq, PyData.str.injEq, exists_eq_left, exists_eq_left', exists_eq_right, true_and, and_true, List.cons.injEq, Ob.lst.injEq, Nat.sub_zero, Nat.reduceAdd, Nat.reduceSub, List.replicate_succ, List.replicate_zero, if_true, if_false, Bool.false_eq_true, if_false, PyData.isInt, PyData.isBool, PyData.isStr, PyData.isTuple, PyData.isList, fEq_int, fNe_int, fEq_str, fNe_str, fEq_pair, fNe_pair, fNe_str1, fEq_nil, fNe_nil, atI_0, atI_1, atI_2, ixN_0, ixN_1, ixN_2, Bool.not_true, Bool.not_false, ite_true, ite_false, reduceCtorEq, ↓reduceIte, exists_and_left, exists_const, and_assoc, or_false, false_or, Nat.zero_le, Int.reduceAdd, Int.reduceNeg, Int.reduceSub, Int.reduceMul, Int.reduceLE, Int.reduceLT, Int.cast_ofNat_Int, decide_true, decide_false, eq_self, Nat.reduceLeDiff, Int.reduceEq])
  refine use_told_least pre.1 ?_
  rintro _ ⟨l, x, hl, rfl⟩
  (try simp only [dSeq, dNext, dRet, dRetN, dIfS, dNever, dAsg, dSetO, dPar, dPar3, dAug, dDrop, dApp, dSetIx, dVar, dC, PD.d2, PD.d1, dCons, dNil, dStar, dTup, dLstN, dLst, dNew, dAnd, dOr, dNot, dIf, dB, bAnd, bOr, bNot, fAdd_ii, fAdd_tt, fAdd_ll, fSub_ii, fMul_ii, fDiv_ii, fMod_ii, fPow_ii, fNeg_i, fLt_ii, fLe_ii, fGt_ii, fGe_ii, fOpI_ii, dIs, dCall, dCallM, dCallMN, lCall, dIxO, dIsN, dNotN, fIsN_i, fIsN_n, fIsN_t, fNotN_i, fNotN_n, fNotN_t, dSl, dNo, dSome, fSl_l, fSl_t, dChain, dChain3, cLen_l, cLen_t, cInt_i, cInt_b, cAbs_i, cMax2_ii, cMin2_ii, cTuple_l, cTuple_t, cList_l, cList_t, gSet, gNilD, gConsD, gTupD, iSeq, PD.iZip, iR1, iR2, dComp, dFor, dSortedSet, dRg1, dRg2, fIx_l, fIx_t, fRev_l, fRev_t, dMove, dBreak, dCont, startD, startM, List.map_cons, List.map_nil, List.length_cons, List.length_nil, List.cons_append, List.nil_append, List.getElem?_cons_zero, List.getElem?_cons_succ, List.set_cons_zero, List.set_cons_succ, Option.some.injEq, Sl.dt.injEq, Sl.ow.injEq, PyData.int.injEq, PyData.bool.injEq, PyData.tuple.injEq, PyData.list.injEq, PyData.str.injEq, exists_eq_left, exists_eq_left', exists_eq_right, true_and, and_true, List.cons.injEq, Ob.lst.injEq, Nat.sub_zero, Nat.reduceAdd, Nat.reduceSub, List.replicate_succ, List.replicate_zero, if_true, if_false, Bool.false_eq_true, if_false, PyData.isInt, PyData.isBool, PyData.isStr, PyData.isTuple, PyData.isList, fEq_int, fNe_int, fEq_str, fNe_str, fEq_pair, fNe_pair, fNe_str1, fEq_nil, fNe_nil, atI_0, atI_1, atI_2, ixN_0, ixN_1, ixN_2, Bool.not_true, Bool.not_false, ite_true, ite_false, reduceCtorEq, ↓reduceIte, exists_and_left, exists_const, and_assoc, or_false, false_or, Nat.zero_le, Int.reduceAdd, Int.reduceNeg, Int.reduceSub, Int.reduceMul, Int.reduceLE, Int.reduceLT, Int.cast_ofNat_Int, decide_true, decide_false, eq_self, Nat.reduceLeDiff, Int.reduceEq])
  exact q _ ⟨_, low_of_least hl, rfl⟩


def S_can_do : FC := SpC fun ds_ P_ => ∃ (cash : Int) (fs : List Fl), ds_ = [.int cash, encFs fs] ∧ (FlsOk fs ∧ 0 ≤ cash ∧ cash ≤ 1000000000 ∧ ∀ t, 0 ≤ cash + lowAt fs (fs.map best) t) ∧ P_ = fun d => d = .tuple [.str "course", .tuple ((fs.map best).map PyData.int)]
theorem up_can_do : UpC S_can_do := up_SpC
theorem use_can_do {cash : Int} {fs : List Fl} {Q : D → Prop} (pre : FlsOk fs ∧ 0 ≤ cash ∧ cash ≤ 1000000000 ∧ ∀ t, 0 ≤ cash + lowAt fs (fs.map best) t) (h : Q (.tuple [.str "course", .tuple ((fs.map best).map PyData.int)])) : S_can_do [.int cash, encFs fs] Q := ⟨_, ⟨cash, fs, rfl, pre, rfl⟩, fun d e => e ▸ h⟩
set_option maxHeartbeats 4000000 in
theorem ok_can_do (T : Tx mg) (F : FunAt K mg "can_do" s_can_do p_can_do) (h_told_lows : OkAt P w K mg base "told_lows" p_told_lows 1 (spP K S_told_lows)) (h_told_best : OkAt P w K mg base "told_best" p_told_best 1 (spP K S_told_best)) (h_look_at_flows : OkAt P w K mg base "look_at_flows" p_look_at_flows 5 (spP K S_look_at_flows)) : OkAt P w K mg base "can_do" p_can_do 6 (spP K S_can_do) := by
  have nd := sc_can_do.nd
  refine okP F sc_can_do (by rintro ds Q ⟨P, ⟨cash, fs, rfl, _, _⟩, _⟩; rfl) fun f cdv A outer s H E hr => ⟨_, (ssd_cons (sd_expr (ed_fnA h_look_at_flows up_look_at_flows hr (by rfl) (ad_cons (ed_var (pv 0)) (ad_cons (ed_var (pv 1)) ad_nil)))) (ssd_cons (sd_set (i := 2) nd rfl (by first | exact Or.inl rfl | exact Or.inr rfl) (ed_fnA h_told_best up_told_best (hr.mono (by decide)) (by rfl) (ad_cons (ed_var (pv 1)) ad_nil))) (ssd_cons (sd_setLc (i := 3) (own := [("day", 4), ("money", 5)]) rfl nd rfl rfl (sw_true rfl rfl rfl (by decide +kernel)) (id_seq (ed_fnA h_told_lows up_told_lows (hr.mono (by decide)) (by rfl) (ad_cons (ed_var (pv 1)) (ad_cons (ed_var (pv 2)) ad_nil)))) (blkOk_by (N := N_can_do) (sc := defScope s_can_do) (by decide +kernel)) (by decide) (fun _ _ _ _ _ => (gd_tup (n := 2) rfl (gsd_cons (gd_name (pg_name (i := 4) nd rfl (by first | exact Or.inl rfl | exact Or.inr rfl))) (gsd_cons (gd_name (pg_name (i := 5) nd rfl (by first | exact Or.inl rfl | exact Or.inr rfl))) gsd_nil)))) (fun _ _ _ _ _ => (tsd_one (td_lt (hU hr) (ed_add (ed_var (pv 0)) (ed_var (pv 5))) ed_int))) (fun _ _ _ _ _ => (ed_var (pv 4))) s) (ssd_one (sd_ret (ed_if (td_eq (hU hr) (ed_var (pv 3)) (ed_new (ld_lst ad_nil))) (ed_tup (ad_cons (ed_gsE (by rfl) T.c_COURSE) (ad_cons (ed_call (fun h => pe_callTy call_tuple_of (by rfl) T.tuple PyProof.Rows.boot_tuple h) lk_tuple up_tuple (ad_cons (ed_var (pv 2)) ad_nil)) ad_nil))) (ed_tup (ad_cons (ed_gsE (by rfl) T.c_DAY) (ad_cons (ed_ix (fun _ _ => rfl) (ed_var (pv 3)) ed_int) ad_nil))))))))), fun ds Q h => ?_⟩
  obtain ⟨P, ⟨cash, fs, rfl, pre, rfl⟩, q⟩ := h
  replace q := q _ rfl
  obtain ⟨okf, c0, c1, ha⟩ := pre
  have l1 := okf.1
  simp only [dSeq, dNext, dRet, dRetN, dIfS, dNever, dAsg, dSetO, dPar, dPar3, dAug, dDrop, dApp, dSetIx, dVar, dC, PD.d2, PD.d1, dCons, dNil, dStar, dTup, dLstN, dLst, dNew, dAnd, dOr, dNot, dIf, dB, bAnd, bOr, bNot, fAdd_ii, fAdd_tt, fAdd_ll, fSub_ii, fMul_ii, fDiv_ii, fMod_ii, fPow_ii, fNeg_i, fLt_ii, fLe_ii, fGt_ii, fGe_ii, fOpI_ii, dIs, dCall, dCallM, dCallMN, lCall, dIxO, dIsN, dNotN, fIsN_i, fIsN_n, fIsN_t, fNotN_i, fNotN_n, fNotN_t, dSl, dNo, dSome, fSl_l, fSl_t, dChain, dChain3, cLen_l, cLen_t, cInt_i, cInt_b, cAbs_i, cMax2_ii, cMin2_ii, cTuple_l, cTuple_t, cList_l, cList_t, gSet, gNilD, gConsD, gTupD, iSeq, PD.iZip, iR1, iR2, dComp, dFor, dSortedSet, dRg1, dRg2, fIx_l, fIx_t, fRev_l, fRev_t, dMove, dBreak, dCont, startD, startM, List.map_cons, List.map_nil, List.length_cons, List.length_nil, List.cons_append, List.nil_append, List.getElem?_cons_zero, List.getElem?_cons_succ, List.set_cons_zero, List.set_cons_succ, Option.some.injEq, Sl.dt.injEq, Sl.ow.injEq, PyData.int.injEq, PyData.bool.injEq, PyData.tuple.injEq, PyData.list.injEq, PyData.str.injEq, exists_eq_left, exists_eq_left', exists_eq_right, true_and, and_true, List.cons.injEq, Ob.lst.injEq, Nat.sub_zero, Nat.reduceAdd, Nat.reduceSub, List.replicate_succ, List.replicate_zero, if_true, if_false, Bool.false_eq_true, if_false, PyData.isInt, PyData.isBool, PyData.isStr, PyData.isTuple, PyData.isList, fEq_int, fNe_int, fEq_str, fNe_str, fEq_pair, fNe_pair, fNe_str1, fEq_nil, fNe_nil, atI_0, atI_1, atI_2, ixN_0, ixN_1, ixN_2, Bool.not_true, Bool.not_false, ite_true, ite_false, reduceCtorEq, ↓reduceIte, exists_and_left, exists_const, and_assoc, or_false, false_or, Nat.zero_le, Int.reduceAdd, Int.reduceNeg, Int.reduceSub, Int.reduceMul, Int.reduceLE, Int.reduceLT, Int.cast_ofNat_Int, decide_true, decide_false, eq_self, Nat.reduceLeDiff, Int.reduceEq]
  refine use_look_at_flows ⟨okf, c0, c1⟩ ?_
  (try simp only [dSeq, dNext, dRet, dRetN, dIfS, dNever, dAsg, dSetO, dPar, dPar3, dAug, dDrop, dApp, dSetIx, dVar, dC, PD.d2, PD.d1, dCons, dNil, dStar, dTup, dLstN, dLst, dNew, dAnd, dOr, dNot, dIf, dB, bAnd, bOr, bNot, fAdd_ii, fAdd_tt, fAdd_ll, fSub_ii, fMul_ii, fDiv_ii, fMod_ii, fPow_ii, fNeg_i, fLt_ii, fLe_ii, fGt_ii, fGe_ii, fOpI_ii, dIs, dCall, dCallM, dCallMN, lCall, dIxO, dIsN, dNotN, fIsN_i, fIsN_n, fIsN_t, fNotN_i, fNotN_n, fNotN_t, dSl, dNo, dSome, fSl_l, fSl_t, dChain, dChain3, cLen_l, cLen_t, cInt_i, cInt_b, cAbs_i, cMax2_ii, cMin2_ii, cTuple_l, cTuple_t, cList_l, cList_t, gSet, gNilD, gConsD, gTupD, iSeq, PD.iZip, iR1, iR2, dComp, dFor, dSortedSet, dRg1, dRg2, fIx_l, fIx_t, fRev_l, fRev_t, dMove, dBreak, dCont, startD, startM, List.map_cons, List.map_nil, List.length_cons, List.length_nil, List.cons_append, List.nil_append, List.getElem?_cons_zero, List.getElem?_cons_succ, List.set_cons_zero, List.set_cons_succ, Option.some.injEq, Sl.dt.injEq, Sl.ow.injEq, PyData.int.injEq, PyData.bool.injEq, PyData.tuple.injEq, PyData.list.injEq, PyData.str.injEq, exists_eq_left, exists_eq_left', exists_eq_right, true_and, and_true, List.cons.injEq, Ob.lst.injEq, Nat.sub_zero, Nat.reduceAdd, Nat.reduceSub, List.replicate_succ, List.replicate_zero, if_true, if_false, Bool.false_eq_true, if_false, PyData.isInt, PyData.isBool, PyData.isStr, PyData.isTuple, PyData.isList, fEq_int, fNe_int, fEq_str, fNe_str, fEq_pair, fNe_pair, fNe_str1, fEq_nil, fNe_nil, atI_0, atI_1, atI_2, ixN_0, ixN_1, ixN_2, Bool.not_true, Bool.not_false, ite_true, ite_false, reduceCtorEq, ↓reduceIte, exists_and_left, exists_const, and_assoc, or_false, false_or, Nat.zero_le, Int.reduceAdd, Int.reduceNeg, Int.reduceSub, Int.reduceMul, Int.reduceLE, Int.reduceLT, Int.cast_ofNat_Int, decide_true, decide_false, eq_self, Nat.reduceLeDiff, Int.reduceEq])
  refine use_told_best okf.1 ?_
  (try simp only [dSeq, dNext, dRet, dRetN, dIfS, dNever, dAsg, dSetO, dPar, dPar3, dAug, dDrop, dApp, dSetIx, dVar, dC, PD.d2, PD.d1, dCons, dNil, dStar, dTup, dLstN, dLst, dNew, dAnd, dOr, dNot, dIf, dB, bAnd, bOr, bNot, fAdd_ii, fAdd_tt, fAdd_ll, fSub_ii, fMul_ii, fDiv_ii, fMod_ii, fPow_ii, fNeg_i, fLt_ii, fLe_ii, fGt_ii, fGe_ii, fOpI_ii, dIs, dCall, dCallM, dCallMN, lCall, dIxO, dIsN, dNotN, fIsN_i, fIsN_n, fIsN_t, fNotN_i, fNotN_n, fNotN_t, dSl, dNo, dSome, fSl_l, fSl_t, dChain, dChain3, cLen_l, cLen_t, cInt_i, cInt_b, cAbs_i, cMax2_ii, cMin2_ii, cTuple_l, cTuple_t, cList_l, cList_t, gSet, gNilD, gConsD, gTupD, iSeq, PD.iZip, iR1, iR2, dComp, dFor, dSortedSet, dRg1, dRg2, fIx_l, fIx_t, fRev_l, fRev_t, dMove, dBreak, dCont, startD, startM, List.map_cons, List.map_nil, List.length_cons, List.length_nil, List.cons_append, List.nil_append, List.getElem?_cons_zero, List.getElem?_cons_succ, List.set_cons_zero, List.set_cons_succ, Option.some.injEq, Sl.dt.injEq, Sl.ow.injEq, PyData.int.injEq, PyData.bool.injEq, PyData.tuple.injEq, PyData.list.injEq, PyData.str.injEq, exists_eq_left, exists_eq_left', exists_eq_right, true_and, and_true, List.cons.injEq, Ob.lst.injEq, Nat.sub_zero, Nat.reduceAdd, Nat.reduceSub, List.replicate_succ, List.replicate_zero, if_true, if_false, Bool.false_eq_true, if_false, PyData.isInt, PyData.isBool, PyData.isStr, PyData.isTuple, PyData.isList, fEq_int, fNe_int, fEq_str, fNe_str, fEq_pair, fNe_pair, fNe_str1, fEq_nil, fNe_nil, atI_0, atI_1, atI_2, ixN_0, ixN_1, ixN_2, Bool.not_true, Bool.not_false, ite_true, ite_false, reduceCtorEq, ↓reduceIte, exists_and_left, exists_const, and_assoc, or_false, false_or, Nat.zero_le, Int.reduceAdd, Int.reduceNeg, Int.reduceSub, Int.reduceMul, Int.reduceLE, Int.reduceLT, Int.cast_ofNat_Int, decide_true, decide_false, eq_self, Nat.reduceLeDiff, Int.reduceEq])
  refine use_told_lows ⟨l1, by rw [List.length_map]; omega, .inl rfl⟩ ?_
  rintro _ ⟨ts, hp, hk, rfl⟩
  have lt : ts.length < 64 := Nat.lt_of_le_of_lt (nodup_le (hp.imp fun h => Int.ne_of_lt h) fun k hk' => (hk k).mp hk') (by rw [List.length_map]; omega)
  (try simp only [dSeq, dNext, dRet, dRetN, dIfS, dNever, dAsg, dSetO, dPar, dPar3, dAug, dDrop, dApp, dSetIx, dVar, dC, PD.d2, PD.d1, dCons, dNil, dStar, dTup, dLstN, dLst, dNew, dAnd, dOr, dNot, dIf, dB, bAnd, bOr, bNot, fAdd_ii, fAdd_tt, fAdd_ll, fSub_ii, fMul_ii, fDiv_ii, fMod_ii, fPow_ii, fNeg_i, fLt_ii, fLe_ii, fGt_ii, fGe_ii, fOpI_ii, dIs, dCall, dCallM, dCallMN, lCall, dIxO, dIsN, dNotN, fIsN_i, fIsN_n, fIsN_t, fNotN_i, fNotN_n, fNotN_t, dSl, dNo, dSome, fSl_l, fSl_t, dChain, dChain3, cLen_l, cLen_t, cInt_i, cInt_b, cAbs_i, cMax2_ii, cMin2_ii, cTuple_l, cTuple_t, cList_l, cList_t, gSet, gNilD, gConsD, gTupD, iSeq, PD.iZip, iR1, iR2, dComp, dFor, dSortedSet, dRg1, dRg2, fIx_l, fIx_t, fRev_l, fRev_t, dMove, dBreak, dCont, startD, startM, List.map_cons, List.map_nil, List.length_cons, List.length_nil, List.cons_append, List.nil_append, List.getElem?_cons_zero, List.getElem?_cons_succ, List.set_cons_zero, List.set_cons_succ, Option.some.injEq, Sl.dt.injEq, Sl.ow.injEq, PyData.int.injEq, PyData.bool.injEq, PyData.tuple.injEq, PyData.list.injEq, PyData.str.injEq, exists_eq_left, exists_eq_left', exists_eq_right, true_and, and_true, List.cons.injEq, Ob.lst.injEq, Nat.sub_zero, Nat.reduceAdd, Nat.reduceSub, List.replicate_succ, List.replicate_zero, if_true, if_false, Bool.false_eq_true, if_false, PyData.isInt, PyData.isBool, PyData.isStr, PyData.isTuple, PyData.isList, fEq_int, fNe_int, fEq_str, fNe_str, fEq_pair, fNe_pair, fNe_str1, fEq_nil, fNe_nil, atI_0, atI_1, atI_2, ixN_0, ixN_1, ixN_2, Bool.not_true, Bool.not_false, ite_true, ite_false, reduceCtorEq, ↓reduceIte, exists_and_left, exists_const, and_assoc, or_false, false_or, Nat.zero_le, Int.reduceAdd, Int.reduceNeg, Int.reduceSub, Int.reduceMul, Int.reduceLE, Int.reduceLT, Int.cast_ofNat_Int, decide_true, decide_false, eq_self, Nat.reduceLeDiff, Int.reduceEq])
  refine ⟨by rw [List.length_map]; omega, ?_⟩
  refine comp_if (fun t : Int => .tuple [.int t, .int (lowAt fs (fs.map best) t)]) (fun t => decide (cash + lowAt fs (fs.map best) t < 0)) (fun t => .int t) ts rfl (fun t _ K K0 hK hK0 => ?_) fun e2 he2 => ?_
  · simp only [restD_c, restD_n, keepD_d, keepD_n, keepD_o, wipeD_c, wipeD_n, List.getElem?_cons_zero, List.getElem?_cons_succ, List.set_cons_zero, List.set_cons_succ, dSeq, dNext, dRet, dRetN, dIfS, dNever, dAsg, dSetO, dPar, dPar3, dAug, dDrop, dApp, dSetIx, dVar, dC, PD.d2, PD.d1, dCons, dNil, dStar, dTup, dLstN, dLst, dNew, dAnd, dOr, dNot, dIf, dB, bAnd, bOr, bNot, fAdd_ii, fAdd_tt, fAdd_ll, fSub_ii, fMul_ii, fDiv_ii, fMod_ii, fPow_ii, fNeg_i, fLt_ii, fLe_ii, fGt_ii, fGe_ii, fOpI_ii, dIs, dCall, dCallM, dCallMN, lCall, dIxO, dIsN, dNotN, fIsN_i, fIsN_n, fIsN_t, fNotN_i, fNotN_n, fNotN_t, dSl, dNo, dSome, fSl_l, fSl_t, dChain, dChain3, cLen_l, cLen_t, cInt_i, cInt_b, cAbs_i, cMax2_ii, cMin2_ii, cTuple_l, cTuple_t, cList_l, cList_t, gSet, gNilD, gConsD, gTupD, iSeq, PD.iZip, iR1, iR2, dComp, dFor, dSortedSet, dRg1, dRg2, fIx_l, fIx_t, fRev_l, fRev_t, dMove, dBreak, dCont, startD, startM, List.map_cons, List.map_nil, List.length_cons, List.length_nil, List.cons_append, List.nil_append, List.getElem?_cons_zero, List.getElem?_cons_succ, List.set_cons_zero, List.set_cons_succ, Option.some.injEq, Sl.dt.injEq, Sl.ow.injEq, PyData.int.injEq, PyData.bool.injEq, PyData.tuple.injEq, PyData.list.injEq, PyData.str.injEq, exists_eq_left, exists_eq_left', exists_eq_right, true_and, and_true, List.cons.injEq, Ob.lst.injEq, Nat.sub_zero, Nat.reduceAdd, Nat.reduceSub, List.replicate_succ, List.replicate_zero, if_true, if_false, Bool.false_eq_true, if_false, PyData.isInt, PyData.isBool, PyData.isStr, PyData.isTuple, PyData.isList, fEq_int, fNe_int, fEq_str, fNe_str, fEq_pair, fNe_pair, fNe_str1, fEq_nil, fNe_nil, atI_0, atI_1, atI_2, ixN_0, ixN_1, ixN_2, Bool.not_true, Bool.not_false, ite_true, ite_false, reduceCtorEq, ↓reduceIte, exists_and_left, exists_const, and_assoc, or_false, false_or, Nat.zero_le, Int.reduceAdd, Int.reduceNeg, Int.reduceSub, Int.reduceMul, Int.reduceLE, Int.reduceLT, Int.cast_ofNat_Int, decide_true, decide_false, eq_self, Nat.reduceLeDiff, Int.reduceEq]
    (repeat' split) <;> first | exact hK (by first | (rename_i a b; revert a b; simp; done) | (rename_i a b; revert a b; simp; omega) | (rename_i a; revert a; simp; done) | (rename_i a; revert a; simp; omega)) _ rfl | exact hK0 (by first | (rename_i a b; revert a b; simp; done) | (rename_i a b; revert a b; simp; omega) | (rename_i a; revert a; simp; done) | (rename_i a; revert a; simp; omega)) _ rfl
  have e0 : (ts.filter fun t => decide (cash + lowAt fs (fs.map best) t < 0)) = [] := List.filter_eq_nil_iff.mpr fun t _ z => by
    have := of_decide_eq_true z
    have := ha t
    omega
  rw [e0, he2]
  simp only [restD_c, restD_n, keepD_d, keepD_n, keepD_o, wipeD_c, wipeD_n, List.getElem?_cons_zero, List.getElem?_cons_succ, List.set_cons_zero, List.set_cons_succ, dSeq, dNext, dRet, dRetN, dIfS, dNever, dAsg, dSetO, dPar, dPar3, dAug, dDrop, dApp, dSetIx, dVar, dC, PD.d2, PD.d1, dCons, dNil, dStar, dTup, dLstN, dLst, dNew, dAnd, dOr, dNot, dIf, dB, bAnd, bOr, bNot, fAdd_ii, fAdd_tt, fAdd_ll, fSub_ii, fMul_ii, fDiv_ii, fMod_ii, fPow_ii, fNeg_i, fLt_ii, fLe_ii, fGt_ii, fGe_ii, fOpI_ii, dIs, dCall, dCallM, dCallMN, lCall, dIxO, dIsN, dNotN, fIsN_i, fIsN_n, fIsN_t, fNotN_i, fNotN_n, fNotN_t, dSl, dNo, dSome, fSl_l, fSl_t, dChain, dChain3, cLen_l, cLen_t, cInt_i, cInt_b, cAbs_i, cMax2_ii, cMin2_ii, cTuple_l, cTuple_t, cList_l, cList_t, gSet, gNilD, gConsD, gTupD, iSeq, PD.iZip, iR1, iR2, dComp, dFor, dSortedSet, dRg1, dRg2, fIx_l, fIx_t, fRev_l, fRev_t, dMove, dBreak, dCont, startD, startM, List.map_cons, List.map_nil, List.length_cons, List.length_nil, List.cons_append, List.nil_append, List.getElem?_cons_zero, List.getElem?_cons_succ, List.set_cons_zero, List.set_cons_succ, Option.some.injEq, Sl.dt.injEq, Sl.ow.injEq, PyData.int.injEq, PyData.bool.injEq, PyData.tuple.injEq, PyData.list.injEq, PyData.str.injEq, exists_eq_left, exists_eq_left', exists_eq_right, true_and, and_true, List.cons.injEq, Ob.lst.injEq, Nat.sub_zero, Nat.reduceAdd, Nat.reduceSub, List.replicate_succ, List.replicate_zero, if_true, if_false, Bool.false_eq_true, if_false, PyData.isInt, PyData.isBool, PyData.isStr, PyData.isTuple, PyData.isList, fEq_int, fNe_int, fEq_str, fNe_str, fEq_pair, fNe_pair, fNe_str1, fEq_nil, fNe_nil, atI_0, atI_1, atI_2, ixN_0, ixN_1, ixN_2, Bool.not_true, Bool.not_false, ite_true, ite_false, reduceCtorEq, ↓reduceIte, exists_and_left, exists_const, and_assoc, or_false, false_or, Nat.zero_le, Int.reduceAdd, Int.reduceNeg, Int.reduceSub, Int.reduceMul, Int.reduceLE, Int.reduceLT, Int.cast_ofNat_Int, decide_true, decide_false, eq_self, Nat.reduceLeDiff, Int.reduceEq, List.isEmpty_nil]
  exact q


def S_least_to_start : FC := SpC fun ds_ P_ => ∃ (fs : List Fl), ds_ = [encFs fs] ∧ (FlsOk fs) ∧ P_ = fun d => ∃ m, IsLow fs (fs.map best) (-m) ∧ d = .int m
theorem up_least_to_start : UpC S_least_to_start := up_SpC
theorem use_least_to_start {fs : List Fl} {Q : D → Prop} (pre : FlsOk fs) (h : ∀ d, (fun d => ∃ m, IsLow fs (fs.map best) (-m) ∧ d = .int m) d → Q d) : S_least_to_start [encFs fs] Q := ⟨_, ⟨fs, rfl, pre, rfl⟩, h⟩
set_option maxHeartbeats 4000000 in
theorem ok_least_to_start (T : Tx mg) (F : FunAt K mg "least_to_start" s_least_to_start p_least_to_start) (h_told_lows : OkAt P w K mg base "told_lows" p_told_lows 1 (spP K S_told_lows)) (h_told_best : OkAt P w K mg base "told_best" p_told_best 1 (spP K S_told_best)) (h_look_at_flows : OkAt P w K mg base "look_at_flows" p_look_at_flows 5 (spP K S_look_at_flows)) : OkAt P w K mg base "least_to_start" p_least_to_start 6 (spP K S_least_to_start) := by
  have nd := sc_least_to_start.nd
  refine okP F sc_least_to_start (by rintro ds Q ⟨P, ⟨fs, rfl, _, _⟩, _⟩; rfl) fun f cdv A outer s H E hr => ⟨_, (ssd_cons (sd_expr (ed_fnA h_look_at_flows up_look_at_flows hr (by rfl) (ad_cons ed_int (ad_cons (ed_var (pv 0)) ad_nil)))) (ssd_cons (sd_setLc (i := 1) (own := [("day", 2), ("money", 3)]) rfl nd rfl rfl (sw_true rfl rfl rfl (by decide +kernel)) (id_seq (ed_fnA h_told_lows up_told_lows (hr.mono (by decide)) (by rfl) (ad_cons (ed_var (pv 0)) (ad_cons (ed_fnA h_told_best up_told_best (hr.mono (by decide)) (by rfl) (ad_cons (ed_var (pv 0)) ad_nil)) ad_nil)))) (blkOk_by (N := N_least_to_start) (sc := defScope s_least_to_start) (by decide +kernel)) (by decide) (fun _ _ _ _ _ => (gd_tup (n := 2) rfl (gsd_cons (gd_name (pg_name (i := 2) nd rfl (by first | exact Or.inl rfl | exact Or.inr rfl))) (gsd_cons (gd_name (pg_name (i := 3) nd rfl (by first | exact Or.inl rfl | exact Or.inr rfl))) gsd_nil)))) (fun _ _ _ _ _ => tsd_nil) (fun _ _ _ _ _ => (ed_var (pv 3))) s) (ssd_one (sd_ret (ed_if (td_ne (hU hr) (ed_var (pv 1)) (ed_new (ld_lst ad_nil))) (ed_call (fun h => pe_callB (call_max2 rfl) (by rfl) T.max PyProof.Rows.boot_max h) lk_max2 up_max2 (ad_cons ed_int (ad_cons (ed_neg (ed_call (fun h => pe_callB (cr_minD rfl (hU hr)) (by rfl) T.min PyProof.Rows.boot_min h) (lk_best up_minL) up_minL (ad_cons (ed_var (pv 1)) ad_nil))) ad_nil))) ed_int))))), fun ds Q h => ?_⟩
  obtain ⟨P, ⟨fs, rfl, pre, rfl⟩, q⟩ := h
  simp only [dSeq, dNext, dRet, dRetN, dIfS, dNever, dAsg, dSetO, dPar, dPar3, dAug, dDrop, dApp, dSetIx, dVar, dC, PD.d2, PD.d1, dCons, dNil, dStar, dTup, dLstN, dLst, dNew, dAnd, dOr, dNot, dIf, dB, bAnd, bOr, bNot, fAdd_ii, fAdd_tt, fAdd_ll, fSub_ii, fMul_ii, fDiv_ii, fMod_ii, fPow_ii, fNeg_i, fLt_ii, fLe_ii, fGt_ii, fGe_ii, fOpI_ii, dIs, dCall, dCallM, dCallMN, lCall, dIxO, dIsN, dNotN, fIsN_i, fIsN_n, fIsN_t, fNotN_i, fNotN_n, fNotN_t, dSl, dNo, dSome, fSl_l, fSl_t, dChain, dChain3, cLen_l, cLen_t, cInt_i, cInt_b, cAbs_i, cMax2_ii, cMin2_ii, cTuple_l, cTuple_t, cList_l, cList_t, gSet, gNilD, gConsD, gTupD, iSeq, PD.iZip, iR1, iR2, dComp, dFor, dSortedSet, dRg1, dRg2, fIx_l, fIx_t, fRev_l, fRev_t, dMove, dBreak, dCont, startD, startM, List.map_cons, List.map_nil, List.length_cons, List.length_nil, List.cons_append, List.nil_append, List.getElem?_cons_zero, List.getElem?_cons_succ, List.set_cons_zero, List.set_cons_succ, Option.some.injEq, Sl.dt.injEq, Sl.ow.injEq, PyData.int.injEq, PyData.bool.injEq, PyData.tuple.injEq, PyData.list.injEq, PyData.str.injEq, exists_eq_left, exists_eq_left', exists_eq_right, true_and, and_true, List.cons.injEq, Ob.lst.injEq, Nat.sub_zero, Nat.reduceAdd, Nat.reduceSub, List.replicate_succ, List.replicate_zero, if_true, if_false, Bool.false_eq_true, if_false, PyData.isInt, PyData.isBool, PyData.isStr, PyData.isTuple, PyData.isList, fEq_int, fNe_int, fEq_str, fNe_str, fEq_pair, fNe_pair, fNe_str1, fEq_nil, fNe_nil, atI_0, atI_1, atI_2, ixN_0, ixN_1, ixN_2, Bool.not_true, Bool.not_false, ite_true, ite_false, reduceCtorEq, ↓reduceIte, exists_and_left, exists_const, and_assoc, or_false, false_or, Nat.zero_le, Int.reduceAdd, Int.reduceNeg, Int.reduceSub, Int.reduceMul, Int.reduceLE, Int.reduceLT, Int.cast_ofNat_Int, decide_true, decide_false, eq_self, Nat.reduceLeDiff, Int.reduceEq]
  refine use_look_at_flows ⟨pre, by decide, by decide⟩ ?_
  (try simp only [dSeq, dNext, dRet, dRetN, dIfS, dNever, dAsg, dSetO, dPar, dPar3, dAug, dDrop, dApp, dSetIx, dVar, dC, PD.d2, PD.d1, dCons, dNil, dStar, dTup, dLstN, dLst, dNew, dAnd, dOr, dNot, dIf, dB, bAnd, bOr, bNot, fAdd_ii, fAdd_tt, fAdd_ll, fSub_ii, fMul_ii, fDiv_ii, fMod_ii, fPow_ii, fNeg_i, fLt_ii, fLe_ii, fGt_ii, fGe_ii, fOpI_ii, dIs, dCall, dCallM, dCallMN, lCall, dIxO, dIsN, dNotN, fIsN_i, fIsN_n, fIsN_t, fNotN_i, fNotN_n, fNotN_t, dSl, dNo, dSome, fSl_l, fSl_t, dChain, dChain3, cLen_l, cLen_t, cInt_i, cInt_b, cAbs_i, cMax2_ii, cMin2_ii, cTuple_l, cTuple_t, cList_l, cList_t, gSet, gNilD, gConsD, gTupD, iSeq, PD.iZip, iR1, iR2, dComp, dFor, dSortedSet, dRg1, dRg2, fIx_l, fIx_t, fRev_l, fRev_t, dMove, dBreak, dCont, startD, startM, List.map_cons, List.map_nil, List.length_cons, List.length_nil, List.cons_append, List.nil_append, List.getElem?_cons_zero, List.getElem?_cons_succ, List.set_cons_zero, List.set_cons_succ, Option.some.injEq, Sl.dt.injEq, Sl.ow.injEq, PyData.int.injEq, PyData.bool.injEq, PyData.tuple.injEq, PyData.list.injEq, PyData.str.injEq, exists_eq_left, exists_eq_left', exists_eq_right, true_and, and_true, List.cons.injEq, Ob.lst.injEq, Nat.sub_zero, Nat.reduceAdd, Nat.reduceSub, List.replicate_succ, List.replicate_zero, if_true, if_false, Bool.false_eq_true, if_false, PyData.isInt, PyData.isBool, PyData.isStr, PyData.isTuple, PyData.isList, fEq_int, fNe_int, fEq_str, fNe_str, fEq_pair, fNe_pair, fNe_str1, fEq_nil, fNe_nil, atI_0, atI_1, atI_2, ixN_0, ixN_1, ixN_2, Bool.not_true, Bool.not_false, ite_true, ite_false, reduceCtorEq, ↓reduceIte, exists_and_left, exists_const, and_assoc, or_false, false_or, Nat.zero_le, Int.reduceAdd, Int.reduceNeg, Int.reduceSub, Int.reduceMul, Int.reduceLE, Int.reduceLT, Int.cast_ofNat_Int, decide_true, decide_false, eq_self, Nat.reduceLeDiff, Int.reduceEq])
  have l1 := pre.1
  refine use_told_best l1 ?_
  refine use_told_lows ⟨l1, by rw [List.length_map]; omega, .inl rfl⟩ ?_
  rintro _ ⟨ts, hp, hk, rfl⟩
  have lt : ts.length < 64 := Nat.lt_of_le_of_lt (nodup_le (hp.imp fun h => Int.ne_of_lt h) fun k hk' => (hk k).mp hk') (by rw [List.length_map]; omega)
  (try simp only [dSeq, dNext, dRet, dRetN, dIfS, dNever, dAsg, dSetO, dPar, dPar3, dAug, dDrop, dApp, dSetIx, dVar, dC, PD.d2, PD.d1, dCons, dNil, dStar, dTup, dLstN, dLst, dNew, dAnd, dOr, dNot, dIf, dB, bAnd, bOr, bNot, fAdd_ii, fAdd_tt, fAdd_ll, fSub_ii, fMul_ii, fDiv_ii, fMod_ii, fPow_ii, fNeg_i, fLt_ii, fLe_ii, fGt_ii, fGe_ii, fOpI_ii, dIs, dCall, dCallM, dCallMN, lCall, dIxO, dIsN, dNotN, fIsN_i, fIsN_n, fIsN_t, fNotN_i, fNotN_n, fNotN_t, dSl, dNo, dSome, fSl_l, fSl_t, dChain, dChain3, cLen_l, cLen_t, cInt_i, cInt_b, cAbs_i, cMax2_ii, cMin2_ii, cTuple_l, cTuple_t, cList_l, cList_t, gSet, gNilD, gConsD, gTupD, iSeq, PD.iZip, iR1, iR2, dComp, dFor, dSortedSet, dRg1, dRg2, fIx_l, fIx_t, fRev_l, fRev_t, dMove, dBreak, dCont, startD, startM, List.map_cons, List.map_nil, List.length_cons, List.length_nil, List.cons_append, List.nil_append, List.getElem?_cons_zero, List.getElem?_cons_succ, List.set_cons_zero, List.set_cons_succ, Option.some.injEq, Sl.dt.injEq, Sl.ow.injEq, PyData.int.injEq, PyData.bool.injEq, PyData.tuple.injEq, PyData.list.injEq, PyData.str.injEq, exists_eq_left, exists_eq_left', exists_eq_right, true_and, and_true, List.cons.injEq, Ob.lst.injEq, Nat.sub_zero, Nat.reduceAdd, Nat.reduceSub, List.replicate_succ, List.replicate_zero, if_true, if_false, Bool.false_eq_true, if_false, PyData.isInt, PyData.isBool, PyData.isStr, PyData.isTuple, PyData.isList, fEq_int, fNe_int, fEq_str, fNe_str, fEq_pair, fNe_pair, fNe_str1, fEq_nil, fNe_nil, atI_0, atI_1, atI_2, ixN_0, ixN_1, ixN_2, Bool.not_true, Bool.not_false, ite_true, ite_false, reduceCtorEq, ↓reduceIte, exists_and_left, exists_const, and_assoc, or_false, false_or, Nat.zero_le, Int.reduceAdd, Int.reduceNeg, Int.reduceSub, Int.reduceMul, Int.reduceLE, Int.reduceLT, Int.cast_ofNat_Int, decide_true, decide_false, eq_self, Nat.reduceLeDiff, Int.reduceEq])
  refine ⟨by rw [List.length_map]; omega, ?_⟩
  refine comp_all (fun t : Int => .tuple [.int t, .int (lowAt fs (fs.map best) t)]) (fun t => .int (lowAt fs (fs.map best) t)) ts rfl (fun t _ K hK => ?_) fun e2 he2 => ?_
  · simp only [restD_c, restD_n, keepD_d, keepD_n, keepD_o, wipeD_c, wipeD_n, List.getElem?_cons_zero, List.getElem?_cons_succ, List.set_cons_zero, List.set_cons_succ, dSeq, dNext, dRet, dRetN, dIfS, dNever, dAsg, dSetO, dPar, dPar3, dAug, dDrop, dApp, dSetIx, dVar, dC, PD.d2, PD.d1, dCons, dNil, dStar, dTup, dLstN, dLst, dNew, dAnd, dOr, dNot, dIf, dB, bAnd, bOr, bNot, fAdd_ii, fAdd_tt, fAdd_ll, fSub_ii, fMul_ii, fDiv_ii, fMod_ii, fPow_ii, fNeg_i, fLt_ii, fLe_ii, fGt_ii, fGe_ii, fOpI_ii, dIs, dCall, dCallM, dCallMN, lCall, dIxO, dIsN, dNotN, fIsN_i, fIsN_n, fIsN_t, fNotN_i, fNotN_n, fNotN_t, dSl, dNo, dSome, fSl_l, fSl_t, dChain, dChain3, cLen_l, cLen_t, cInt_i, cInt_b, cAbs_i, cMax2_ii, cMin2_ii, cTuple_l, cTuple_t, cList_l, cList_t, gSet, gNilD, gConsD, gTupD, iSeq, PD.iZip, iR1, iR2, dComp, dFor, dSortedSet, dRg1, dRg2, fIx_l, fIx_t, fRev_l, fRev_t, dMove, dBreak, dCont, startD, startM, List.map_cons, List.map_nil, List.length_cons, List.length_nil, List.cons_append, List.nil_append, List.getElem?_cons_zero, List.getElem?_cons_succ, List.set_cons_zero, List.set_cons_succ, Option.some.injEq, Sl.dt.injEq, Sl.ow.injEq, PyData.int.injEq, PyData.bool.injEq, PyData.tuple.injEq, PyData.list.injEq, PyData.str.injEq, exists_eq_left, exists_eq_left', exists_eq_right, true_and, and_true, List.cons.injEq, Ob.lst.injEq, Nat.sub_zero, Nat.reduceAdd, Nat.reduceSub, List.replicate_succ, List.replicate_zero, if_true, if_false, Bool.false_eq_true, if_false, PyData.isInt, PyData.isBool, PyData.isStr, PyData.isTuple, PyData.isList, fEq_int, fNe_int, fEq_str, fNe_str, fEq_pair, fNe_pair, fNe_str1, fEq_nil, fNe_nil, atI_0, atI_1, atI_2, ixN_0, ixN_1, ixN_2, Bool.not_true, Bool.not_false, ite_true, ite_false, reduceCtorEq, ↓reduceIte, exists_and_left, exists_const, and_assoc, or_false, false_or, Nat.zero_le, Int.reduceAdd, Int.reduceNeg, Int.reduceSub, Int.reduceMul, Int.reduceLE, Int.reduceLT, Int.cast_ofNat_Int, decide_true, decide_false, eq_self, Nat.reduceLeDiff, Int.reduceEq]
    exact hK _ rfl
  rw [he2]
  simp only [restD_c, restD_n, keepD_d, keepD_n, keepD_o, wipeD_c, wipeD_n, List.getElem?_cons_zero, List.getElem?_cons_succ, List.set_cons_zero, List.set_cons_succ, dSeq, dNext, dRet, dRetN, dIfS, dNever, dAsg, dSetO, dPar, dPar3, dAug, dDrop, dApp, dSetIx, dVar, dC, PD.d2, PD.d1, dCons, dNil, dStar, dTup, dLstN, dLst, dNew, dAnd, dOr, dNot, dIf, dB, bAnd, bOr, bNot, fAdd_ii, fAdd_tt, fAdd_ll, fSub_ii, fMul_ii, fDiv_ii, fMod_ii, fPow_ii, fNeg_i, fLt_ii, fLe_ii, fGt_ii, fGe_ii, fOpI_ii, dIs, dCall, dCallM, dCallMN, lCall, dIxO, dIsN, dNotN, fIsN_i, fIsN_n, fIsN_t, fNotN_i, fNotN_n, fNotN_t, dSl, dNo, dSome, fSl_l, fSl_t, dChain, dChain3, cLen_l, cLen_t, cInt_i, cInt_b, cAbs_i, cMax2_ii, cMin2_ii, cTuple_l, cTuple_t, cList_l, cList_t, gSet, gNilD, gConsD, gTupD, iSeq, PD.iZip, iR1, iR2, dComp, dFor, dSortedSet, dRg1, dRg2, fIx_l, fIx_t, fRev_l, fRev_t, dMove, dBreak, dCont, startD, startM, List.map_cons, List.map_nil, List.length_cons, List.length_nil, List.cons_append, List.nil_append, List.getElem?_cons_zero, List.getElem?_cons_succ, List.set_cons_zero, List.set_cons_succ, Option.some.injEq, Sl.dt.injEq, Sl.ow.injEq, PyData.int.injEq, PyData.bool.injEq, PyData.tuple.injEq, PyData.list.injEq, PyData.str.injEq, exists_eq_left, exists_eq_left', exists_eq_right, true_and, and_true, List.cons.injEq, Ob.lst.injEq, Nat.sub_zero, Nat.reduceAdd, Nat.reduceSub, List.replicate_succ, List.replicate_zero, if_true, if_false, Bool.false_eq_true, if_false, PyData.isInt, PyData.isBool, PyData.isStr, PyData.isTuple, PyData.isList, fEq_int, fNe_int, fEq_str, fNe_str, fEq_pair, fNe_pair, fNe_str1, fEq_nil, fNe_nil, atI_0, atI_1, atI_2, ixN_0, ixN_1, ixN_2, Bool.not_true, Bool.not_false, ite_true, ite_false, reduceCtorEq, ↓reduceIte, exists_and_left, exists_const, and_assoc, or_false, false_or, Nat.zero_le, Int.reduceAdd, Int.reduceNeg, Int.reduceSub, Int.reduceMul, Int.reduceLE, Int.reduceLT, Int.cast_ofNat_Int, decide_true, decide_false, eq_self, Nat.reduceLeDiff, Int.reduceEq]
  have e0 : (ts.map fun t => PyData.int (lowAt fs (List.map best fs) t)).isEmpty = fs.isEmpty := by
    rw [List.isEmpty_map]
    cases fs with
    | nil =>
      cases ts with
      | nil => rfl
      | cons t ts => exact absurd ((hk t).mp (List.mem_cons_self ..)) (by simp)
    | cons f fs =>
      cases ts with
      | nil => exact absurd ((hk (best f)).mpr (List.mem_cons_self ..)) (by simp)
      | cons t ts => rfl
  rw [e0]
  cases hf : fs.isEmpty with
  | true =>
    simp only [dSeq, dNext, dRet, dRetN, dIfS, dNever, dAsg, dSetO, dPar, dPar3, dAug, dDrop, dApp, dSetIx, dVar, dC, PD.d2, PD.d1, dCons, dNil, dStar, dTup, dLstN, dLst, dNew, dAnd, dOr, dNot, dIf, dB, bAnd, bOr, bNot, fAdd_ii, fAdd_tt, fAdd_ll, fSub_ii, fMul_ii, fDiv_ii, fMod_ii, fPow_ii, fNeg_i, fLt_ii, fLe_ii, fGt_ii, fGe_ii, fOpI_ii, dIs, dCall, dCallM, dCallMN, lCall, dIxO, dIsN, dNotN, fIsN_i, fIsN_n, fIsN_t, fNotN_i, fNotN_n, fNotN_t, dSl, dNo, dSome, fSl_l, fSl_t, dChain, dChain3, cLen_l, cLen_t, cInt_i, cInt_b, cAbs_i, cMax2_ii, cMin2_ii, cTuple_l, cTuple_t, cList_l, cList_t, gSet, gNilD, gConsD, gTupD, iSeq, PD.iZip, iR1, iR2, dComp, dFor, dSortedSet, dRg1, dRg2, fIx_l, fIx_t, fRev_l, fRev_t, dMove, dBreak, dCont, startD, startM, List.map_cons, List.map_nil, List.length_cons, List.length_nil, List.cons_append, List.nil_append, List.getElem?_cons_zero, List.getElem?_cons_succ, List.set_cons_zero, List.set_cons_succ, Option.some.injEq, Sl.dt.injEq, Sl.ow.injEq, PyData.int.injEq, PyData.bool.injEq, PyData.tuple.injEq, PyData.list.injEq, PyData.str.injEq, exists_eq_left, exists_eq_left', exists_eq_right, true_and, and_true, List.cons.injEq, Ob.lst.injEq, Nat.sub_zero, Nat.reduceAdd, Nat.reduceSub, List.replicate_succ, List.replicate_zero, if_true, if_false, Bool.false_eq_true, if_false, PyData.isInt, PyData.isBool, PyData.isStr, PyData.isTuple, PyData.isList, fEq_int, fNe_int, fEq_str, fNe_str, fEq_pair, fNe_pair, fNe_str1, fEq_nil, fNe_nil, atI_0, atI_1, atI_2, ixN_0, ixN_1, ixN_2, Bool.not_true, Bool.not_false, ite_true, ite_false, reduceCtorEq, ↓reduceIte, exists_and_left, exists_const, and_assoc, or_false, false_or, Nat.zero_le, Int.reduceAdd, Int.reduceNeg, Int.reduceSub, Int.reduceMul, Int.reduceLE, Int.reduceLT, Int.cast_ofNat_Int, decide_true, decide_false, eq_self, Nat.reduceLeDiff, Int.reduceEq]
    have fn := List.isEmpty_iff.mp hf
    have z : IsLow fs (fs.map best) (-(max 0 (-0))) := low_of_least (.inl ⟨fn, rfl⟩)
    exact q _ ⟨0, z, rfl⟩
  | false =>
    have hne : fs ≠ [] := fun z => by rw [z] at hf; cases hf
    have tne : ts ≠ [] := fun z => by
      subst z
      cases fs with
      | nil => exact hne rfl
      | cons f fs => exact absurd ((hk (best f)).mpr (List.mem_cons_self ..)) (by simp)
    simp only [dSeq, dNext, dRet, dRetN, dIfS, dNever, dAsg, dSetO, dPar, dPar3, dAug, dDrop, dApp, dSetIx, dVar, dC, PD.d2, PD.d1, dCons, dNil, dStar, dTup, dLstN, dLst, dNew, dAnd, dOr, dNot, dIf, dB, bAnd, bOr, bNot, fAdd_ii, fAdd_tt, fAdd_ll, fSub_ii, fMul_ii, fDiv_ii, fMod_ii, fPow_ii, fNeg_i, fLt_ii, fLe_ii, fGt_ii, fGe_ii, fOpI_ii, dIs, dCall, dCallM, dCallMN, lCall, dIxO, dIsN, dNotN, fIsN_i, fIsN_n, fIsN_t, fNotN_i, fNotN_n, fNotN_t, dSl, dNo, dSome, fSl_l, fSl_t, dChain, dChain3, cLen_l, cLen_t, cInt_i, cInt_b, cAbs_i, cMax2_ii, cMin2_ii, cTuple_l, cTuple_t, cList_l, cList_t, gSet, gNilD, gConsD, gTupD, iSeq, PD.iZip, iR1, iR2, dComp, dFor, dSortedSet, dRg1, dRg2, fIx_l, fIx_t, fRev_l, fRev_t, dMove, dBreak, dCont, startD, startM, List.map_cons, List.map_nil, List.length_cons, List.length_nil, List.cons_append, List.nil_append, List.getElem?_cons_zero, List.getElem?_cons_succ, List.set_cons_zero, List.set_cons_succ, Option.some.injEq, Sl.dt.injEq, Sl.ow.injEq, PyData.int.injEq, PyData.bool.injEq, PyData.tuple.injEq, PyData.list.injEq, PyData.str.injEq, exists_eq_left, exists_eq_left', exists_eq_right, true_and, and_true, List.cons.injEq, Ob.lst.injEq, Nat.sub_zero, Nat.reduceAdd, Nat.reduceSub, List.replicate_succ, List.replicate_zero, if_true, if_false, Bool.false_eq_true, if_false, PyData.isInt, PyData.isBool, PyData.isStr, PyData.isTuple, PyData.isList, fEq_int, fNe_int, fEq_str, fNe_str, fEq_pair, fNe_pair, fNe_str1, fEq_nil, fNe_nil, atI_0, atI_1, atI_2, ixN_0, ixN_1, ixN_2, Bool.not_true, Bool.not_false, ite_true, ite_false, reduceCtorEq, ↓reduceIte, exists_and_left, exists_const, and_assoc, or_false, false_or, Nat.zero_le, Int.reduceAdd, Int.reduceNeg, Int.reduceSub, Int.reduceMul, Int.reduceLE, Int.reduceLT, Int.cast_ofNat_Int, decide_true, decide_false, eq_self, Nat.reduceLeDiff, Int.reduceEq]
    have em : (ts.map fun t => PyData.int (lowAt fs (fs.map best) t)) = (ts.map fun t => lowAt fs (fs.map best) t).map PyData.int := by rw [List.map_map]; rfl
    rw [em]
    refine min_ints (fun z => tne (List.map_eq_nil_iff.mp z)) fun m hm hl => ?_
    obtain ⟨t, ht, rfl⟩ := List.mem_map.mp hm
    simp only [dSeq, dNext, dRet, dRetN, dIfS, dNever, dAsg, dSetO, dPar, dPar3, dAug, dDrop, dApp, dSetIx, dVar, dC, PD.d2, PD.d1, dCons, dNil, dStar, dTup, dLstN, dLst, dNew, dAnd, dOr, dNot, dIf, dB, bAnd, bOr, bNot, fAdd_ii, fAdd_tt, fAdd_ll, fSub_ii, fMul_ii, fDiv_ii, fMod_ii, fPow_ii, fNeg_i, fLt_ii, fLe_ii, fGt_ii, fGe_ii, fOpI_ii, dIs, dCall, dCallM, dCallMN, lCall, dIxO, dIsN, dNotN, fIsN_i, fIsN_n, fIsN_t, fNotN_i, fNotN_n, fNotN_t, dSl, dNo, dSome, fSl_l, fSl_t, dChain, dChain3, cLen_l, cLen_t, cInt_i, cInt_b, cAbs_i, cMax2_ii, cMin2_ii, cTuple_l, cTuple_t, cList_l, cList_t, gSet, gNilD, gConsD, gTupD, iSeq, PD.iZip, iR1, iR2, dComp, dFor, dSortedSet, dRg1, dRg2, fIx_l, fIx_t, fRev_l, fRev_t, dMove, dBreak, dCont, startD, startM, List.map_cons, List.map_nil, List.length_cons, List.length_nil, List.cons_append, List.nil_append, List.getElem?_cons_zero, List.getElem?_cons_succ, List.set_cons_zero, List.set_cons_succ, Option.some.injEq, Sl.dt.injEq, Sl.ow.injEq, PyData.int.injEq, PyData.bool.injEq, PyData.tuple.injEq, PyData.list.injEq, PyData.str.injEq, exists_eq_left, exists_eq_left', exists_eq_right, true_and, and_true, List.cons.injEq, Ob.lst.injEq, Nat.sub_zero, Nat.reduceAdd, Nat.reduceSub, List.replicate_succ, List.replicate_zero, if_true, if_false, Bool.false_eq_true, if_false, PyData.isInt, PyData.isBool, PyData.isStr, PyData.isTuple, PyData.isList, fEq_int, fNe_int, fEq_str, fNe_str, fEq_pair, fNe_pair, fNe_str1, fEq_nil, fNe_nil, atI_0, atI_1, atI_2, ixN_0, ixN_1, ixN_2, Bool.not_true, Bool.not_false, ite_true, ite_false, reduceCtorEq, ↓reduceIte, exists_and_left, exists_const, and_assoc, or_false, false_or, Nat.zero_le, Int.reduceAdd, Int.reduceNeg, Int.reduceSub, Int.reduceMul, Int.reduceLE, Int.reduceLT, Int.cast_ofNat_Int, decide_true, decide_false, eq_self, Nat.reduceLeDiff, Int.reduceEq]
    exact q _ ⟨_, low_of_least (.inr ⟨hne, ⟨t, (hk t).mp ht, rfl⟩, fun t' ht' => hl _ (List.mem_map.mpr ⟨t', (hk t').mpr ht', rfl⟩)⟩), rfl⟩


def S_surely_left : FC := SpC fun ds_ P_ => ∃ (cash : Int) (fs : List Fl) (day : Int), ds_ = [.int cash, encFs fs, .int day] ∧ (FlsOk fs ∧ 0 ≤ cash ∧ cash ≤ 1000000000 ∧ 0 ≤ day ∧ day ≤ 10000) ∧ P_ = fun d => d = .tuple [.int (cash + leftLo fs day), .int (cash + leftHi fs day)]
theorem up_surely_left : UpC S_surely_left := up_SpC
theorem use_surely_left {cash : Int} {fs : List Fl} {day : Int} {Q : D → Prop} (pre : FlsOk fs ∧ 0 ≤ cash ∧ cash ≤ 1000000000 ∧ 0 ≤ day ∧ day ≤ 10000) (h : Q (.tuple [.int (cash + leftLo fs day), .int (cash + leftHi fs day)])) : S_surely_left [.int cash, encFs fs, .int day] Q := ⟨_, ⟨cash, fs, day, rfl, pre, rfl⟩, fun d e => e ▸ h⟩
set_option maxHeartbeats 4000000 in
theorem ok_surely_left (T : Tx mg) (F : FunAt K mg "surely_left" s_surely_left p_surely_left) (h_is_int : OkAt P w K mg base "is_int" p_is_int 1 (spP K S_is_int)) (h_look_at_flows : OkAt P w K mg base "look_at_flows" p_look_at_flows 5 (spP K S_look_at_flows)) : OkAt P w K mg base "surely_left" p_surely_left 6 (spP K S_surely_left) := by
  have nd := sc_surely_left.nd
  refine okP F sc_surely_left (by rintro ds Q ⟨P, ⟨cash, fs, day, rfl, _, _⟩, _⟩; rfl) fun f cdv A outer s H E hr => ⟨_, (ssd_cons (sd_expr (ed_fnA h_look_at_flows up_look_at_flows hr (by rfl) (ad_cons (ed_var (pv 0)) (ad_cons (ed_var (pv 1)) ad_nil)))) (ssd_cons (sd_if (td_not (td_val (ed_fnA h_is_int up_is_int (hr.mono (by decide)) (by rfl) (ad_cons (ed_var (pv 2)) (ad_cons ed_int (ad_cons (ed_giE (by rfl) T.c_MOST_DAY) ad_nil)))))) ssd_never ssd_nil) (ssd_cons (sd_par (i := 3) (j := 4) rfl nd rfl rfl (by decide) rfl rfl (ad_cons (ed_var (pv 0)) (ad_cons (ed_var (pv 0)) ad_nil)) (by rfl)) (ssd_cons (sd_for PassesOwn.never rfl (id_seq (ed_var (pv 1))) (gd_tup (n := 3) rfl (gsd_cons (gd_name (pg_name (i := 5) nd rfl (by first | exact Or.inl rfl | exact Or.inr rfl))) (gsd_cons (gd_name (pg_name (i := 6) nd rfl (by first | exact Or.inl rfl | exact Or.inr rfl))) (gsd_cons (gd_name (pg_name (i := 7) nd rfl (by first | exact Or.inl rfl | exact Or.inr rfl))) gsd_nil)))) (ssd_one (sd_if (td_le (hU hr) (ed_var (pv 6)) (ed_var (pv 2))) (ssd_one (sd_par (i := 3) (j := 4) rfl nd rfl rfl (by decide) rfl rfl (ad_cons (ed_add (ed_var (pv 3)) (ed_var (pv 7))) (ad_cons (ed_add (ed_var (pv 4)) (ed_var (pv 7))) ad_nil)) (by rfl))) (ssd_one (sd_if (td_le (hU hr) (ed_var (pv 5)) (ed_var (pv 2))) (ssd_one (sd_par (i := 3) (j := 4) rfl nd rfl rfl (by decide) rfl rfl (ad_cons (ed_add (ed_var (pv 3)) (ed_call (fun h => pe_callB (call_min2 rfl) (by rfl) T.min PyProof.Rows.boot_min h) lk_min2 up_min2 (ad_cons (ed_var (pv 7)) (ad_cons ed_int ad_nil)))) (ad_cons (ed_add (ed_var (pv 4)) (ed_call (fun h => pe_callB (call_max2 rfl) (by rfl) T.max PyProof.Rows.boot_max h) lk_max2 up_max2 (ad_cons (ed_var (pv 7)) (ad_cons ed_int ad_nil)))) ad_nil)) (by rfl))) ssd_nil))))) (ssd_one (sd_ret (ed_tup (ad_cons (ed_var (pv 3)) (ad_cons (ed_var (pv 4)) ad_nil))))))))), fun ds Q h => ?_⟩
  obtain ⟨P, ⟨cash, fs, day, rfl, pre, rfl⟩, q⟩ := h
  replace q := q _ rfl
  obtain ⟨okf, c0, c1, d0, d1⟩ := pre
  simp only [dSeq, dNext, dRet, dRetN, dIfS, dNever, dAsg, dSetO, dPar, dPar3, dAug, dDrop, dApp, dSetIx, dVar, dC, PD.d2, PD.d1, dCons, dNil, dStar, dTup, dLstN, dLst, dNew, dAnd, dOr, dNot, dIf, dB, bAnd, bOr, bNot, fAdd_ii, fAdd_tt, fAdd_ll, fSub_ii, fMul_ii, fDiv_ii, fMod_ii, fPow_ii, fNeg_i, fLt_ii, fLe_ii, fGt_ii, fGe_ii, fOpI_ii, dIs, dCall, dCallM, dCallMN, lCall, dIxO, dIsN, dNotN, fIsN_i, fIsN_n, fIsN_t, fNotN_i, fNotN_n, fNotN_t, dSl, dNo, dSome, fSl_l, fSl_t, dChain, dChain3, cLen_l, cLen_t, cInt_i, cInt_b, cAbs_i, cMax2_ii, cMin2_ii, cTuple_l, cTuple_t, cList_l, cList_t, gSet, gNilD, gConsD, gTupD, iSeq, PD.iZip, iR1, iR2, dComp, dFor, dSortedSet, dRg1, dRg2, fIx_l, fIx_t, fRev_l, fRev_t, dMove, dBreak, dCont, startD, startM, List.map_cons, List.map_nil, List.length_cons, List.length_nil, List.cons_append, List.nil_append, List.getElem?_cons_zero, List.getElem?_cons_succ, List.set_cons_zero, List.set_cons_succ, Option.some.injEq, Sl.dt.injEq, Sl.ow.injEq, PyData.int.injEq, PyData.bool.injEq, PyData.tuple.injEq, PyData.list.injEq, PyData.str.injEq, exists_eq_left, exists_eq_left', exists_eq_right, true_and, and_true, List.cons.injEq, Ob.lst.injEq, Nat.sub_zero, Nat.reduceAdd, Nat.reduceSub, List.replicate_succ, List.replicate_zero, if_true, if_false, Bool.false_eq_true, if_false, PyData.isInt, PyData.isBool, PyData.isStr, PyData.isTuple, PyData.isList, fEq_int, fNe_int, fEq_str, fNe_str, fEq_pair, fNe_pair, fNe_str1, fEq_nil, fNe_nil, atI_0, atI_1, atI_2, ixN_0, ixN_1, ixN_2, Bool.not_true, Bool.not_false, ite_true, ite_false, reduceCtorEq, ↓reduceIte, exists_and_left, exists_const, and_assoc, or_false, false_or, Nat.zero_le, Int.reduceAdd, Int.reduceNeg, Int.reduceSub, Int.reduceMul, Int.reduceLE, Int.reduceLT, Int.cast_ofNat_Int, decide_true, decide_false, eq_self, Nat.reduceLeDiff, Int.reduceEq]
  refine use_look_at_flows ⟨okf, c0, c1⟩ ?_
  (try simp only [dSeq, dNext, dRet, dRetN, dIfS, dNever, dAsg, dSetO, dPar, dPar3, dAug, dDrop, dApp, dSetIx, dVar, dC, PD.d2, PD.d1, dCons, dNil, dStar, dTup, dLstN, dLst, dNew, dAnd, dOr, dNot, dIf, dB, bAnd, bOr, bNot, fAdd_ii, fAdd_tt, fAdd_ll, fSub_ii, fMul_ii, fDiv_ii, fMod_ii, fPow_ii, fNeg_i, fLt_ii, fLe_ii, fGt_ii, fGe_ii, fOpI_ii, dIs, dCall, dCallM, dCallMN, lCall, dIxO, dIsN, dNotN, fIsN_i, fIsN_n, fIsN_t, fNotN_i, fNotN_n, fNotN_t, dSl, dNo, dSome, fSl_l, fSl_t, dChain, dChain3, cLen_l, cLen_t, cInt_i, cInt_b, cAbs_i, cMax2_ii, cMin2_ii, cTuple_l, cTuple_t, cList_l, cList_t, gSet, gNilD, gConsD, gTupD, iSeq, PD.iZip, iR1, iR2, dComp, dFor, dSortedSet, dRg1, dRg2, fIx_l, fIx_t, fRev_l, fRev_t, dMove, dBreak, dCont, startD, startM, List.map_cons, List.map_nil, List.length_cons, List.length_nil, List.cons_append, List.nil_append, List.getElem?_cons_zero, List.getElem?_cons_succ, List.set_cons_zero, List.set_cons_succ, Option.some.injEq, Sl.dt.injEq, Sl.ow.injEq, PyData.int.injEq, PyData.bool.injEq, PyData.tuple.injEq, PyData.list.injEq, PyData.str.injEq, exists_eq_left, exists_eq_left', exists_eq_right, true_and, and_true, List.cons.injEq, Ob.lst.injEq, Nat.sub_zero, Nat.reduceAdd, Nat.reduceSub, List.replicate_succ, List.replicate_zero, if_true, if_false, Bool.false_eq_true, if_false, PyData.isInt, PyData.isBool, PyData.isStr, PyData.isTuple, PyData.isList, fEq_int, fNe_int, fEq_str, fNe_str, fEq_pair, fNe_pair, fNe_str1, fEq_nil, fNe_nil, atI_0, atI_1, atI_2, ixN_0, ixN_1, ixN_2, Bool.not_true, Bool.not_false, ite_true, ite_false, reduceCtorEq, ↓reduceIte, exists_and_left, exists_const, and_assoc, or_false, false_or, Nat.zero_le, Int.reduceAdd, Int.reduceNeg, Int.reduceSub, Int.reduceMul, Int.reduceLE, Int.reduceLT, Int.cast_ofNat_Int, decide_true, decide_false, eq_self, Nat.reduceLeDiff, Int.reduceEq])
  refine use_is_int trivial ⟨_, rfl, ?_⟩
  rw [isIntD_i d0 d1]
  (try simp only [dSeq, dNext, dRet, dRetN, dIfS, dNever, dAsg, dSetO, dPar, dPar3, dAug, dDrop, dApp, dSetIx, dVar, dC, PD.d2, PD.d1, dCons, dNil, dStar, dTup, dLstN, dLst, dNew, dAnd, dOr, dNot, dIf, dB, bAnd, bOr, bNot, fAdd_ii, fAdd_tt, fAdd_ll, fSub_ii, fMul_ii, fDiv_ii, fMod_ii, fPow_ii, fNeg_i, fLt_ii, fLe_ii, fGt_ii, fGe_ii, fOpI_ii, dIs, dCall, dCallM, dCallMN, lCall, dIxO, dIsN, dNotN, fIsN_i, fIsN_n, fIsN_t, fNotN_i, fNotN_n, fNotN_t, dSl, dNo, dSome, fSl_l, fSl_t, dChain, dChain3, cLen_l, cLen_t, cInt_i, cInt_b, cAbs_i, cMax2_ii, cMin2_ii, cTuple_l, cTuple_t, cList_l, cList_t, gSet, gNilD, gConsD, gTupD, iSeq, PD.iZip, iR1, iR2, dComp, dFor, dSortedSet, dRg1, dRg2, fIx_l, fIx_t, fRev_l, fRev_t, dMove, dBreak, dCont, startD, startM, List.map_cons, List.map_nil, List.length_cons, List.length_nil, List.cons_append, List.nil_append, List.getElem?_cons_zero, List.getElem?_cons_succ, List.set_cons_zero, List.set_cons_succ, Option.some.injEq, Sl.dt.injEq, Sl.ow.injEq, PyData.int.injEq, PyData.bool.injEq, PyData.tuple.injEq, PyData.list.injEq, PyData.str.injEq, exists_eq_left, exists_eq_left', exists_eq_right, true_and, and_true, List.cons.injEq, Ob.lst.injEq, Nat.sub_zero, Nat.reduceAdd, Nat.reduceSub, List.replicate_succ, List.replicate_zero, if_true, if_false, Bool.false_eq_true, if_false, PyData.isInt, PyData.isBool, PyData.isStr, PyData.isTuple, PyData.isList, fEq_int, fNe_int, fEq_str, fNe_str, fEq_pair, fNe_pair, fNe_str1, fEq_nil, fNe_nil, atI_0, atI_1, atI_2, ixN_0, ixN_1, ixN_2, Bool.not_true, Bool.not_false, ite_true, ite_false, reduceCtorEq, ↓reduceIte, exists_and_left, exists_const, and_assoc, or_false, false_or, Nat.zero_le, Int.reduceAdd, Int.reduceNeg, Int.reduceSub, Int.reduceMul, Int.reduceLE, Int.reduceLT, Int.cast_ofNat_Int, decide_true, decide_false, eq_self, Nat.reduceLeDiff, Int.reduceEq])
  refine for_all encF (fun rest e => ∃ (a b : Int) (s5 s6 s7 : Sl), e = [.dt (.int cash), .dt (encFs fs), .dt (.int day), .dt (.int a), .dt (.int b), s5, s6, s7] ∧ a + leftLo rest day = cash + leftLo fs day ∧ b + leftHi rest day = cash + leftHi fs day) fs _ ⟨cash, cash, _, _, _, rfl, rfl, rfl⟩ (fun f r e ⟨a, b, s5, s6, s7, he, ha, hb⟩ N hN => ?_) fun e ⟨a, b, s5, s6, s7, he, ha, hb⟩ => ?_
  · subst he
    simp only [dSeq, dNext, dRet, dRetN, dIfS, dNever, dAsg, dSetO, dPar, dPar3, dAug, dDrop, dApp, dSetIx, dVar, dC, PD.d2, PD.d1, dCons, dNil, dStar, dTup, dLstN, dLst, dNew, dAnd, dOr, dNot, dIf, dB, bAnd, bOr, bNot, fAdd_ii, fAdd_tt, fAdd_ll, fSub_ii, fMul_ii, fDiv_ii, fMod_ii, fPow_ii, fNeg_i, fLt_ii, fLe_ii, fGt_ii, fGe_ii, fOpI_ii, dIs, dCall, dCallM, dCallMN, lCall, dIxO, dIsN, dNotN, fIsN_i, fIsN_n, fIsN_t, fNotN_i, fNotN_n, fNotN_t, dSl, dNo, dSome, fSl_l, fSl_t, dChain, dChain3, cLen_l, cLen_t, cInt_i, cInt_b, cAbs_i, cMax2_ii, cMin2_ii, cTuple_l, cTuple_t, cList_l, cList_t, gSet, gNilD, gConsD, gTupD, iSeq, PD.iZip, iR1, iR2, dComp, dFor, dSortedSet, dRg1, dRg2, fIx_l, fIx_t, fRev_l, fRev_t, dMove, dBreak, dCont, startD, startM, List.map_cons, List.map_nil, List.length_cons, List.length_nil, List.cons_append, List.nil_append, List.getElem?_cons_zero, List.getElem?_cons_succ, List.set_cons_zero, List.set_cons_succ, Option.some.injEq, Sl.dt.injEq, Sl.ow.injEq, PyData.int.injEq, PyData.bool.injEq, PyData.tuple.injEq, PyData.list.injEq, PyData.str.injEq, exists_eq_left, exists_eq_left', exists_eq_right, true_and, and_true, List.cons.injEq, Ob.lst.injEq, Nat.sub_zero, Nat.reduceAdd, Nat.reduceSub, List.replicate_succ, List.replicate_zero, if_true, if_false, Bool.false_eq_true, if_false, PyData.isInt, PyData.isBool, PyData.isStr, PyData.isTuple, PyData.isList, fEq_int, fNe_int, fEq_str, fNe_str, fEq_pair, fNe_pair, fNe_str1, fEq_nil, fNe_nil, atI_0, atI_1, atI_2, ixN_0, ixN_1, ixN_2, Bool.not_true, Bool.not_false, ite_true, ite_false, reduceCtorEq, ↓reduceIte, exists_and_left, exists_const, and_assoc, or_false, false_or, Nat.zero_le, Int.reduceAdd, Int.reduceNeg, Int.reduceSub, Int.reduceMul, Int.reduceLE, Int.reduceLT, Int.cast_ofNat_Int, decide_true, decide_false, eq_self, Nat.reduceLeDiff, Int.reduceEq, encF]
    unfold leftLo at ha
    unfold leftHi at hb
    rw [List.map_cons, List.sum_cons] at ha hb
    by_cases h1 : f.2.1 ≤ day
    · rw [decide_eq_true h1]
      simp only [dSeq, dNext, dRet, dRetN, dIfS, dNever, dAsg, dSetO, dPar, dPar3, dAug, dDrop, dApp, dSetIx, dVar, dC, PD.d2, PD.d1, dCons, dNil, dStar, dTup, dLstN, dLst, dNew, dAnd, dOr, dNot, dIf, dB, bAnd, bOr, bNot, fAdd_ii, fAdd_tt, fAdd_ll, fSub_ii, fMul_ii, fDiv_ii, fMod_ii, fPow_ii, fNeg_i, fLt_ii, fLe_ii, fGt_ii, fGe_ii, fOpI_ii, dIs, dCall, dCallM, dCallMN, lCall, dIxO, dIsN, dNotN, fIsN_i, fIsN_n, fIsN_t, fNotN_i, fNotN_n, fNotN_t, dSl, dNo, dSome, fSl_l, fSl_t, dChain, dChain3, cLen_l, cLen_t, cInt_i, cInt_b, cAbs_i, cMax2_ii, cMin2_ii, cTuple_l, cTuple_t, cList_l, cList_t, gSet, gNilD, gConsD, gTupD, iSeq, PD.iZip, iR1, iR2, dComp, dFor, dSortedSet, dRg1, dRg2, fIx_l, fIx_t, fRev_l, fRev_t, dMove, dBreak, dCont, startD, startM, List.map_cons, List.map_nil, List.length_cons, List.length_nil, List.cons_append, List.nil_append, List.getElem?_cons_zero, List.getElem?_cons_succ, List.set_cons_zero, List.set_cons_succ, Option.some.injEq, Sl.dt.injEq, Sl.ow.injEq, PyData.int.injEq, PyData.bool.injEq, PyData.tuple.injEq, PyData.list.injEq, PyData.str.injEq, exists_eq_left, exists_eq_left', exists_eq_right, true_and, and_true, List.cons.injEq, Ob.lst.injEq, Nat.sub_zero, Nat.reduceAdd, Nat.reduceSub, List.replicate_succ, List.replicate_zero, if_true, if_false, Bool.false_eq_true, if_false, PyData.isInt, PyData.isBool, PyData.isStr, PyData.isTuple, PyData.isList, fEq_int, fNe_int, fEq_str, fNe_str, fEq_pair, fNe_pair, fNe_str1, fEq_nil, fNe_nil, atI_0, atI_1, atI_2, ixN_0, ixN_1, ixN_2, Bool.not_true, Bool.not_false, ite_true, ite_false, reduceCtorEq, ↓reduceIte, exists_and_left, exists_const, and_assoc, or_false, false_or, Nat.zero_le, Int.reduceAdd, Int.reduceNeg, Int.reduceSub, Int.reduceMul, Int.reduceLE, Int.reduceLT, Int.cast_ofNat_Int, decide_true, decide_false, eq_self, Nat.reduceLeDiff, Int.reduceEq]
      rw [if_pos h1] at ha hb
      exact hN _ ⟨_, _, _, _, _, rfl, by unfold leftLo; omega, by unfold leftHi; omega⟩
    · rw [decide_eq_false h1]
      simp only [dSeq, dNext, dRet, dRetN, dIfS, dNever, dAsg, dSetO, dPar, dPar3, dAug, dDrop, dApp, dSetIx, dVar, dC, PD.d2, PD.d1, dCons, dNil, dStar, dTup, dLstN, dLst, dNew, dAnd, dOr, dNot, dIf, dB, bAnd, bOr, bNot, fAdd_ii, fAdd_tt, fAdd_ll, fSub_ii, fMul_ii, fDiv_ii, fMod_ii, fPow_ii, fNeg_i, fLt_ii, fLe_ii, fGt_ii, fGe_ii, fOpI_ii, dIs, dCall, dCallM, dCallMN, lCall, dIxO, dIsN, dNotN, fIsN_i, fIsN_n, fIsN_t, fNotN_i, fNotN_n, fNotN_t, dSl, dNo, dSome, fSl_l, fSl_t, dChain, dChain3, cLen_l, cLen_t, cInt_i, cInt_b, cAbs_i, cMax2_ii, cMin2_ii, cTuple_l, cTuple_t, cList_l, cList_t, gSet, gNilD, gConsD, gTupD, iSeq, PD.iZip, iR1, iR2, dComp, dFor, dSortedSet, dRg1, dRg2, fIx_l, fIx_t, fRev_l, fRev_t, dMove, dBreak, dCont, startD, startM, List.map_cons, List.map_nil, List.length_cons, List.length_nil, List.cons_append, List.nil_append, List.getElem?_cons_zero, List.getElem?_cons_succ, List.set_cons_zero, List.set_cons_succ, Option.some.injEq, Sl.dt.injEq, Sl.ow.injEq, PyData.int.injEq, PyData.bool.injEq, PyData.tuple.injEq, PyData.list.injEq, PyData.str.injEq, exists_eq_left, exists_eq_left', exists_eq_right, true_and, and_true, List.cons.injEq, Ob.lst.injEq, Nat.sub_zero, Nat.reduceAdd, Nat.reduceSub, List.replicate_succ, List.replicate_zero, if_true, if_false, Bool.false_eq_true, if_false, PyData.isInt, PyData.isBool, PyData.isStr, PyData.isTuple, PyData.isList, fEq_int, fNe_int, fEq_str, fNe_str, fEq_pair, fNe_pair, fNe_str1, fEq_nil, fNe_nil, atI_0, atI_1, atI_2, ixN_0, ixN_1, ixN_2, Bool.not_true, Bool.not_false, ite_true, ite_false, reduceCtorEq, ↓reduceIte, exists_and_left, exists_const, and_assoc, or_false, false_or, Nat.zero_le, Int.reduceAdd, Int.reduceNeg, Int.reduceSub, Int.reduceMul, Int.reduceLE, Int.reduceLT, Int.cast_ofNat_Int, decide_true, decide_false, eq_self, Nat.reduceLeDiff, Int.reduceEq]
      rw [if_neg h1] at ha hb
      by_cases h2 : f.1 ≤ day
      · rw [decide_eq_true h2]
        simp only [dSeq, dNext, dRet, dRetN, dIfS, dNever, dAsg, dSetO, dPar, dPar3, dAug, dDrop, dApp, dSetIx, dVar, dC, PD.d2, PD.d1, dCons, dNil, dStar, dTup, dLstN, dLst, dNew, dAnd, dOr, dNot, dIf, dB, bAnd, bOr, bNot, fAdd_ii, fAdd_tt, fAdd_ll, fSub_ii, fMul_ii, fDiv_ii, fMod_ii, fPow_ii, fNeg_i, fLt_ii, fLe_ii, fGt_ii, fGe_ii, fOpI_ii, dIs, dCall, dCallM, dCallMN, lCall, dIxO, dIsN, dNotN, fIsN_i, fIsN_n, fIsN_t, fNotN_i, fNotN_n, fNotN_t, dSl, dNo, dSome, fSl_l, fSl_t, dChain, dChain3, cLen_l, cLen_t, cInt_i, cInt_b, cAbs_i, cMax2_ii, cMin2_ii, cTuple_l, cTuple_t, cList_l, cList_t, gSet, gNilD, gConsD, gTupD, iSeq, PD.iZip, iR1, iR2, dComp, dFor, dSortedSet, dRg1, dRg2, fIx_l, fIx_t, fRev_l, fRev_t, dMove, dBreak, dCont, startD, startM, List.map_cons, List.map_nil, List.length_cons, List.length_nil, List.cons_append, List.nil_append, List.getElem?_cons_zero, List.getElem?_cons_succ, List.set_cons_zero, List.set_cons_succ, Option.some.injEq, Sl.dt.injEq, Sl.ow.injEq, PyData.int.injEq, PyData.bool.injEq, PyData.tuple.injEq, PyData.list.injEq, PyData.str.injEq, exists_eq_left, exists_eq_left', exists_eq_right, true_and, and_true, List.cons.injEq, Ob.lst.injEq, Nat.sub_zero, Nat.reduceAdd, Nat.reduceSub, List.replicate_succ, List.replicate_zero, if_true, if_false, Bool.false_eq_true, if_false, PyData.isInt, PyData.isBool, PyData.isStr, PyData.isTuple, PyData.isList, fEq_int, fNe_int, fEq_str, fNe_str, fEq_pair, fNe_pair, fNe_str1, fEq_nil, fNe_nil, atI_0, atI_1, atI_2, ixN_0, ixN_1, ixN_2, Bool.not_true, Bool.not_false, ite_true, ite_false, reduceCtorEq, ↓reduceIte, exists_and_left, exists_const, and_assoc, or_false, false_or, Nat.zero_le, Int.reduceAdd, Int.reduceNeg, Int.reduceSub, Int.reduceMul, Int.reduceLE, Int.reduceLT, Int.cast_ofNat_Int, decide_true, decide_false, eq_self, Nat.reduceLeDiff, Int.reduceEq]
        rw [if_pos h2] at ha hb
        exact hN _ ⟨_, _, _, _, _, rfl, by unfold leftLo; omega, by unfold leftHi; omega⟩
      · rw [decide_eq_false h2]
        simp only [dSeq, dNext, dRet, dRetN, dIfS, dNever, dAsg, dSetO, dPar, dPar3, dAug, dDrop, dApp, dSetIx, dVar, dC, PD.d2, PD.d1, dCons, dNil, dStar, dTup, dLstN, dLst, dNew, dAnd, dOr, dNot, dIf, dB, bAnd, bOr, bNot, fAdd_ii, fAdd_tt, fAdd_ll, fSub_ii, fMul_ii, fDiv_ii, fMod_ii, fPow_ii, fNeg_i, fLt_ii, fLe_ii, fGt_ii, fGe_ii, fOpI_ii, dIs, dCall, dCallM, dCallMN, lCall, dIxO, dIsN, dNotN, fIsN_i, fIsN_n, fIsN_t, fNotN_i, fNotN_n, fNotN_t, dSl, dNo, dSome, fSl_l, fSl_t, dChain, dChain3, cLen_l, cLen_t, cInt_i, cInt_b, cAbs_i, cMax2_ii, cMin2_ii, cTuple_l, cTuple_t, cList_l, cList_t, gSet, gNilD, gConsD, gTupD, iSeq, PD.iZip, iR1, iR2, dComp, dFor, dSortedSet, dRg1, dRg2, fIx_l, fIx_t, fRev_l, fRev_t, dMove, dBreak, dCont, startD, startM, List.map_cons, List.map_nil, List.length_cons, List.length_nil, List.cons_append, List.nil_append, List.getElem?_cons_zero, List.getElem?_cons_succ, List.set_cons_zero, List.set_cons_succ, Option.some.injEq, Sl.dt.injEq, Sl.ow.injEq, PyData.int.injEq, PyData.bool.injEq, PyData.tuple.injEq, PyData.list.injEq, PyData.str.injEq, exists_eq_left, exists_eq_left', exists_eq_right, true_and, and_true, List.cons.injEq, Ob.lst.injEq, Nat.sub_zero, Nat.reduceAdd, Nat.reduceSub, List.replicate_succ, List.replicate_zero, if_true, if_false, Bool.false_eq_true, if_false, PyData.isInt, PyData.isBool, PyData.isStr, PyData.isTuple, PyData.isList, fEq_int, fNe_int, fEq_str, fNe_str, fEq_pair, fNe_pair, fNe_str1, fEq_nil, fNe_nil, atI_0, atI_1, atI_2, ixN_0, ixN_1, ixN_2, Bool.not_true, Bool.not_false, ite_true, ite_false, reduceCtorEq, ↓reduceIte, exists_and_left, exists_const, and_assoc, or_false, false_or, Nat.zero_le, Int.reduceAdd, Int.reduceNeg, Int.reduceSub, Int.reduceMul, Int.reduceLE, Int.reduceLT, Int.cast_ofNat_Int, decide_true, decide_false, eq_self, Nat.reduceLeDiff, Int.reduceEq]
        rw [if_neg h2] at ha hb
        exact hN _ ⟨_, _, _, _, _, rfl, by unfold leftLo; omega, by unfold leftHi; omega⟩
  · subst he
    simp only [dSeq, dNext, dRet, dRetN, dIfS, dNever, dAsg, dSetO, dPar, dPar3, dAug, dDrop, dApp, dSetIx, dVar, dC, PD.d2, PD.d1, dCons, dNil, dStar, dTup, dLstN, dLst, dNew, dAnd, dOr, dNot, dIf, dB, bAnd, bOr, bNot, fAdd_ii, fAdd_tt, fAdd_ll, fSub_ii, fMul_ii, fDiv_ii, fMod_ii, fPow_ii, fNeg_i, fLt_ii, fLe_ii, fGt_ii, fGe_ii, fOpI_ii, dIs, dCall, dCallM, dCallMN, lCall, dIxO, dIsN, dNotN, fIsN_i, fIsN_n, fIsN_t, fNotN_i, fNotN_n, fNotN_t, dSl, dNo, dSome, fSl_l, fSl_t, dChain, dChain3, cLen_l, cLen_t, cInt_i, cInt_b, cAbs_i, cMax2_ii, cMin2_ii, cTuple_l, cTuple_t, cList_l, cList_t, gSet, gNilD, gConsD, gTupD, iSeq, PD.iZip, iR1, iR2, dComp, dFor, dSortedSet, dRg1, dRg2, fIx_l, fIx_t, fRev_l, fRev_t, dMove, dBreak, dCont, startD, startM, List.map_cons, List.map_nil, List.length_cons, List.length_nil, List.cons_append, List.nil_append, List.getElem?_cons_zero, List.getElem?_cons_succ, List.set_cons_zero, List.set_cons_succ, Option.some.injEq, Sl.dt.injEq, Sl.ow.injEq, PyData.int.injEq, PyData.bool.injEq, PyData.tuple.injEq, PyData.list.injEq, PyData.str.injEq, exists_eq_left, exists_eq_left', exists_eq_right, true_and, and_true, List.cons.injEq, Ob.lst.injEq, Nat.sub_zero, Nat.reduceAdd, Nat.reduceSub, List.replicate_succ, List.replicate_zero, if_true, if_false, Bool.false_eq_true, if_false, PyData.isInt, PyData.isBool, PyData.isStr, PyData.isTuple, PyData.isList, fEq_int, fNe_int, fEq_str, fNe_str, fEq_pair, fNe_pair, fNe_str1, fEq_nil, fNe_nil, atI_0, atI_1, atI_2, ixN_0, ixN_1, ixN_2, Bool.not_true, Bool.not_false, ite_true, ite_false, reduceCtorEq, ↓reduceIte, exists_and_left, exists_const, and_assoc, or_false, false_or, Nat.zero_le, Int.reduceAdd, Int.reduceNeg, Int.reduceSub, Int.reduceMul, Int.reduceLE, Int.reduceLT, Int.cast_ofNat_Int, decide_true, decide_false, eq_self, Nat.reduceLeDiff, Int.reduceEq]
    have z1 : leftLo [] day = 0 := rfl
    have z2 : leftHi [] day = 0 := rfl
    rw [z1, Int.add_zero] at ha
    rw [z2, Int.add_zero] at hb
    rw [ha, hb]
    exact q

end
end K21

namespace K21
open PySem PySem.Spec PyProof.Rows L2 PD
section
variable {P : Program} {w : World} {K : PySem.W.Frag} {mg : Str → Option Value} {base : Heap}

/-! the pot -/
def Pot (k : Nat) (m : Ob) : Prop := ∃ own mix cnt : Int, m = .lst [.int own, .int mix, .int cnt] ∧ 0 ≤ own ∧ own < (10 ^ 60) ^ 5 ∧ 0 ≤ mix ∧ mix < 2305843009213693951 ∧ 0 ≤ cnt ∧ cnt + k ≤ 1000000000
theorem Pot.mono {j k : Nat} {m : Ob} (h : Pot k m) (l : j ≤ k) : Pot j m := by
  obtain ⟨own, mix, cnt, e, h1, h2, h3, h4, h5, h6⟩ := h
  exact ⟨own, mix, cnt, e, h1, h2, h3, h4, h5, by omega⟩
theorem big_of {i : Int} (h1 : -18446744073709551616 < i) (h2 : i < 18446744073709551616) : i.natAbs < 2 ^ 1500 :=
  Nat.lt_of_lt_of_le (by omega : i.natAbs < 18446744073709551616) (by decide +kernel)
theorem big_own {i : Int} (h1 : 0 ≤ i) (h2 : i < (10 ^ 60) ^ 5) : i.natAbs < 2 ^ 1500 := by
  have e : ((10 : Int) ^ 60) ^ 5 = (((10 ^ 60) ^ 5 : Nat) : Int) := by norm_cast
  rw [e] at h2
  exact Nat.lt_trans (by omega : i.natAbs < (10 ^ 60) ^ 5) (by decide +kernel)
theorem prime_at {j : Int} (h0 : 0 ≤ j) (h1 : j < 5) {a b c d e : Int} (ha : 0 < a) (hb : 0 < b) (hc : 0 < c) (hd : 0 < d) (he : 0 < e) (la : a < 2147483648) (lb : b < 2147483648) (lc : c < 2147483648) (ld : d < 2147483648) (le : e < 2147483648) : ∃ p, atI [PyData.int a, .int b, .int c, .int d, .int e] j = some (.int p) ∧ 0 < p ∧ p < 2147483648 := by
  have hj : j = 0 ∨ j = 1 ∨ j = 2 ∨ j = 3 ∨ j = 4 := by omega
  rcases hj with rfl | rfl | rfl | rfl | rfl
  · exact ⟨a, rfl, ha, la⟩
  · exact ⟨b, rfl, hb, lb⟩
  · exact ⟨c, rfl, hc, lc⟩
  · exact ⟨d, rfl, hd, ld⟩
  · exact ⟨e, rfl, he, le⟩

def S_law_take : FM := SpM fun m_ ds_ P_ => ∃ (m : Ob) (k : Nat) (upto : Int), m_ = m ∧ ds_ = [.int upto] ∧ (Pot (k + 1) m ∧ 0 < upto ∧ upto ≤ 1073741824) ∧ P_ = fun d m' => ∃ r : Int, 0 ≤ r ∧ r < upto ∧ d = .int r ∧ Pot k m'
theorem up_law_take : UpM S_law_take := up_SpM
theorem use_law_take {m : Ob} {k : Nat} {upto : Int} {Q : D → Ob → Prop} (pre : Pot (k + 1) m ∧ 0 < upto ∧ upto ≤ 1073741824) (h : ∀ d m', (fun d m' => ∃ r : Int, 0 ≤ r ∧ r < upto ∧ d = .int r ∧ Pot k m') d m' → Q d m') : S_law_take m [.int upto] Q := ⟨_, ⟨m, k, upto, rfl, rfl, pre, rfl⟩, h⟩
set_option maxHeartbeats 4000000 in
theorem ok_law_take (T : Tx mg) (F : FunAt K mg "_law_take" s__law_take p__law_take)  : OkAt P w K mg base "_law_take" p__law_take 1 (spM K S_law_take) := by
  have nd := sc__law_take.nd
  refine okM F sc__law_take (by rintro m ds Q ⟨P, ⟨m, k, upto, em, rfl, _, _⟩, _⟩; rfl) fun f cdv A outer s H E hr => ⟨_, (ssd_cons (sd_if (td_gt (hU hr) (ed_ixO (fun _ _ => rfl) (pv 0) ed_int) ed_int) (ssd_cons (sd_set (i := 2) nd rfl (by first | exact Or.inl rfl | exact Or.inr rfl) (ed_mod (ed_call (fun h => pe_callTy call_int1 (by rfl) T.int PyProof.Rows.boot_int h) lk_int up_int (ad_cons (ed_ixO (fun _ _ => rfl) (pv 0) ed_int) ad_nil)) (ed_var (pv 1)))) (ssd_cons (sd_setIx (pv 0) ed_int (ed_div (ed_ixO (fun _ _ => rfl) (pv 0) ed_int) (ed_var (pv 1))) (fun h1 h2 => pg_sub h1 h2 set_list)) (ssd_one (sd_ret (ed_var (pv 2)))))) ssd_nil) (ssd_cons (sd_setIx (pv 0) ed_int (ed_add (ed_ixO (fun _ _ => rfl) (pv 0) ed_int) ed_int) (fun h1 h2 => pg_sub h1 h2 set_list)) (ssd_cons (sd_set (i := 3) nd rfl (by first | exact Or.inl rfl | exact Or.inr rfl) (ed_ix (fun _ _ => rfl) (ed_new (ld_lst (ad_cons ed_int (ad_cons ed_int (ad_cons ed_int (ad_cons ed_int (ad_cons ed_int ad_nil))))))) (ed_mod (ed_call (fun h => pe_callTy call_int1 (by rfl) T.int PyProof.Rows.boot_int h) lk_int up_int (ad_cons (ed_ixO (fun _ _ => rfl) (pv 0) ed_int) ad_nil)) ed_int))) (ssd_cons (sd_set (i := 4) nd rfl (by first | exact Or.inl rfl | exact Or.inr rfl) (ed_mod (ed_call (fun h => pe_callTy call_int1 (by rfl) T.int PyProof.Rows.boot_int h) lk_int up_int (ad_cons (ed_pow (ed_call (fun h => pe_callTy call_int1 (by rfl) T.int PyProof.Rows.boot_int h) lk_int up_int (ad_cons (ed_add (ed_add (ed_ixO (fun _ _ => rfl) (pv 0) ed_int) (ed_mul (ed_mul ed_int (ed_ixO (fun _ _ => rfl) (pv 0) ed_int)) (ed_ixO (fun _ _ => rfl) (pv 0) ed_int))) ed_int) ad_nil)) ed_int) ad_nil)) (ed_var (pv 3)))) (ssd_cons (sd_set (i := 4) nd rfl (by first | exact Or.inl rfl | exact Or.inr rfl) (ed_mod (ed_call (fun h => pe_callTy call_int1 (by rfl) T.int PyProof.Rows.boot_int h) lk_int up_int (ad_cons (ed_mul (ed_var (pv 4)) (ed_add (ed_mod (ed_call (fun h => pe_callTy call_int1 (by rfl) T.int PyProof.Rows.boot_int h) lk_int up_int (ad_cons (ed_var (pv 4)) ad_nil)) ed_int) (ed_mul ed_int (ed_ixO (fun _ _ => rfl) (pv 0) ed_int)))) ad_nil)) ed_int)) (ssd_one (sd_ret (ed_mod (ed_call (fun h => pe_callTy call_int1 (by rfl) T.int PyProof.Rows.boot_int h) lk_int up_int (ad_cons (ed_div (ed_var (pv 4)) ed_int) ad_nil)) (ed_var (pv 1)))))))))), fun p m ds Q h => ?_⟩
  obtain ⟨P, ⟨m, k, upto, rfl, rfl, pre, rfl⟩, q⟩ := h
  obtain ⟨⟨own, mix, cnt, rfl, h1, h2, h3, h4, h5, h6⟩, u0, u1⟩ := pre
  simp only [dSeq, dNext, dRet, dRetN, dIfS, dNever, dAsg, dSetO, dPar, dPar3, dAug, dDrop, dApp, dSetIx, dVar, dC, PD.d2, PD.d1, dCons, dNil, dStar, dTup, dLstN, dLst, dNew, dAnd, dOr, dNot, dIf, dB, bAnd, bOr, bNot, fAdd_ii, fAdd_tt, fAdd_ll, fSub_ii, fMul_ii, fDiv_ii, fMod_ii, fPow_ii, fNeg_i, fLt_ii, fLe_ii, fGt_ii, fGe_ii, fOpI_ii, dIs, dCall, dCallM, dCallMN, lCall, dIxO, dIsN, dNotN, fIsN_i, fIsN_n, fIsN_t, fNotN_i, fNotN_n, fNotN_t, dSl, dNo, dSome, fSl_l, fSl_t, dChain, dChain3, cLen_l, cLen_t, cInt_i, cInt_b, cAbs_i, cMax2_ii, cMin2_ii, cTuple_l, cTuple_t, cList_l, cList_t, gSet, gNilD, gConsD, gTupD, iSeq, PD.iZip, iR1, iR2, dComp, dFor, dSortedSet, dRg1, dRg2, fIx_l, fIx_t, fRev_l, fRev_t, dMove, dBreak, dCont, startD, startM, List.map_cons, List.map_nil, List.length_cons, List.length_nil, List.cons_append, List.nil_append, List.getElem?_cons_zero, List.getElem?_cons_succ, List.set_cons_zero, List.set_cons_succ, Option.some.injEq, Sl.dt.injEq, Sl.ow.injEq, PyData.int.injEq, PyData.bool.injEq, PyData.tuple.injEq, PyData.list.injEq, PyData.str.injEq, exists_eq_left, exists_eq_left', exists_eq_right, true_and, and_true, List.cons.injEq, Ob.lst.injEq, Nat.sub_zero, Nat.reduceAdd, Nat.reduceSub, List.replicate_succ, List.replicate_zero, if_true, if_false, Bool.false_eq_true, if_false, PyData.isInt, PyData.isBool, PyData.isStr, PyData.isTuple, PyData.isList, fEq_int, fNe_int, fEq_str, fNe_str, fEq_pair, fNe_pair, fNe_str1, fEq_nil, fNe_nil, atI_0, atI_1, atI_2, ixN_0, ixN_1, ixN_2, Bool.not_true, Bool.not_false, ite_true, ite_false, reduceCtorEq, ↓reduceIte, exists_and_left, exists_const, and_assoc, or_false, false_or, Nat.zero_le, Int.reduceAdd, Int.reduceNeg, Int.reduceSub, Int.reduceMul, Int.reduceLE, Int.reduceLT, Int.cast_ofNat_Int, decide_true, decide_false, eq_self, Nat.reduceLeDiff, Int.reduceEq]
  by_cases ho : 0 < own
  · rw [decide_eq_true ho]
    simp only [dSeq, dNext, dRet, dRetN, dIfS, dNever, dAsg, dSetO, dPar, dPar3, dAug, dDrop, dApp, dSetIx, dVar, dC, PD.d2, PD.d1, dCons, dNil, dStar, dTup, dLstN, dLst, dNew, dAnd, dOr, dNot, dIf, dB, bAnd, bOr, bNot, fAdd_ii, fAdd_tt, fAdd_ll, fSub_ii, fMul_ii, fDiv_ii, fMod_ii, fPow_ii, fNeg_i, fLt_ii, fLe_ii, fGt_ii, fGe_ii, fOpI_ii, dIs, dCall, dCallM, dCallMN, lCall, dIxO, dIsN, dNotN, fIsN_i, fIsN_n, fIsN_t, fNotN_i, fNotN_n, fNotN_t, dSl, dNo, dSome, fSl_l, fSl_t, dChain, dChain3, cLen_l, cLen_t, cInt_i, cInt_b, cAbs_i, cMax2_ii, cMin2_ii, cTuple_l, cTuple_t, cList_l, cList_t, gSet, gNilD, gConsD, gTupD, iSeq, PD.iZip, iR1, iR2, dComp, dFor, dSortedSet, dRg1, dRg2, fIx_l, fIx_t, fRev_l, fRev_t, dMove, dBreak, dCont, startD, startM, List.map_cons, List.map_nil, List.length_cons, List.length_nil, List.cons_append, List.nil_append, List.getElem?_cons_zero, List.getElem?_cons_succ, List.set_cons_zero, List.set_cons_succ, Option.some.injEq, Sl.dt.injEq, Sl.ow.injEq, PyData.int.injEq, PyData.bool.injEq, PyData.tuple.injEq, PyData.list.injEq, PyData.str.injEq, exists_eq_left, exists_eq_left', exists_eq_right, true_and, and_true, List.cons.injEq, Ob.lst.injEq, Nat.sub_zero, Nat.reduceAdd, Nat.reduceSub, List.replicate_succ, List.replicate_zero, if_true, if_false, Bool.false_eq_true, if_false, PyData.isInt, PyData.isBool, PyData.isStr, PyData.isTuple, PyData.isList, fEq_int, fNe_int, fEq_str, fNe_str, fEq_pair, fNe_pair, fNe_str1, fEq_nil, fNe_nil, atI_0, atI_1, atI_2, ixN_0, ixN_1, ixN_2, Bool.not_true, Bool.not_false, ite_true, ite_false, reduceCtorEq, ↓reduceIte, exists_and_left, exists_const, and_assoc, or_false, false_or, Nat.zero_le, Int.reduceAdd, Int.reduceNeg, Int.reduceSub, Int.reduceMul, Int.reduceLE, Int.reduceLT, Int.cast_ofNat_Int, decide_true, decide_false, eq_self, Nat.reduceLeDiff, Int.reduceEq]
    refine ⟨u0, u0, big_of (by omega) (by omega), ?_⟩
    refine q _ _ ⟨own % upto, Int.emod_nonneg _ (by omega), Int.emod_lt_of_pos _ u0, rfl, _, _, _, rfl, Int.ediv_nonneg h1 (by omega), Int.lt_of_le_of_lt (Int.ediv_le_self _ h1) h2, h3, h4, h5, by omega⟩
  · rw [decide_eq_false ho]
    simp only [dSeq, dNext, dRet, dRetN, dIfS, dNever, dAsg, dSetO, dPar, dPar3, dAug, dDrop, dApp, dSetIx, dVar, dC, PD.d2, PD.d1, dCons, dNil, dStar, dTup, dLstN, dLst, dNew, dAnd, dOr, dNot, dIf, dB, bAnd, bOr, bNot, fAdd_ii, fAdd_tt, fAdd_ll, fSub_ii, fMul_ii, fDiv_ii, fMod_ii, fPow_ii, fNeg_i, fLt_ii, fLe_ii, fGt_ii, fGe_ii, fOpI_ii, dIs, dCall, dCallM, dCallMN, lCall, dIxO, dIsN, dNotN, fIsN_i, fIsN_n, fIsN_t, fNotN_i, fNotN_n, fNotN_t, dSl, dNo, dSome, fSl_l, fSl_t, dChain, dChain3, cLen_l, cLen_t, cInt_i, cInt_b, cAbs_i, cMax2_ii, cMin2_ii, cTuple_l, cTuple_t, cList_l, cList_t, gSet, gNilD, gConsD, gTupD, iSeq, PD.iZip, iR1, iR2, dComp, dFor, dSortedSet, dRg1, dRg2, fIx_l, fIx_t, fRev_l, fRev_t, dMove, dBreak, dCont, startD, startM, List.map_cons, List.map_nil, List.length_cons, List.length_nil, List.cons_append, List.nil_append, List.getElem?_cons_zero, List.getElem?_cons_succ, List.set_cons_zero, List.set_cons_succ, Option.some.injEq, Sl.dt.injEq, Sl.ow.injEq, PyData.int.injEq, PyData.bool.injEq, PyData.tuple.injEq, PyData.list.injEq, PyData.str.injEq, exists_eq_left, exists_eq_left', exists_eq_right, true_and, and_true, List.cons.injEq, Ob.lst.injEq, Nat.sub_zero, Nat.reduceAdd, Nat.reduceSub, List.replicate_succ, List.replicate_zero, if_true, if_false, Bool.false_eq_true, if_false, PyData.isInt, PyData.isBool, PyData.isStr, PyData.isTuple, PyData.isList, fEq_int, fNe_int, fEq_str, fNe_str, fEq_pair, fNe_pair, fNe_str1, fEq_nil, fNe_nil, atI_0, atI_1, atI_2, ixN_0, ixN_1, ixN_2, Bool.not_true, Bool.not_false, ite_true, ite_false, reduceCtorEq, ↓reduceIte, exists_and_left, exists_const, and_assoc, or_false, false_or, Nat.zero_le, Int.reduceAdd, Int.reduceNeg, Int.reduceSub, Int.reduceMul, Int.reduceLE, Int.reduceLT, Int.cast_ofNat_Int, decide_true, decide_false, eq_self, Nat.reduceLeDiff, Int.reduceEq]
    obtain ⟨p, ep, p0, p1⟩ := prime_at (j := (cnt + 1) % 5) (Int.emod_nonneg _ (by decide)) (Int.emod_lt_of_pos _ (by decide)) (a := 2147483647) (b := 2147483629) (c := 2147483587) (d := 2147483579) (e := 2147483563) (by decide) (by decide) (by decide) (by decide) (by decide) (by decide) (by decide) (by decide) (by decide) (by decide)
    have c0 : 95257 * (cnt + 1) < 95257 * 1000000001 := by omega
    have sq : 0 ≤ 95257 * (cnt + 1) * (cnt + 1) := Int.mul_nonneg (by omega) (by omega)
    have sq2 : 95257 * (cnt + 1) * (cnt + 1) ≤ 95257 * 1000000000 * 1000000000 := Int.mul_le_mul (by omega) (by omega) (by omega) (by decide)
    refine ⟨_, ep, by decide +kernel, big_of (by omega) (by omega), big_of (by omega) (by omega), big_of (by omega) (by omega), ?_, ?_⟩
    · exact Nat.lt_of_lt_of_le (show (mix + 95257 * (cnt + 1) * (cnt + 1) + 3163).natAbs < 1000000000000000000000000000 by omega) (by decide +kernel)
    simp only [dSeq, dNext, dRet, dRetN, dIfS, dNever, dAsg, dSetO, dPar, dPar3, dAug, dDrop, dApp, dSetIx, dVar, dC, PD.d2, PD.d1, dCons, dNil, dStar, dTup, dLstN, dLst, dNew, dAnd, dOr, dNot, dIf, dB, bAnd, bOr, bNot, fAdd_ii, fAdd_tt, fAdd_ll, fSub_ii, fMul_ii, fDiv_ii, fMod_ii, fPow_ii, fNeg_i, fLt_ii, fLe_ii, fGt_ii, fGe_ii, fOpI_ii, dIs, dCall, dCallM, dCallMN, lCall, dIxO, dIsN, dNotN, fIsN_i, fIsN_n, fIsN_t, fNotN_i, fNotN_n, fNotN_t, dSl, dNo, dSome, fSl_l, fSl_t, dChain, dChain3, cLen_l, cLen_t, cInt_i, cInt_b, cAbs_i, cMax2_ii, cMin2_ii, cTuple_l, cTuple_t, cList_l, cList_t, gSet, gNilD, gConsD, gTupD, iSeq, PD.iZip, iR1, iR2, dComp, dFor, dSortedSet, dRg1, dRg2, fIx_l, fIx_t, fRev_l, fRev_t, dMove, dBreak, dCont, startD, startM, List.map_cons, List.map_nil, List.length_cons, List.length_nil, List.cons_append, List.nil_append, List.getElem?_cons_zero, List.getElem?_cons_succ, List.set_cons_zero, List.set_cons_succ, Option.some.injEq, Sl.dt.injEq, Sl.ow.injEq, PyData.int.injEq, PyData.bool.injEq, PyData.tuple.injEq, PyData.list.injEq, PyData.str.injEq, exists_eq_left, exists_eq_left', exists_eq_right, true_and, and_true, List.cons.injEq, Ob.lst.injEq, Nat.sub_zero, Nat.reduceAdd, Nat.reduceSub, List.replicate_succ, List.replicate_zero, if_true, if_false, Bool.false_eq_true, if_false, PyData.isInt, PyData.isBool, PyData.isStr, PyData.isTuple, PyData.isList, fEq_int, fNe_int, fEq_str, fNe_str, fEq_pair, fNe_pair, fNe_str1, fEq_nil, fNe_nil, atI_0, atI_1, atI_2, ixN_0, ixN_1, ixN_2, Bool.not_true, Bool.not_false, ite_true, ite_false, reduceCtorEq, ↓reduceIte, exists_and_left, exists_const, and_assoc, or_false, false_or, Nat.zero_le, Int.reduceAdd, Int.reduceNeg, Int.reduceSub, Int.reduceMul, Int.reduceLE, Int.reduceLT, Int.cast_ofNat_Int, decide_true, decide_false, eq_self, Nat.reduceLeDiff, Int.reduceEq]
    have r0 := Int.emod_nonneg ((mix + 95257 * (cnt + 1) * (cnt + 1) + 3163) ^ Int.toNat 3) (show p ≠ 0 by omega)
    have r1 := Int.emod_lt_of_pos ((mix + 95257 * (cnt + 1) * (cnt + 1) + 3163) ^ Int.toNat 3) p0
    generalize (mix + 95257 * (cnt + 1) * (cnt + 1) + 3163) ^ Int.toNat 3 % p = r at r0 r1
    have t0 := Int.emod_nonneg r (show (13441 : Int) ≠ 0 by decide)
    have t1 := Int.emod_lt_of_pos r (show (0 : Int) < 13441 by decide)
    refine ⟨p0, by decide +kernel, big_of (by omega) (by omega), big_of (by omega) (by omega), big_of (by omega) (by omega), by decide +kernel, u0, ?_⟩
    exact q _ _ ⟨_, Int.emod_nonneg _ (by omega), Int.emod_lt_of_pos _ u0, rfl, _, _, _, rfl, h1, h2, h3, h4, by omega, by omega⟩


def S_law_of : FM := SpM fun m_ ds_ P_ => ∃ (m : Ob) (k : Nat) (xs : List Int), m_ = m ∧ ds_ = [.list (xs.map PyData.int)] ∧ (Pot (k + 1) m ∧ xs ≠ [] ∧ xs.length ≤ 1000) ∧ P_ = fun d m' => ∃ r : Int, r ∈ xs ∧ d = .int r ∧ Pot k m'
theorem up_law_of : UpM S_law_of := up_SpM
theorem use_law_of {m : Ob} {k : Nat} {xs : List Int} {Q : D → Ob → Prop} (pre : Pot (k + 1) m ∧ xs ≠ [] ∧ xs.length ≤ 1000) (h : ∀ d m', (fun d m' => ∃ r : Int, r ∈ xs ∧ d = .int r ∧ Pot k m') d m' → Q d m') : S_law_of m [.list (xs.map PyData.int)] Q := ⟨_, ⟨m, k, xs, rfl, rfl, pre, rfl⟩, h⟩
set_option maxHeartbeats 4000000 in
theorem ok_law_of (T : Tx mg) (F : FunAt K mg "_law_of" s__law_of p__law_of) (h_law_take : OkAt P w K mg base "_law_take" p__law_take 1 (spM K S_law_take)) : OkAt P w K mg base "_law_of" p__law_of 2 (spM K S_law_of) := by
  have nd := sc__law_of.nd
  refine okM F sc__law_of (by rintro m ds Q ⟨P, ⟨m, k, xs, em, rfl, _, _⟩, _⟩; rfl) fun f cdv A outer s H E hr => ⟨_, (ssd_one (sd_ret (ed_ix (fun _ _ => rfl) (ed_var (pv 1)) (ed_fnMA h_law_take up_law_take hr (by rfl) (pv 0) (ad_cons (ed_call (fun h => pe_callB call_len (by rfl) T.len PySem.boot_len h) lk_len up_len (ad_cons (ed_var (pv 1)) ad_nil)) ad_nil))))), fun p m ds Q h => ?_⟩
  obtain ⟨P, ⟨m, k, xs, rfl, rfl, pre, rfl⟩, q⟩ := h
  obtain ⟨hp, hne, hl⟩ := pre
  have := List.length_pos_iff.mpr hne
  simp only [dSeq, dNext, dRet, dRetN, dIfS, dNever, dAsg, dSetO, dPar, dPar3, dAug, dDrop, dApp, dSetIx, dVar, dC, PD.d2, PD.d1, dCons, dNil, dStar, dTup, dLstN, dLst, dNew, dAnd, dOr, dNot, dIf, dB, bAnd, bOr, bNot, fAdd_ii, fAdd_tt, fAdd_ll, fSub_ii, fMul_ii, fDiv_ii, fMod_ii, fPow_ii, fNeg_i, fLt_ii, fLe_ii, fGt_ii, fGe_ii, fOpI_ii, dIs, dCall, dCallM, dCallMN, lCall, dIxO, dIsN, dNotN, fIsN_i, fIsN_n, fIsN_t, fNotN_i, fNotN_n, fNotN_t, dSl, dNo, dSome, fSl_l, fSl_t, dChain, dChain3, cLen_l, cLen_t, cInt_i, cInt_b, cAbs_i, cMax2_ii, cMin2_ii, cTuple_l, cTuple_t, cList_l, cList_t, gSet, gNilD, gConsD, gTupD, iSeq, PD.iZip, iR1, iR2, dComp, dFor, dSortedSet, dRg1, dRg2, fIx_l, fIx_t, fRev_l, fRev_t, dMove, dBreak, dCont, startD, startM, List.map_cons, List.map_nil, List.length_cons, List.length_nil, List.cons_append, List.nil_append, List.getElem?_cons_zero, List.getElem?_cons_succ, List.set_cons_zero, List.set_cons_succ, Option.some.injEq, Sl.dt.injEq, Sl.ow.injEq, PyData.int.injEq, PyData.bool.injEq, PyData.tuple.injEq, PyData.list.injEq, PyData.str.injEq, exists_eq_left, exists_eq_left', exists_eq_right, true_and, and_true, List.cons.injEq, Ob.lst.injEq, Nat.sub_zero, Nat.reduceAdd, Nat.reduceSub, List.replicate_succ, List.replicate_zero, if_true, if_false, Bool.false_eq_true, if_false, PyData.isInt, PyData.isBool, PyData.isStr, PyData.isTuple, PyData.isList, fEq_int, fNe_int, fEq_str, fNe_str, fEq_pair, fNe_pair, fNe_str1, fEq_nil, fNe_nil, atI_0, atI_1, atI_2, ixN_0, ixN_1, ixN_2, Bool.not_true, Bool.not_false, ite_true, ite_false, reduceCtorEq, ↓reduceIte, exists_and_left, exists_const, and_assoc, or_false, false_or, Nat.zero_le, Int.reduceAdd, Int.reduceNeg, Int.reduceSub, Int.reduceMul, Int.reduceLE, Int.reduceLT, Int.cast_ofNat_Int, decide_true, decide_false, eq_self, Nat.reduceLeDiff, Int.reduceEq]
  refine use_law_take ⟨hp, by rw [List.length_map]; omega, by rw [List.length_map]; omega⟩ ?_
  rintro _ m' ⟨r, r0, r1, rfl, hp'⟩
  simp only [dSeq, dNext, dRet, dRetN, dIfS, dNever, dAsg, dSetO, dPar, dPar3, dAug, dDrop, dApp, dSetIx, dVar, dC, PD.d2, PD.d1, dCons, dNil, dStar, dTup, dLstN, dLst, dNew, dAnd, dOr, dNot, dIf, dB, bAnd, bOr, bNot, fAdd_ii, fAdd_tt, fAdd_ll, fSub_ii, fMul_ii, fDiv_ii, fMod_ii, fPow_ii, fNeg_i, fLt_ii, fLe_ii, fGt_ii, fGe_ii, fOpI_ii, dIs, dCall, dCallM, dCallMN, lCall, dIxO, dIsN, dNotN, fIsN_i, fIsN_n, fIsN_t, fNotN_i, fNotN_n, fNotN_t, dSl, dNo, dSome, fSl_l, fSl_t, dChain, dChain3, cLen_l, cLen_t, cInt_i, cInt_b, cAbs_i, cMax2_ii, cMin2_ii, cTuple_l, cTuple_t, cList_l, cList_t, gSet, gNilD, gConsD, gTupD, iSeq, PD.iZip, iR1, iR2, dComp, dFor, dSortedSet, dRg1, dRg2, fIx_l, fIx_t, fRev_l, fRev_t, dMove, dBreak, dCont, startD, startM, List.map_cons, List.map_nil, List.length_cons, List.length_nil, List.cons_append, List.nil_append, List.getElem?_cons_zero, List.getElem?_cons_succ, List.set_cons_zero, List.set_cons_succ, Option.some.injEq, Sl.dt.injEq, Sl.ow.injEq, PyData.int.injEq, PyData.bool.injEq, PyData.tuple.injEq, PyData.list.injEq, PyData.str.injEq, exists_eq_left, exists_eq_left', exists_eq_right, true_and, and_true, List.cons.injEq, Ob.lst.injEq, Nat.sub_zero, Nat.reduceAdd, Nat.reduceSub, List.replicate_succ, List.replicate_zero, if_true, if_false, Bool.false_eq_true, if_false, PyData.isInt, PyData.isBool, PyData.isStr, PyData.isTuple, PyData.isList, fEq_int, fNe_int, fEq_str, fNe_str, fEq_pair, fNe_pair, fNe_str1, fEq_nil, fNe_nil, atI_0, atI_1, atI_2, ixN_0, ixN_1, ixN_2, Bool.not_true, Bool.not_false, ite_true, ite_false, reduceCtorEq, ↓reduceIte, exists_and_left, exists_const, and_assoc, or_false, false_or, Nat.zero_le, Int.reduceAdd, Int.reduceNeg, Int.reduceSub, Int.reduceMul, Int.reduceLE, Int.reduceLT, Int.cast_ofNat_Int, decide_true, decide_false, eq_self, Nat.reduceLeDiff, Int.reduceEq]
  rw [List.length_map] at r1
  obtain ⟨n, rfl⟩ := Int.eq_ofNat_of_zero_le r0
  have lt : n < xs.length := by omega
  refine ⟨.int xs[n], ?_, ?_⟩
  · show atI _ ((n : Nat) : Int) = _
    rw [atI_at, List.getElem?_map, List.getElem?_eq_getElem lt]
    rfl
  · exact q _ _ ⟨_, List.getElem_mem lt, rfl, hp'⟩


def S_law_cells : FC := SpC fun ds_ P_ => ∃ (ns : List Int) (most : Int), ds_ = [.list (ns.map PyData.int), .int most] ∧ (1 ≤ most ∧ most ≤ 100) ∧ P_ = fun d => ∃ n : Nat, 1 ≤ n ∧ n ≤ 100 ∧ d = .list (rangeD 0 1 n)
theorem up_law_cells : UpC S_law_cells := up_SpC
theorem use_law_cells {ns : List Int} {most : Int} {Q : D → Prop} (pre : 1 ≤ most ∧ most ≤ 100) (h : ∀ d, (fun d => ∃ n : Nat, 1 ≤ n ∧ n ≤ 100 ∧ d = .list (rangeD 0 1 n)) d → Q d) : S_law_cells [.list (ns.map PyData.int), .int most] Q := ⟨_, ⟨ns, most, rfl, pre, rfl⟩, h⟩
set_option maxHeartbeats 4000000 in
theorem ok_law_cells (T : Tx mg) (F : FunAt K mg "_law_cells" s__law_cells p__law_cells)  : OkAt P w K mg base "_law_cells" p__law_cells 1 (spP K S_law_cells) := by
  have nd := sc__law_cells.nd
  refine okP F sc__law_cells (by rintro ds Q ⟨P, ⟨ns, most, rfl, _, _⟩, _⟩; rfl) fun f cdv A outer s H E hr => ⟨_, (ssd_one (sd_ret (ed_new (ld_range1 rfl (by rfl) T.list (by rfl) T.range (ed_call (fun h => pe_callB (call_max2 rfl) (by rfl) T.max PyProof.Rows.boot_max h) lk_max2 up_max2 (ad_cons ed_int (ad_cons (ed_call (fun h => pe_callB (call_min2 rfl) (by rfl) T.min PyProof.Rows.boot_min h) lk_min2 up_min2 (ad_cons (ed_var (pv 1)) (ad_cons (ed_call (fun h => pe_callB call_len (by rfl) T.len PySem.boot_len h) lk_len up_len (ad_cons (ed_var (pv 0)) ad_nil)) ad_nil))) ad_nil))))))), fun ds Q h => ?_⟩
  obtain ⟨P, ⟨ns, most, rfl, pre, rfl⟩, q⟩ := h
  simp only [dSeq, dNext, dRet, dRetN, dIfS, dNever, dAsg, dSetO, dPar, dPar3, dAug, dDrop, dApp, dSetIx, dVar, dC, PD.d2, PD.d1, dCons, dNil, dStar, dTup, dLstN, dLst, dNew, dAnd, dOr, dNot, dIf, dB, bAnd, bOr, bNot, fAdd_ii, fAdd_tt, fAdd_ll, fSub_ii, fMul_ii, fDiv_ii, fMod_ii, fPow_ii, fNeg_i, fLt_ii, fLe_ii, fGt_ii, fGe_ii, fOpI_ii, dIs, dCall, dCallM, dCallMN, lCall, dIxO, dIsN, dNotN, fIsN_i, fIsN_n, fIsN_t, fNotN_i, fNotN_n, fNotN_t, dSl, dNo, dSome, fSl_l, fSl_t, dChain, dChain3, cLen_l, cLen_t, cInt_i, cInt_b, cAbs_i, cMax2_ii, cMin2_ii, cTuple_l, cTuple_t, cList_l, cList_t, gSet, gNilD, gConsD, gTupD, iSeq, PD.iZip, iR1, iR2, dComp, dFor, dSortedSet, dRg1, dRg2, fIx_l, fIx_t, fRev_l, fRev_t, dMove, dBreak, dCont, startD, startM, List.map_cons, List.map_nil, List.length_cons, List.length_nil, List.cons_append, List.nil_append, List.getElem?_cons_zero, List.getElem?_cons_succ, List.set_cons_zero, List.set_cons_succ, Option.some.injEq, Sl.dt.injEq, Sl.ow.injEq, PyData.int.injEq, PyData.bool.injEq, PyData.tuple.injEq, PyData.list.injEq, PyData.str.injEq, exists_eq_left, exists_eq_left', exists_eq_right, true_and, and_true, List.cons.injEq, Ob.lst.injEq, Nat.sub_zero, Nat.reduceAdd, Nat.reduceSub, List.replicate_succ, List.replicate_zero, if_true, if_false, Bool.false_eq_true, if_false, PyData.isInt, PyData.isBool, PyData.isStr, PyData.isTuple, PyData.isList, fEq_int, fNe_int, fEq_str, fNe_str, fEq_pair, fNe_pair, fNe_str1, fEq_nil, fNe_nil, atI_0, atI_1, atI_2, ixN_0, ixN_1, ixN_2, Bool.not_true, Bool.not_false, ite_true, ite_false, reduceCtorEq, ↓reduceIte, exists_and_left, exists_const, and_assoc, or_false, false_or, Nat.zero_le, Int.reduceAdd, Int.reduceNeg, Int.reduceSub, Int.reduceMul, Int.reduceLE, Int.reduceLT, Int.cast_ofNat_Int, decide_true, decide_false, eq_self, Nat.reduceLeDiff, Int.reduceEq, List.length_map]
  refine ⟨RgOk.of_le (by decide) (by omega) (by decide) (by omega), ?_⟩
  exact q _ ⟨(max 1 (min most (ns.length : Int))).toNat, by omega, by omega, rfl⟩


def S_law_pot : FL := SpL fun ds_ P_ => ∃ (ns : List Int) (place : Int), ds_ = [.list (ns.map PyData.int), .int place] ∧ (0 ≤ place ∧ place ≤ 100) ∧ P_ = fun d => Pot 1000000000 (.lst d)
theorem up_law_pot : UpL S_law_pot := up_SpL
theorem use_law_pot {ns : List Int} {place : Int} {Q : List D → Prop} (pre : 0 ≤ place ∧ place ≤ 100) (h : ∀ d, (fun d => Pot 1000000000 (.lst d)) d → Q d) : S_law_pot [.list (ns.map PyData.int), .int place] Q := ⟨_, ⟨ns, place, rfl, pre, rfl⟩, h⟩
set_option maxHeartbeats 4000000 in
theorem ok_law_pot (T : Tx mg) (F : FunAt K mg "_law_pot" s__law_pot p__law_pot)  : OkAt P w K mg base "_law_pot" p__law_pot 1 (spL K S_law_pot) := by
  have nd := sc__law_pot.nd
  refine okL F sc__law_pot (by rintro ds Q ⟨P, ⟨ns, place, rfl, _, _⟩, _⟩; rfl) fun f cdv A outer s H E hr => ⟨_, (lsd_cons (sd_set (i := 2) nd rfl (by first | exact Or.inl rfl | exact Or.inr rfl) (ed_if (td_lt (hU hr) (ed_var (pv 1)) (ed_call (fun h => pe_callB call_len (by rfl) T.len PySem.boot_len h) lk_len up_len (ad_cons (ed_var (pv 0)) ad_nil))) (ed_ix (fun _ _ => rfl) (ed_var (pv 0)) (ed_var (pv 1))) (ed_add (ed_add (ed_mod (ed_call (fun h => pe_callTy call_int1 (by rfl) T.int PyProof.Rows.boot_int h) lk_int up_int (ad_cons (ed_call (fun h => pe_callB (cr_sum rfl) (by rfl) T.sum PyProof.Rows.boot_sum h) lk_sum up_sum (ad_cons (ed_slice (ed_var (pv 0)) od_no (od_some ed_int)) ad_nil)) ad_nil)) ed_int) (ed_mul ed_int (ed_var (pv 1)))) ed_int))) (lsd_cons (sd_set (i := 3) nd rfl (by first | exact Or.inl rfl | exact Or.inr rfl) (ed_mul (ed_mod (ed_call (fun h => pe_callTy call_int1 (by rfl) T.int PyProof.Rows.boot_int h) lk_int up_int (ad_cons (ed_call (fun h => pe_callB call_abs (by rfl) T.abs PyProof.Rows.boot_abs h) lk_abs up_abs (ad_cons (ed_var (pv 2)) ad_nil)) ad_nil)) (ed_pow (ed_pow ed_int ed_int) ed_int)) (ed_call (fun h => pe_callTy call_int1 (by rfl) T.int PyProof.Rows.boot_int h) lk_int up_int (ad_cons (ed_ge (hU hr) (ed_call (fun h => pe_callB call_abs (by rfl) T.abs PyProof.Rows.boot_abs h) lk_abs up_abs (ad_cons (ed_var (pv 2)) ad_nil)) (ed_pow ed_int ed_int)) ad_nil)))) (lsd_cons (sd_set (i := 4) nd rfl (by first | exact Or.inl rfl | exact Or.inr rfl) (ed_mod (ed_call (fun h => pe_callTy call_int1 (by rfl) T.int PyProof.Rows.boot_int h) lk_int up_int (ad_cons (ed_var (pv 2)) ad_nil)) ed_int)) (lsd_ret (ld_lst (ad_cons (ed_var (pv 3)) (ad_cons (ed_mod (ed_call (fun h => pe_callTy call_int1 (by rfl) T.int PyProof.Rows.boot_int h) lk_int up_int (ad_cons (ed_add (ed_add (ed_mul (ed_var (pv 4)) ed_int) (ed_mul (ed_mul ed_int (ed_var (pv 1))) (ed_var (pv 1)))) ed_int) ad_nil)) ed_int) (ad_cons ed_int ad_nil)))))))), fun ds Q h => ?_⟩
  obtain ⟨P, ⟨ns, place, rfl, pre, rfl⟩, q⟩ := h
  obtain ⟨p0, p1⟩ := pre
  have sq : 0 ≤ 10853 * place * place := Int.mul_nonneg (by omega) (by omega)
  have sq2 : 10853 * place * place ≤ 10853 * 100 * 100 := Int.mul_le_mul (by omega) (by omega) (by omega) (by decide)
  have fin : ∀ cell : Int, Q [.int (((cell.natAbs : Nat) : Int) % (10 ^ Int.toNat 60) ^ Int.toNat 5 * (if decide ((10 : Int) ^ Int.toNat 18 ≤ ((cell.natAbs : Nat) : Int)) = true then 1 else 0)), .int ((cell % 2305843009213693951 * 72161 + 10853 * place * place + 2843) % 2305843009213693921), .int 0] := fun cell => by
    have b0 := Int.emod_nonneg ((cell.natAbs : Nat) : Int) (show ((10 : Int) ^ 60) ^ 5 ≠ 0 by decide +kernel)
    have b1 := Int.emod_lt_of_pos ((cell.natAbs : Nat) : Int) (show (0 : Int) < (10 ^ 60) ^ 5 by decide +kernel)
    refine q _ ⟨_, _, _, rfl, ?_, ?_, Int.emod_nonneg _ (by decide), Int.lt_of_lt_of_le (Int.emod_lt_of_pos _ (by decide)) (by decide), by decide, by decide⟩
    · split
      · rw [Int.mul_one]
        exact b0
      · rw [Int.mul_zero]
        exact Int.le_refl _
    · split
      · rw [Int.mul_one]
        exact b1
      · rw [Int.mul_zero]
        decide +kernel
  have small : ∀ cell : Int, ((cell.natAbs : Nat) : Int) % (10 ^ Int.toNat 60) ^ Int.toNat 5 < (10 ^ 60) ^ 5 ∧ 0 ≤ ((cell.natAbs : Nat) : Int) % (10 ^ Int.toNat 60) ^ Int.toNat 5 := fun cell =>
    ⟨Int.emod_lt_of_pos _ (by decide +kernel), Int.emod_nonneg _ (by decide +kernel)⟩
  have side : ∀ cell : Int, (cell % 2305843009213693951).natAbs < 2 ^ 1500 := fun cell => big_of (by omega) (by omega)
  simp only [dSeq, dNext, dRet, dRetN, dIfS, dNever, dAsg, dSetO, dPar, dPar3, dAug, dDrop, dApp, dSetIx, dVar, dC, PD.d2, PD.d1, dCons, dNil, dStar, dTup, dLstN, dLst, dNew, dAnd, dOr, dNot, dIf, dB, bAnd, bOr, bNot, fAdd_ii, fAdd_tt, fAdd_ll, fSub_ii, fMul_ii, fDiv_ii, fMod_ii, fPow_ii, fNeg_i, fLt_ii, fLe_ii, fGt_ii, fGe_ii, fOpI_ii, dIs, dCall, dCallM, dCallMN, lCall, dIxO, dIsN, dNotN, fIsN_i, fIsN_n, fIsN_t, fNotN_i, fNotN_n, fNotN_t, dSl, dNo, dSome, fSl_l, fSl_t, dChain, dChain3, cLen_l, cLen_t, cInt_i, cInt_b, cAbs_i, cMax2_ii, cMin2_ii, cTuple_l, cTuple_t, cList_l, cList_t, gSet, gNilD, gConsD, gTupD, iSeq, PD.iZip, iR1, iR2, dComp, dFor, dSortedSet, dRg1, dRg2, fIx_l, fIx_t, fRev_l, fRev_t, dMove, dBreak, dCont, startD, startM, List.map_cons, List.map_nil, List.length_cons, List.length_nil, List.cons_append, List.nil_append, List.getElem?_cons_zero, List.getElem?_cons_succ, List.set_cons_zero, List.set_cons_succ, Option.some.injEq, Sl.dt.injEq, Sl.ow.injEq, PyData.int.injEq, PyData.bool.injEq, PyData.tuple.injEq, PyData.list.injEq, PyData.str.injEq, exists_eq_left, exists_eq_left', exists_eq_right, true_and, and_true, List.cons.injEq, Ob.lst.injEq, Nat.sub_zero, Nat.reduceAdd, Nat.reduceSub, List.replicate_succ, List.replicate_zero, if_true, if_false, Bool.false_eq_true, if_false, PyData.isInt, PyData.isBool, PyData.isStr, PyData.isTuple, PyData.isList, fEq_int, fNe_int, fEq_str, fNe_str, fEq_pair, fNe_pair, fNe_str1, fEq_nil, fNe_nil, atI_0, atI_1, atI_2, ixN_0, ixN_1, ixN_2, Bool.not_true, Bool.not_false, ite_true, ite_false, reduceCtorEq, ↓reduceIte, exists_and_left, exists_const, and_assoc, or_false, false_or, Nat.zero_le, Int.reduceAdd, Int.reduceNeg, Int.reduceSub, Int.reduceMul, Int.reduceLE, Int.reduceLT, Int.cast_ofNat_Int, decide_true, decide_false, eq_self, Nat.reduceLeDiff, Int.reduceEq, List.length_map]
  by_cases hp : place < (ns.length : Int)
  · rw [decide_eq_true hp]
    simp only [dSeq, dNext, dRet, dRetN, dIfS, dNever, dAsg, dSetO, dPar, dPar3, dAug, dDrop, dApp, dSetIx, dVar, dC, PD.d2, PD.d1, dCons, dNil, dStar, dTup, dLstN, dLst, dNew, dAnd, dOr, dNot, dIf, dB, bAnd, bOr, bNot, fAdd_ii, fAdd_tt, fAdd_ll, fSub_ii, fMul_ii, fDiv_ii, fMod_ii, fPow_ii, fNeg_i, fLt_ii, fLe_ii, fGt_ii, fGe_ii, fOpI_ii, dIs, dCall, dCallM, dCallMN, lCall, dIxO, dIsN, dNotN, fIsN_i, fIsN_n, fIsN_t, fNotN_i, fNotN_n, fNotN_t, dSl, dNo, dSome, fSl_l, fSl_t, dChain, dChain3, cLen_l, cLen_t, cInt_i, cInt_b, cAbs_i, cMax2_ii, cMin2_ii, cTuple_l, cTuple_t, cList_l, cList_t, gSet, gNilD, gConsD, gTupD, iSeq, PD.iZip, iR1, iR2, dComp, dFor, dSortedSet, dRg1, dRg2, fIx_l, fIx_t, fRev_l, fRev_t, dMove, dBreak, dCont, startD, startM, List.map_cons, List.map_nil, List.length_cons, List.length_nil, List.cons_append, List.nil_append, List.getElem?_cons_zero, List.getElem?_cons_succ, List.set_cons_zero, List.set_cons_succ, Option.some.injEq, Sl.dt.injEq, Sl.ow.injEq, PyData.int.injEq, PyData.bool.injEq, PyData.tuple.injEq, PyData.list.injEq, PyData.str.injEq, exists_eq_left, exists_eq_left', exists_eq_right, true_and, and_true, List.cons.injEq, Ob.lst.injEq, Nat.sub_zero, Nat.reduceAdd, Nat.reduceSub, List.replicate_succ, List.replicate_zero, if_true, if_false, Bool.false_eq_true, if_false, PyData.isInt, PyData.isBool, PyData.isStr, PyData.isTuple, PyData.isList, fEq_int, fNe_int, fEq_str, fNe_str, fEq_pair, fNe_pair, fNe_str1, fEq_nil, fNe_nil, atI_0, atI_1, atI_2, ixN_0, ixN_1, ixN_2, Bool.not_true, Bool.not_false, ite_true, ite_false, reduceCtorEq, ↓reduceIte, exists_and_left, exists_const, and_assoc, or_false, false_or, Nat.zero_le, Int.reduceAdd, Int.reduceNeg, Int.reduceSub, Int.reduceMul, Int.reduceLE, Int.reduceLT, Int.cast_ofNat_Int, decide_true, decide_false, eq_self, Nat.reduceLeDiff, Int.reduceEq]
    obtain ⟨n, rfl⟩ := Int.eq_ofNat_of_zero_le p0
    refine ⟨.int ns[n], ?_, ?_⟩
    · show atI _ ((n : Nat) : Int) = _
      rw [atI_at, List.getElem?_map, List.getElem?_eq_getElem (by omega)]
      rfl
    simp only [dSeq, dNext, dRet, dRetN, dIfS, dNever, dAsg, dSetO, dPar, dPar3, dAug, dDrop, dApp, dSetIx, dVar, dC, PD.d2, PD.d1, dCons, dNil, dStar, dTup, dLstN, dLst, dNew, dAnd, dOr, dNot, dIf, dB, bAnd, bOr, bNot, fAdd_ii, fAdd_tt, fAdd_ll, fSub_ii, fMul_ii, fDiv_ii, fMod_ii, fPow_ii, fNeg_i, fLt_ii, fLe_ii, fGt_ii, fGe_ii, fOpI_ii, dIs, dCall, dCallM, dCallMN, lCall, dIxO, dIsN, dNotN, fIsN_i, fIsN_n, fIsN_t, fNotN_i, fNotN_n, fNotN_t, dSl, dNo, dSome, fSl_l, fSl_t, dChain, dChain3, cLen_l, cLen_t, cInt_i, cInt_b, cAbs_i, cMax2_ii, cMin2_ii, cTuple_l, cTuple_t, cList_l, cList_t, gSet, gNilD, gConsD, gTupD, iSeq, PD.iZip, iR1, iR2, dComp, dFor, dSortedSet, dRg1, dRg2, fIx_l, fIx_t, fRev_l, fRev_t, dMove, dBreak, dCont, startD, startM, List.map_cons, List.map_nil, List.length_cons, List.length_nil, List.cons_append, List.nil_append, List.getElem?_cons_zero, List.getElem?_cons_succ, List.set_cons_zero, List.set_cons_succ, Option.some.injEq, Sl.dt.injEq, Sl.ow.injEq, PyData.int.injEq, PyData.bool.injEq, PyData.tuple.injEq, PyData.list.injEq, PyData.str.injEq, exists_eq_left, exists_eq_left', exists_eq_right, true_and, and_true, List.cons.injEq, Ob.lst.injEq, Nat.sub_zero, Nat.reduceAdd, Nat.reduceSub, List.replicate_succ, List.replicate_zero, if_true, if_false, Bool.false_eq_true, if_false, PyData.isInt, PyData.isBool, PyData.isStr, PyData.isTuple, PyData.isList, fEq_int, fNe_int, fEq_str, fNe_str, fEq_pair, fNe_pair, fNe_str1, fEq_nil, fNe_nil, atI_0, atI_1, atI_2, ixN_0, ixN_1, ixN_2, Bool.not_true, Bool.not_false, ite_true, ite_false, reduceCtorEq, ↓reduceIte, exists_and_left, exists_const, and_assoc, or_false, false_or, Nat.zero_le, Int.reduceAdd, Int.reduceNeg, Int.reduceSub, Int.reduceMul, Int.reduceLE, Int.reduceLT, Int.cast_ofNat_Int, decide_true, decide_false, eq_self, Nat.reduceLeDiff, Int.reduceEq]
    exact ⟨by decide +kernel, by decide +kernel, by decide +kernel, by decide +kernel, big_own (small _).2 (small _).1, by split <;> decide +kernel, side _, by decide +kernel, by decide +kernel, big_of (by omega) (by omega), big_of (by omega) (by omega), big_of (by omega) (by omega), fin _⟩
  · rw [decide_eq_false hp]
    simp only [dSeq, dNext, dRet, dRetN, dIfS, dNever, dAsg, dSetO, dPar, dPar3, dAug, dDrop, dApp, dSetIx, dVar, dC, PD.d2, PD.d1, dCons, dNil, dStar, dTup, dLstN, dLst, dNew, dAnd, dOr, dNot, dIf, dB, bAnd, bOr, bNot, fAdd_ii, fAdd_tt, fAdd_ll, fSub_ii, fMul_ii, fDiv_ii, fMod_ii, fPow_ii, fNeg_i, fLt_ii, fLe_ii, fGt_ii, fGe_ii, fOpI_ii, dIs, dCall, dCallM, dCallMN, lCall, dIxO, dIsN, dNotN, fIsN_i, fIsN_n, fIsN_t, fNotN_i, fNotN_n, fNotN_t, dSl, dNo, dSome, fSl_l, fSl_t, dChain, dChain3, cLen_l, cLen_t, cInt_i, cInt_b, cAbs_i, cMax2_ii, cMin2_ii, cTuple_l, cTuple_t, cList_l, cList_t, gSet, gNilD, gConsD, gTupD, iSeq, PD.iZip, iR1, iR2, dComp, dFor, dSortedSet, dRg1, dRg2, fIx_l, fIx_t, fRev_l, fRev_t, dMove, dBreak, dCont, startD, startM, List.map_cons, List.map_nil, List.length_cons, List.length_nil, List.cons_append, List.nil_append, List.getElem?_cons_zero, List.getElem?_cons_succ, List.set_cons_zero, List.set_cons_succ, Option.some.injEq, Sl.dt.injEq, Sl.ow.injEq, PyData.int.injEq, PyData.bool.injEq, PyData.tuple.injEq, PyData.list.injEq, PyData.str.injEq, exists_eq_left, exists_eq_left', exists_eq_right, true_and, and_true, List.cons.injEq, Ob.lst.injEq, Nat.sub_zero, Nat.reduceAdd, Nat.reduceSub, List.replicate_succ, List.replicate_zero, if_true, if_false, Bool.false_eq_true, if_false, PyData.isInt, PyData.isBool, PyData.isStr, PyData.isTuple, PyData.isList, fEq_int, fNe_int, fEq_str, fNe_str, fEq_pair, fNe_pair, fNe_str1, fEq_nil, fNe_nil, atI_0, atI_1, atI_2, ixN_0, ixN_1, ixN_2, Bool.not_true, Bool.not_false, ite_true, ite_false, reduceCtorEq, ↓reduceIte, exists_and_left, exists_const, and_assoc, or_false, false_or, Nat.zero_le, Int.reduceAdd, Int.reduceNeg, Int.reduceSub, Int.reduceMul, Int.reduceLE, Int.reduceLT, Int.cast_ofNat_Int, decide_true, decide_false, eq_self, Nat.reduceLeDiff, Int.reduceEq]
    have e : PD.cutD (ns.map PyData.int) none (some 1) = (ns.take 1).map PyData.int := by
      rw [show (some (1 : Int)) = some ((1 : Nat) : Int) from rfl, cutD_take, List.map_take]
    rw [e]
    refine cSum_of rfl ?_
    simp only [dSeq, dNext, dRet, dRetN, dIfS, dNever, dAsg, dSetO, dPar, dPar3, dAug, dDrop, dApp, dSetIx, dVar, dC, PD.d2, PD.d1, dCons, dNil, dStar, dTup, dLstN, dLst, dNew, dAnd, dOr, dNot, dIf, dB, bAnd, bOr, bNot, fAdd_ii, fAdd_tt, fAdd_ll, fSub_ii, fMul_ii, fDiv_ii, fMod_ii, fPow_ii, fNeg_i, fLt_ii, fLe_ii, fGt_ii, fGe_ii, fOpI_ii, dIs, dCall, dCallM, dCallMN, lCall, dIxO, dIsN, dNotN, fIsN_i, fIsN_n, fIsN_t, fNotN_i, fNotN_n, fNotN_t, dSl, dNo, dSome, fSl_l, fSl_t, dChain, dChain3, cLen_l, cLen_t, cInt_i, cInt_b, cAbs_i, cMax2_ii, cMin2_ii, cTuple_l, cTuple_t, cList_l, cList_t, gSet, gNilD, gConsD, gTupD, iSeq, PD.iZip, iR1, iR2, dComp, dFor, dSortedSet, dRg1, dRg2, fIx_l, fIx_t, fRev_l, fRev_t, dMove, dBreak, dCont, startD, startM, List.map_cons, List.map_nil, List.length_cons, List.length_nil, List.cons_append, List.nil_append, List.getElem?_cons_zero, List.getElem?_cons_succ, List.set_cons_zero, List.set_cons_succ, Option.some.injEq, Sl.dt.injEq, Sl.ow.injEq, PyData.int.injEq, PyData.bool.injEq, PyData.tuple.injEq, PyData.list.injEq, PyData.str.injEq, exists_eq_left, exists_eq_left', exists_eq_right, true_and, and_true, List.cons.injEq, Ob.lst.injEq, Nat.sub_zero, Nat.reduceAdd, Nat.reduceSub, List.replicate_succ, List.replicate_zero, if_true, if_false, Bool.false_eq_true, if_false, PyData.isInt, PyData.isBool, PyData.isStr, PyData.isTuple, PyData.isList, fEq_int, fNe_int, fEq_str, fNe_str, fEq_pair, fNe_pair, fNe_str1, fEq_nil, fNe_nil, atI_0, atI_1, atI_2, ixN_0, ixN_1, ixN_2, Bool.not_true, Bool.not_false, ite_true, ite_false, reduceCtorEq, ↓reduceIte, exists_and_left, exists_const, and_assoc, or_false, false_or, Nat.zero_le, Int.reduceAdd, Int.reduceNeg, Int.reduceSub, Int.reduceMul, Int.reduceLE, Int.reduceLT, Int.cast_ofNat_Int, decide_true, decide_false, eq_self, Nat.reduceLeDiff, Int.reduceEq]
    exact ⟨by decide +kernel, big_of (by omega) (by omega), by decide +kernel, by decide +kernel, by decide +kernel, by decide +kernel, big_own (small _).2 (small _).1, by split <;> decide +kernel, side _, by decide +kernel, by decide +kernel, big_of (by omega) (by omega), big_of (by omega) (by omega), big_of (by omega) (by omega), fin _⟩


def S_law_drawn : FM := SpM fun m_ ds_ P_ => ∃ (m : Ob) (k : Nat), m_ = m ∧ ds_ = [] ∧ (Pot (k + 200) m) ∧ P_ = fun d m' => ∃ fs : List Fl, d = encFs fs ∧ fs.length ≤ 30 ∧ (∀ f ∈ fs, DrOk f) ∧ Pot k m'
theorem up_law_drawn : UpM S_law_drawn := up_SpM
theorem use_law_drawn {m : Ob} {k : Nat} {Q : D → Ob → Prop} (pre : Pot (k + 200) m) (h : ∀ d m', (fun d m' => ∃ fs : List Fl, d = encFs fs ∧ fs.length ≤ 30 ∧ (∀ f ∈ fs, DrOk f) ∧ Pot k m') d m' → Q d m') : S_law_drawn m [] Q := ⟨_, ⟨m, k, rfl, rfl, pre, rfl⟩, h⟩
set_option maxHeartbeats 4000000 in
theorem ok_law_drawn (T : Tx mg) (F : FunAt K mg "_law_drawn" s__law_drawn p__law_drawn) (h_law_take : OkAt P w K mg base "_law_take" p__law_take 1 (spM K S_law_take)) (h_law_of : OkAt P w K mg base "_law_of" p__law_of 2 (spM K S_law_of)) : OkAt P w K mg base "_law_drawn" p__law_drawn 3 (spM K S_law_drawn) := by
  have nd := sc__law_drawn.nd
  refine okM F sc__law_drawn (by rintro m ds Q ⟨P, ⟨m, k, em, rfl, _, _⟩, _⟩; rfl) fun f cdv A outer s H E hr => ⟨_, (ssd_cons (sd_setO (i := 1) nd rfl (by first | exact Or.inl rfl | exact Or.inr rfl) (ld_lst ad_nil)) (ssd_cons (sd_for PassesOwn.never rfl (id_r1 (by rfl) T.range (ad_cons (ed_fnMA h_law_take up_law_take (hr.mono (by decide)) (by rfl) (pv 0) (ad_cons (ed_fnMA h_law_of up_law_of hr (by rfl) (pv 0) (ad_cons (ed_new (ld_lst (ad_cons ed_int (ad_cons ed_int ad_nil)))) ad_nil)) ad_nil)) ad_nil)) (gd_name (pg_name (i := 2) nd rfl (by first | exact Or.inl rfl | exact Or.inr rfl))) (ssd_cons (sd_set (i := 3) nd rfl (by first | exact Or.inl rfl | exact Or.inr rfl) (ed_call (fun h => pe_callTy call_int1 (by rfl) T.int PyProof.Rows.boot_int h) lk_int up_int (ad_cons (ed_fnMA h_law_take up_law_take (hr.mono (by decide)) (by rfl) (pv 0) (ad_cons ed_int ad_nil)) ad_nil))) (ssd_cons (sd_set (i := 4) nd rfl (by first | exact Or.inl rfl | exact Or.inr rfl) (ed_mul (ed_call (fun h => pe_callTy call_int1 (by rfl) T.int PyProof.Rows.boot_int h) lk_int up_int (ad_cons (ed_add ed_int (ed_fnMA h_law_take up_law_take (hr.mono (by decide)) (by rfl) (pv 0) (ad_cons (ed_fnMA h_law_of up_law_of hr (by rfl) (pv 0) (ad_cons (ed_new (ld_lst (ad_cons ed_int (ad_cons (ed_pow ed_int ed_int) ad_nil)))) ad_nil)) ad_nil))) ad_nil)) (ed_fnMA h_law_of up_law_of hr (by rfl) (pv 0) (ad_cons (ed_new (ld_lst (ad_cons ed_int (ad_cons (ed_neg ed_int) ad_nil)))) ad_nil)))) (ssd_one (sd_app (pv 1) (ed_tup (ad_cons (ed_var (pv 3)) (ad_cons (ed_add (ed_var (pv 3)) (ed_call (fun h => pe_callTy call_int1 (by rfl) T.int PyProof.Rows.boot_int h) lk_int up_int (ad_cons (ed_fnMA h_law_take up_law_take (hr.mono (by decide)) (by rfl) (pv 0) (ad_cons ed_int ad_nil)) ad_nil))) (ad_cons (ed_var (pv 4)) ad_nil)))) (fun h => pe_bm PySem.F.plainAttrs_list PySem.F.slot_list_append PySem.F.type_list_append mt_append (pv 1) (pa_cons h pa_nil))))))) (ssd_one (sd_ret (ed_call (fun h => pe_callTy call_tuple_of (by rfl) T.tuple PyProof.Rows.boot_tuple h) lk_tuple up_tuple (ad_cons (ed_move (pv 1)) ad_nil)))))), fun p m ds Q h => ?_⟩
  obtain ⟨P, ⟨m, k, rfl, rfl, pre, rfl⟩, q⟩ := h
  simp only [dSeq, dNext, dRet, dRetN, dIfS, dNever, dAsg, dSetO, dPar, dPar3, dAug, dDrop, dApp, dSetIx, dVar, dC, PD.d2, PD.d1, dCons, dNil, dStar, dTup, dLstN, dLst, dNew, dAnd, dOr, dNot, dIf, dB, bAnd, bOr, bNot, fAdd_ii, fAdd_tt, fAdd_ll, fSub_ii, fMul_ii, fDiv_ii, fMod_ii, fPow_ii, fNeg_i, fLt_ii, fLe_ii, fGt_ii, fGe_ii, fOpI_ii, dIs, dCall, dCallM, dCallMN, lCall, dIxO, dIsN, dNotN, fIsN_i, fIsN_n, fIsN_t, fNotN_i, fNotN_n, fNotN_t, dSl, dNo, dSome, fSl_l, fSl_t, dChain, dChain3, cLen_l, cLen_t, cInt_i, cInt_b, cAbs_i, cMax2_ii, cMin2_ii, cTuple_l, cTuple_t, cList_l, cList_t, gSet, gNilD, gConsD, gTupD, iSeq, PD.iZip, iR1, iR2, dComp, dFor, dSortedSet, dRg1, dRg2, fIx_l, fIx_t, fRev_l, fRev_t, dMove, dBreak, dCont, startD, startM, List.map_cons, List.map_nil, List.length_cons, List.length_nil, List.cons_append, List.nil_append, List.getElem?_cons_zero, List.getElem?_cons_succ, List.set_cons_zero, List.set_cons_succ, Option.some.injEq, Sl.dt.injEq, Sl.ow.injEq, PyData.int.injEq, PyData.bool.injEq, PyData.tuple.injEq, PyData.list.injEq, PyData.str.injEq, exists_eq_left, exists_eq_left', exists_eq_right, true_and, and_true, List.cons.injEq, Ob.lst.injEq, Nat.sub_zero, Nat.reduceAdd, Nat.reduceSub, List.replicate_succ, List.replicate_zero, if_true, if_false, Bool.false_eq_true, if_false, PyData.isInt, PyData.isBool, PyData.isStr, PyData.isTuple, PyData.isList, fEq_int, fNe_int, fEq_str, fNe_str, fEq_pair, fNe_pair, fNe_str1, fEq_nil, fNe_nil, atI_0, atI_1, atI_2, ixN_0, ixN_1, ixN_2, Bool.not_true, Bool.not_false, ite_true, ite_false, reduceCtorEq, ↓reduceIte, exists_and_left, exists_const, and_assoc, or_false, false_or, Nat.zero_le, Int.reduceAdd, Int.reduceNeg, Int.reduceSub, Int.reduceMul, Int.reduceLE, Int.reduceLT, Int.cast_ofNat_Int, decide_true, decide_false, eq_self, Nat.reduceLeDiff, Int.reduceEq]
  intro p1
  refine use_law_of (k := k + 199) (xs := [7, 31]) ⟨pre, by simp, by decide⟩ ?_
  rintro _ m1 ⟨r, hr, rfl, hp1⟩
  have hr' : r = 7 ∨ r = 31 := by simpa using hr
  refine use_law_take (k := k + 198) ⟨hp1, by omega, by omega⟩ ?_
  rintro _ m2 ⟨n, n0, n1, rfl, hp2⟩
  (try simp only [dSeq, dNext, dRet, dRetN, dIfS, dNever, dAsg, dSetO, dPar, dPar3, dAug, dDrop, dApp, dSetIx, dVar, dC, PD.d2, PD.d1, dCons, dNil, dStar, dTup, dLstN, dLst, dNew, dAnd, dOr, dNot, dIf, dB, bAnd, bOr, bNot, fAdd_ii, fAdd_tt, fAdd_ll, fSub_ii, fMul_ii, fDiv_ii, fMod_ii, fPow_ii, fNeg_i, fLt_ii, fLe_ii, fGt_ii, fGe_ii, fOpI_ii, dIs, dCall, dCallM, dCallMN, lCall, dIxO, dIsN, dNotN, fIsN_i, fIsN_n, fIsN_t, fNotN_i, fNotN_n, fNotN_t, dSl, dNo, dSome, fSl_l, fSl_t, dChain, dChain3, cLen_l, cLen_t, cInt_i, cInt_b, cAbs_i, cMax2_ii, cMin2_ii, cTuple_l, cTuple_t, cList_l, cList_t, gSet, gNilD, gConsD, gTupD, iSeq, PD.iZip, iR1, iR2, dComp, dFor, dSortedSet, dRg1, dRg2, fIx_l, fIx_t, fRev_l, fRev_t, dMove, dBreak, dCont, startD, startM, List.map_cons, List.map_nil, List.length_cons, List.length_nil, List.cons_append, List.nil_append, List.getElem?_cons_zero, List.getElem?_cons_succ, List.set_cons_zero, List.set_cons_succ, Option.some.injEq, Sl.dt.injEq, Sl.ow.injEq, PyData.int.injEq, PyData.bool.injEq, PyData.tuple.injEq, PyData.list.injEq, PyData.str.injEq, exists_eq_left, exists_eq_left', exists_eq_right, true_and, and_true, List.cons.injEq, Ob.lst.injEq, Nat.sub_zero, Nat.reduceAdd, Nat.reduceSub, List.replicate_succ, List.replicate_zero, if_true, if_false, Bool.false_eq_true, if_false, PyData.isInt, PyData.isBool, PyData.isStr, PyData.isTuple, PyData.isList, fEq_int, fNe_int, fEq_str, fNe_str, fEq_pair, fNe_pair, fNe_str1, fEq_nil, fNe_nil, atI_0, atI_1, atI_2, ixN_0, ixN_1, ixN_2, Bool.not_true, Bool.not_false, ite_true, ite_false, reduceCtorEq, ↓reduceIte, exists_and_left, exists_const, and_assoc, or_false, false_or, Nat.zero_le, Int.reduceAdd, Int.reduceNeg, Int.reduceSub, Int.reduceMul, Int.reduceLE, Int.reduceLT, Int.cast_ofNat_Int, decide_true, decide_false, eq_self, Nat.reduceLeDiff, Int.reduceEq])
  refine ⟨by omega, by omega, ?_⟩
  rw [rangeD_map]
  have hlen : ((List.range n.toNat).map fun (i : Nat) => (0 : Int) + (i : Int) * 1).length = n.toNat := by simp
  generalize ((List.range n.toNat).map fun (i : Nat) => (0 : Int) + (i : Int) * 1) = L at hlen
  refine for_all PyData.int (fun rest e => ∃ (m' : Ob) (done : List Fl) (s2 s3 s4 : Sl), e = [.ow false p m', .ow true p1 (.lst (done.map encF)), s2, s3, s4] ∧ Pot (k + 5 * rest.length) m' ∧ (∀ f ∈ done, DrOk f) ∧ done.length + rest.length = n.toNat) L _ ⟨m2, [], _, _, _, rfl, hp2.mono (by omega), by simp, by simpa using hlen⟩ (fun a r e ⟨m', done, s2, s3, s4, he, hp, hd, hl⟩ N hN => ?_) fun e ⟨m', done, s2, s3, s4, he, hp, hd, hl⟩ => ?_
  · subst he
    rw [List.length_cons] at hp hl
    simp only [dSeq, dNext, dRet, dRetN, dIfS, dNever, dAsg, dSetO, dPar, dPar3, dAug, dDrop, dApp, dSetIx, dVar, dC, PD.d2, PD.d1, dCons, dNil, dStar, dTup, dLstN, dLst, dNew, dAnd, dOr, dNot, dIf, dB, bAnd, bOr, bNot, fAdd_ii, fAdd_tt, fAdd_ll, fSub_ii, fMul_ii, fDiv_ii, fMod_ii, fPow_ii, fNeg_i, fLt_ii, fLe_ii, fGt_ii, fGe_ii, fOpI_ii, dIs, dCall, dCallM, dCallMN, lCall, dIxO, dIsN, dNotN, fIsN_i, fIsN_n, fIsN_t, fNotN_i, fNotN_n, fNotN_t, dSl, dNo, dSome, fSl_l, fSl_t, dChain, dChain3, cLen_l, cLen_t, cInt_i, cInt_b, cAbs_i, cMax2_ii, cMin2_ii, cTuple_l, cTuple_t, cList_l, cList_t, gSet, gNilD, gConsD, gTupD, iSeq, PD.iZip, iR1, iR2, dComp, dFor, dSortedSet, dRg1, dRg2, fIx_l, fIx_t, fRev_l, fRev_t, dMove, dBreak, dCont, startD, startM, List.map_cons, List.map_nil, List.length_cons, List.length_nil, List.cons_append, List.nil_append, List.getElem?_cons_zero, List.getElem?_cons_succ, List.set_cons_zero, List.set_cons_succ, Option.some.injEq, Sl.dt.injEq, Sl.ow.injEq, PyData.int.injEq, PyData.bool.injEq, PyData.tuple.injEq, PyData.list.injEq, PyData.str.injEq, exists_eq_left, exists_eq_left', exists_eq_right, true_and, and_true, List.cons.injEq, Ob.lst.injEq, Nat.sub_zero, Nat.reduceAdd, Nat.reduceSub, List.replicate_succ, List.replicate_zero, if_true, if_false, Bool.false_eq_true, if_false, PyData.isInt, PyData.isBool, PyData.isStr, PyData.isTuple, PyData.isList, fEq_int, fNe_int, fEq_str, fNe_str, fEq_pair, fNe_pair, fNe_str1, fEq_nil, fNe_nil, atI_0, atI_1, atI_2, ixN_0, ixN_1, ixN_2, Bool.not_true, Bool.not_false, ite_true, ite_false, reduceCtorEq, ↓reduceIte, exists_and_left, exists_const, and_assoc, or_false, false_or, Nat.zero_le, Int.reduceAdd, Int.reduceNeg, Int.reduceSub, Int.reduceMul, Int.reduceLE, Int.reduceLT, Int.cast_ofNat_Int, decide_true, decide_false, eq_self, Nat.reduceLeDiff, Int.reduceEq]
    refine use_law_take (k := k + 5 * r.length + 4) ⟨hp, by decide, by decide⟩ ?_
    rintro _ m3 ⟨a1, a10, a11, rfl, hp3⟩
    simp only [dSeq, dNext, dRet, dRetN, dIfS, dNever, dAsg, dSetO, dPar, dPar3, dAug, dDrop, dApp, dSetIx, dVar, dC, PD.d2, PD.d1, dCons, dNil, dStar, dTup, dLstN, dLst, dNew, dAnd, dOr, dNot, dIf, dB, bAnd, bOr, bNot, fAdd_ii, fAdd_tt, fAdd_ll, fSub_ii, fMul_ii, fDiv_ii, fMod_ii, fPow_ii, fNeg_i, fLt_ii, fLe_ii, fGt_ii, fGe_ii, fOpI_ii, dIs, dCall, dCallM, dCallMN, lCall, dIxO, dIsN, dNotN, fIsN_i, fIsN_n, fIsN_t, fNotN_i, fNotN_n, fNotN_t, dSl, dNo, dSome, fSl_l, fSl_t, dChain, dChain3, cLen_l, cLen_t, cInt_i, cInt_b, cAbs_i, cMax2_ii, cMin2_ii, cTuple_l, cTuple_t, cList_l, cList_t, gSet, gNilD, gConsD, gTupD, iSeq, PD.iZip, iR1, iR2, dComp, dFor, dSortedSet, dRg1, dRg2, fIx_l, fIx_t, fRev_l, fRev_t, dMove, dBreak, dCont, startD, startM, List.map_cons, List.map_nil, List.length_cons, List.length_nil, List.cons_append, List.nil_append, List.getElem?_cons_zero, List.getElem?_cons_succ, List.set_cons_zero, List.set_cons_succ, Option.some.injEq, Sl.dt.injEq, Sl.ow.injEq, PyData.int.injEq, PyData.bool.injEq, PyData.tuple.injEq, PyData.list.injEq, PyData.str.injEq, exists_eq_left, exists_eq_left', exists_eq_right, true_and, and_true, List.cons.injEq, Ob.lst.injEq, Nat.sub_zero, Nat.reduceAdd, Nat.reduceSub, List.replicate_succ, List.replicate_zero, if_true, if_false, Bool.false_eq_true, if_false, PyData.isInt, PyData.isBool, PyData.isStr, PyData.isTuple, PyData.isList, fEq_int, fNe_int, fEq_str, fNe_str, fEq_pair, fNe_pair, fNe_str1, fEq_nil, fNe_nil, atI_0, atI_1, atI_2, ixN_0, ixN_1, ixN_2, Bool.not_true, Bool.not_false, ite_true, ite_false, reduceCtorEq, ↓reduceIte, exists_and_left, exists_const, and_assoc, or_false, false_or, Nat.zero_le, Int.reduceAdd, Int.reduceNeg, Int.reduceSub, Int.reduceMul, Int.reduceLE, Int.reduceLT, Int.cast_ofNat_Int, decide_true, decide_false, eq_self, Nat.reduceLeDiff, Int.reduceEq]
    refine ⟨by decide +kernel, ?_⟩
    refine use_law_of (k := k + 5 * r.length + 3) (xs := [9, 10 ^ Int.toNat 6]) ⟨hp3, by simp, by decide⟩ ?_
    rintro _ m4 ⟨a2, ha2, rfl, hp4⟩
    have ha2' : a2 = 9 ∨ a2 = 1000000 := by simpa using ha2
    refine use_law_take (k := k + 5 * r.length + 2) ⟨hp4, by omega, by omega⟩ ?_
    rintro _ m5 ⟨a3, a30, a31, rfl, hp5⟩
    simp only [dSeq, dNext, dRet, dRetN, dIfS, dNever, dAsg, dSetO, dPar, dPar3, dAug, dDrop, dApp, dSetIx, dVar, dC, PD.d2, PD.d1, dCons, dNil, dStar, dTup, dLstN, dLst, dNew, dAnd, dOr, dNot, dIf, dB, bAnd, bOr, bNot, fAdd_ii, fAdd_tt, fAdd_ll, fSub_ii, fMul_ii, fDiv_ii, fMod_ii, fPow_ii, fNeg_i, fLt_ii, fLe_ii, fGt_ii, fGe_ii, fOpI_ii, dIs, dCall, dCallM, dCallMN, lCall, dIxO, dIsN, dNotN, fIsN_i, fIsN_n, fIsN_t, fNotN_i, fNotN_n, fNotN_t, dSl, dNo, dSome, fSl_l, fSl_t, dChain, dChain3, cLen_l, cLen_t, cInt_i, cInt_b, cAbs_i, cMax2_ii, cMin2_ii, cTuple_l, cTuple_t, cList_l, cList_t, gSet, gNilD, gConsD, gTupD, iSeq, PD.iZip, iR1, iR2, dComp, dFor, dSortedSet, dRg1, dRg2, fIx_l, fIx_t, fRev_l, fRev_t, dMove, dBreak, dCont, startD, startM, List.map_cons, List.map_nil, List.length_cons, List.length_nil, List.cons_append, List.nil_append, List.getElem?_cons_zero, List.getElem?_cons_succ, List.set_cons_zero, List.set_cons_succ, Option.some.injEq, Sl.dt.injEq, Sl.ow.injEq, PyData.int.injEq, PyData.bool.injEq, PyData.tuple.injEq, PyData.list.injEq, PyData.str.injEq, exists_eq_left, exists_eq_left', exists_eq_right, true_and, and_true, List.cons.injEq, Ob.lst.injEq, Nat.sub_zero, Nat.reduceAdd, Nat.reduceSub, List.replicate_succ, List.replicate_zero, if_true, if_false, Bool.false_eq_true, if_false, PyData.isInt, PyData.isBool, PyData.isStr, PyData.isTuple, PyData.isList, fEq_int, fNe_int, fEq_str, fNe_str, fEq_pair, fNe_pair, fNe_str1, fEq_nil, fNe_nil, atI_0, atI_1, atI_2, ixN_0, ixN_1, ixN_2, Bool.not_true, Bool.not_false, ite_true, ite_false, reduceCtorEq, ↓reduceIte, exists_and_left, exists_const, and_assoc, or_false, false_or, Nat.zero_le, Int.reduceAdd, Int.reduceNeg, Int.reduceSub, Int.reduceMul, Int.reduceLE, Int.reduceLT, Int.cast_ofNat_Int, decide_true, decide_false, eq_self, Nat.reduceLeDiff, Int.reduceEq]
    refine use_law_of (k := k + 5 * r.length + 1) (xs := [1, -1]) ⟨hp5, by simp, by decide⟩ ?_
    rintro _ m6 ⟨a4, ha4, rfl, hp6⟩
    have ha4' : a4 = 1 ∨ a4 = -1 := by simpa using ha4
    simp only [dSeq, dNext, dRet, dRetN, dIfS, dNever, dAsg, dSetO, dPar, dPar3, dAug, dDrop, dApp, dSetIx, dVar, dC, PD.d2, PD.d1, dCons, dNil, dStar, dTup, dLstN, dLst, dNew, dAnd, dOr, dNot, dIf, dB, bAnd, bOr, bNot, fAdd_ii, fAdd_tt, fAdd_ll, fSub_ii, fMul_ii, fDiv_ii, fMod_ii, fPow_ii, fNeg_i, fLt_ii, fLe_ii, fGt_ii, fGe_ii, fOpI_ii, dIs, dCall, dCallM, dCallMN, lCall, dIxO, dIsN, dNotN, fIsN_i, fIsN_n, fIsN_t, fNotN_i, fNotN_n, fNotN_t, dSl, dNo, dSome, fSl_l, fSl_t, dChain, dChain3, cLen_l, cLen_t, cInt_i, cInt_b, cAbs_i, cMax2_ii, cMin2_ii, cTuple_l, cTuple_t, cList_l, cList_t, gSet, gNilD, gConsD, gTupD, iSeq, PD.iZip, iR1, iR2, dComp, dFor, dSortedSet, dRg1, dRg2, fIx_l, fIx_t, fRev_l, fRev_t, dMove, dBreak, dCont, startD, startM, List.map_cons, List.map_nil, List.length_cons, List.length_nil, List.cons_append, List.nil_append, List.getElem?_cons_zero, List.getElem?_cons_succ, List.set_cons_zero, List.set_cons_succ, Option.some.injEq, Sl.dt.injEq, Sl.ow.injEq, PyData.int.injEq, PyData.bool.injEq, PyData.tuple.injEq, PyData.list.injEq, PyData.str.injEq, exists_eq_left, exists_eq_left', exists_eq_right, true_and, and_true, List.cons.injEq, Ob.lst.injEq, Nat.sub_zero, Nat.reduceAdd, Nat.reduceSub, List.replicate_succ, List.replicate_zero, if_true, if_false, Bool.false_eq_true, if_false, PyData.isInt, PyData.isBool, PyData.isStr, PyData.isTuple, PyData.isList, fEq_int, fNe_int, fEq_str, fNe_str, fEq_pair, fNe_pair, fNe_str1, fEq_nil, fNe_nil, atI_0, atI_1, atI_2, ixN_0, ixN_1, ixN_2, Bool.not_true, Bool.not_false, ite_true, ite_false, reduceCtorEq, ↓reduceIte, exists_and_left, exists_const, and_assoc, or_false, false_or, Nat.zero_le, Int.reduceAdd, Int.reduceNeg, Int.reduceSub, Int.reduceMul, Int.reduceLE, Int.reduceLT, Int.cast_ofNat_Int, decide_true, decide_false, eq_self, Nat.reduceLeDiff, Int.reduceEq]
    refine ⟨big_of (by omega) (by omega), big_of (by omega) (by omega), ?_⟩
    refine use_law_take (k := k + 5 * r.length) ⟨hp6, by decide, by decide⟩ ?_
    rintro _ m7 ⟨a5, a50, a51, rfl, hp7⟩
    simp only [dSeq, dNext, dRet, dRetN, dIfS, dNever, dAsg, dSetO, dPar, dPar3, dAug, dDrop, dApp, dSetIx, dVar, dC, PD.d2, PD.d1, dCons, dNil, dStar, dTup, dLstN, dLst, dNew, dAnd, dOr, dNot, dIf, dB, bAnd, bOr, bNot, fAdd_ii, fAdd_tt, fAdd_ll, fSub_ii, fMul_ii, fDiv_ii, fMod_ii, fPow_ii, fNeg_i, fLt_ii, fLe_ii, fGt_ii, fGe_ii, fOpI_ii, dIs, dCall, dCallM, dCallMN, lCall, dIxO, dIsN, dNotN, fIsN_i, fIsN_n, fIsN_t, fNotN_i, fNotN_n, fNotN_t, dSl, dNo, dSome, fSl_l, fSl_t, dChain, dChain3, cLen_l, cLen_t, cInt_i, cInt_b, cAbs_i, cMax2_ii, cMin2_ii, cTuple_l, cTuple_t, cList_l, cList_t, gSet, gNilD, gConsD, gTupD, iSeq, PD.iZip, iR1, iR2, dComp, dFor, dSortedSet, dRg1, dRg2, fIx_l, fIx_t, fRev_l, fRev_t, dMove, dBreak, dCont, startD, startM, List.map_cons, List.map_nil, List.length_cons, List.length_nil, List.cons_append, List.nil_append, List.getElem?_cons_zero, List.getElem?_cons_succ, List.set_cons_zero, List.set_cons_succ, Option.some.injEq, Sl.dt.injEq, Sl.ow.injEq, PyData.int.injEq, PyData.bool.injEq, PyData.tuple.injEq, PyData.list.injEq, PyData.str.injEq, exists_eq_left, exists_eq_left', exists_eq_right, true_and, and_true, List.cons.injEq, Ob.lst.injEq, Nat.sub_zero, Nat.reduceAdd, Nat.reduceSub, List.replicate_succ, List.replicate_zero, if_true, if_false, Bool.false_eq_true, if_false, PyData.isInt, PyData.isBool, PyData.isStr, PyData.isTuple, PyData.isList, fEq_int, fNe_int, fEq_str, fNe_str, fEq_pair, fNe_pair, fNe_str1, fEq_nil, fNe_nil, atI_0, atI_1, atI_2, ixN_0, ixN_1, ixN_2, Bool.not_true, Bool.not_false, ite_true, ite_false, reduceCtorEq, ↓reduceIte, exists_and_left, exists_const, and_assoc, or_false, false_or, Nat.zero_le, Int.reduceAdd, Int.reduceNeg, Int.reduceSub, Int.reduceMul, Int.reduceLE, Int.reduceLT, Int.cast_ofNat_Int, decide_true, decide_false, eq_self, Nat.reduceLeDiff, Int.reduceEq]
    refine ⟨by rw [List.length_map]; omega, ?_⟩
    refine hN _ ⟨m7, done ++ [(a1, a1 + a5, (1 + a3) * a4)], _, _, _, by rw [List.map_append]; rfl, hp7, fun f hf => ?_, by rw [List.length_append]; simp only [List.length_cons, List.length_nil]; omega⟩
    rcases List.mem_append.mp hf with h | h
    · exact hd f h
    · rw [List.mem_singleton.mp h]
      refine ⟨a10, a11, by simp only; omega, by simp only; omega, ?_⟩
      rcases ha4' with rfl | rfl
      · simp only [Int.mul_one]
        omega
      · simp only [Int.mul_neg, Int.mul_one]
        omega
  · subst he
    simp only [dSeq, dNext, dRet, dRetN, dIfS, dNever, dAsg, dSetO, dPar, dPar3, dAug, dDrop, dApp, dSetIx, dVar, dC, PD.d2, PD.d1, dCons, dNil, dStar, dTup, dLstN, dLst, dNew, dAnd, dOr, dNot, dIf, dB, bAnd, bOr, bNot, fAdd_ii, fAdd_tt, fAdd_ll, fSub_ii, fMul_ii, fDiv_ii, fMod_ii, fPow_ii, fNeg_i, fLt_ii, fLe_ii, fGt_ii, fGe_ii, fOpI_ii, dIs, dCall, dCallM, dCallMN, lCall, dIxO, dIsN, dNotN, fIsN_i, fIsN_n, fIsN_t, fNotN_i, fNotN_n, fNotN_t, dSl, dNo, dSome, fSl_l, fSl_t, dChain, dChain3, cLen_l, cLen_t, cInt_i, cInt_b, cAbs_i, cMax2_ii, cMin2_ii, cTuple_l, cTuple_t, cList_l, cList_t, gSet, gNilD, gConsD, gTupD, iSeq, PD.iZip, iR1, iR2, dComp, dFor, dSortedSet, dRg1, dRg2, fIx_l, fIx_t, fRev_l, fRev_t, dMove, dBreak, dCont, startD, startM, List.map_cons, List.map_nil, List.length_cons, List.length_nil, List.cons_append, List.nil_append, List.getElem?_cons_zero, List.getElem?_cons_succ, List.set_cons_zero, List.set_cons_succ, Option.some.injEq, Sl.dt.injEq, Sl.ow.injEq, PyData.int.injEq, PyData.bool.injEq, PyData.tuple.injEq, PyData.list.injEq, PyData.str.injEq, exists_eq_left, exists_eq_left', exists_eq_right, true_and, and_true, List.cons.injEq, Ob.lst.injEq, Nat.sub_zero, Nat.reduceAdd, Nat.reduceSub, List.replicate_succ, List.replicate_zero, if_true, if_false, Bool.false_eq_true, if_false, PyData.isInt, PyData.isBool, PyData.isStr, PyData.isTuple, PyData.isList, fEq_int, fNe_int, fEq_str, fNe_str, fEq_pair, fNe_pair, fNe_str1, fEq_nil, fNe_nil, atI_0, atI_1, atI_2, ixN_0, ixN_1, ixN_2, Bool.not_true, Bool.not_false, ite_true, ite_false, reduceCtorEq, ↓reduceIte, exists_and_left, exists_const, and_assoc, or_false, false_or, Nat.zero_le, Int.reduceAdd, Int.reduceNeg, Int.reduceSub, Int.reduceMul, Int.reduceLE, Int.reduceLT, Int.cast_ofNat_Int, decide_true, decide_false, eq_self, Nat.reduceLeDiff, Int.reduceEq]
    simp only [List.length_nil, Nat.mul_zero, Nat.add_zero] at hp hl
    exact q _ _ ⟨done, rfl, by omega, hd, hp⟩


def NrOk (f : Fl) : Prop := 0 ≤ f.1 ∧ f.1 ≤ f.2.1 ∧ f.2.1 ≤ 238 ∧ f.2.2 ≠ 0 ∧ -1000000 ≤ f.2.2 ∧ f.2.2 ≤ 1000000
theorem DrOk.nr {f : Fl} (h : DrOk f) : NrOk f := by
  obtain ⟨h1, h2, h3, h4, h5, h6, h7⟩ := h
  exact ⟨h1, h3, by omega, h5, h6, h7⟩
theorem NrOk.ok {f : Fl} (h : NrOk f) : FlOk f := by
  obtain ⟨h1, h2, h3, h4, h5, h6⟩ := h
  exact ⟨h1, h2, by omega, by omega, by omega, h4⟩

def S_law_narrowed : FM := SpM fun m_ ds_ P_ => ∃ (m : Ob) (k : Nat) (fs : List Fl), m_ = m ∧ ds_ = [encFs fs] ∧ (Pot (k + 2 * fs.length) m ∧ fs.length ≤ 30 ∧ ∀ f ∈ fs, DrOk f) ∧ P_ = fun d m' => ∃ gs : List Fl, d = encFs gs ∧ Narrow fs gs ∧ (∀ f ∈ gs, NrOk f) ∧ Pot k m'
theorem up_law_narrowed : UpM S_law_narrowed := up_SpM
theorem use_law_narrowed {m : Ob} {k : Nat} {fs : List Fl} {Q : D → Ob → Prop} (pre : Pot (k + 2 * fs.length) m ∧ fs.length ≤ 30 ∧ ∀ f ∈ fs, DrOk f) (h : ∀ d m', (fun d m' => ∃ gs : List Fl, d = encFs gs ∧ Narrow fs gs ∧ (∀ f ∈ gs, NrOk f) ∧ Pot k m') d m' → Q d m') : S_law_narrowed m [encFs fs] Q := ⟨_, ⟨m, k, fs, rfl, rfl, pre, rfl⟩, h⟩
set_option maxHeartbeats 4000000 in
theorem ok_law_narrowed (T : Tx mg) (F : FunAt K mg "_law_narrowed" s__law_narrowed p__law_narrowed) (h_law_take : OkAt P w K mg base "_law_take" p__law_take 1 (spM K S_law_take)) : OkAt P w K mg base "_law_narrowed" p__law_narrowed 2 (spM K S_law_narrowed) := by
  have nd := sc__law_narrowed.nd
  refine okM F sc__law_narrowed (by rintro m ds Q ⟨P, ⟨m, k, fs, em, rfl, _, _⟩, _⟩; rfl) fun f cdv A outer s H E hr => ⟨_, (ssd_cons (sd_setO (i := 2) nd rfl (by first | exact Or.inl rfl | exact Or.inr rfl) (ld_lst ad_nil)) (ssd_cons (sd_for PassesOwn.never rfl (id_seq (ed_var (pv 1))) (gd_tup (n := 3) rfl (gsd_cons (gd_name (pg_name (i := 3) nd rfl (by first | exact Or.inl rfl | exact Or.inr rfl))) (gsd_cons (gd_name (pg_name (i := 4) nd rfl (by first | exact Or.inl rfl | exact Or.inr rfl))) (gsd_cons (gd_name (pg_name (i := 5) nd rfl (by first | exact Or.inl rfl | exact Or.inr rfl))) gsd_nil)))) (ssd_cons (sd_set (i := 6) nd rfl (by first | exact Or.inl rfl | exact Or.inr rfl) (ed_add (ed_var (pv 3)) (ed_call (fun h => pe_callTy call_int1 (by rfl) T.int PyProof.Rows.boot_int h) lk_int up_int (ad_cons (ed_fnMA h_law_take up_law_take hr (by rfl) (pv 0) (ad_cons (ed_add (ed_sub (ed_var (pv 4)) (ed_var (pv 3))) ed_int) ad_nil)) ad_nil)))) (ssd_one (sd_app (pv 2) (ed_tup (ad_cons (ed_var (pv 6)) (ad_cons (ed_add (ed_var (pv 6)) (ed_call (fun h => pe_callTy call_int1 (by rfl) T.int PyProof.Rows.boot_int h) lk_int up_int (ad_cons (ed_fnMA h_law_take up_law_take hr (by rfl) (pv 0) (ad_cons (ed_add (ed_sub (ed_var (pv 4)) (ed_var (pv 6))) ed_int) ad_nil)) ad_nil))) (ad_cons (ed_var (pv 5)) ad_nil)))) (fun h => pe_bm PySem.F.plainAttrs_list PySem.F.slot_list_append PySem.F.type_list_append mt_append (pv 2) (pa_cons h pa_nil)))))) (ssd_one (sd_ret (ed_call (fun h => pe_callTy call_tuple_of (by rfl) T.tuple PyProof.Rows.boot_tuple h) lk_tuple up_tuple (ad_cons (ed_move (pv 2)) ad_nil)))))), fun p m ds Q h => ?_⟩
  obtain ⟨P, ⟨m, k, fs, rfl, rfl, pre, rfl⟩, q⟩ := h
  obtain ⟨hp, hl, hd⟩ := pre
  simp only [dSeq, dNext, dRet, dRetN, dIfS, dNever, dAsg, dSetO, dPar, dPar3, dAug, dDrop, dApp, dSetIx, dVar, dC, PD.d2, PD.d1, dCons, dNil, dStar, dTup, dLstN, dLst, dNew, dAnd, dOr, dNot, dIf, dB, bAnd, bOr, bNot, fAdd_ii, fAdd_tt, fAdd_ll, fSub_ii, fMul_ii, fDiv_ii, fMod_ii, fPow_ii, fNeg_i, fLt_ii, fLe_ii, fGt_ii, fGe_ii, fOpI_ii, dIs, dCall, dCallM, dCallMN, lCall, dIxO, dIsN, dNotN, fIsN_i, fIsN_n, fIsN_t, fNotN_i, fNotN_n, fNotN_t, dSl, dNo, dSome, fSl_l, fSl_t, dChain, dChain3, cLen_l, cLen_t, cInt_i, cInt_b, cAbs_i, cMax2_ii, cMin2_ii, cTuple_l, cTuple_t, cList_l, cList_t, gSet, gNilD, gConsD, gTupD, iSeq, PD.iZip, iR1, iR2, dComp, dFor, dSortedSet, dRg1, dRg2, fIx_l, fIx_t, fRev_l, fRev_t, dMove, dBreak, dCont, startD, startM, List.map_cons, List.map_nil, List.length_cons, List.length_nil, List.cons_append, List.nil_append, List.getElem?_cons_zero, List.getElem?_cons_succ, List.set_cons_zero, List.set_cons_succ, Option.some.injEq, Sl.dt.injEq, Sl.ow.injEq, PyData.int.injEq, PyData.bool.injEq, PyData.tuple.injEq, PyData.list.injEq, PyData.str.injEq, exists_eq_left, exists_eq_left', exists_eq_right, true_and, and_true, List.cons.injEq, Ob.lst.injEq, Nat.sub_zero, Nat.reduceAdd, Nat.reduceSub, List.replicate_succ, List.replicate_zero, if_true, if_false, Bool.false_eq_true, if_false, PyData.isInt, PyData.isBool, PyData.isStr, PyData.isTuple, PyData.isList, fEq_int, fNe_int, fEq_str, fNe_str, fEq_pair, fNe_pair, fNe_str1, fEq_nil, fNe_nil, atI_0, atI_1, atI_2, ixN_0, ixN_1, ixN_2, Bool.not_true, Bool.not_false, ite_true, ite_false, reduceCtorEq, ↓reduceIte, exists_and_left, exists_const, and_assoc, or_false, false_or, Nat.zero_le, Int.reduceAdd, Int.reduceNeg, Int.reduceSub, Int.reduceMul, Int.reduceLE, Int.reduceLT, Int.cast_ofNat_Int, decide_true, decide_false, eq_self, Nat.reduceLeDiff, Int.reduceEq]
  intro p1
  refine for_all encF (fun rest e => ∃ (m' : Ob) (pr gs : List Fl) (s3 s4 s5 s6 : Sl), e = [.ow false p m', .dt (encFs fs), .ow true p1 (.lst (gs.map encF)), s3, s4, s5, s6] ∧ fs = pr ++ rest ∧ Narrow pr gs ∧ (∀ f ∈ gs, NrOk f) ∧ Pot (k + 2 * rest.length) m') fs _ ⟨m, [], [], _, _, _, _, rfl, rfl, ⟨rfl, by simp⟩, by simp, hp⟩ (fun f r e ⟨m', pr, gs, s3, s4, s5, s6, he, hf, hn, hg, hq⟩ N hN => ?_) fun e ⟨m', pr, gs, s3, s4, s5, s6, he, hf, hn, hg, hq⟩ => ?_
  · subst he
    rw [List.length_cons] at hq
    obtain ⟨f1, f2, f3, f4, f5, f6, f7⟩ := hd f (by rw [hf]; simp)
    simp only [dSeq, dNext, dRet, dRetN, dIfS, dNever, dAsg, dSetO, dPar, dPar3, dAug, dDrop, dApp, dSetIx, dVar, dC, PD.d2, PD.d1, dCons, dNil, dStar, dTup, dLstN, dLst, dNew, dAnd, dOr, dNot, dIf, dB, bAnd, bOr, bNot, fAdd_ii, fAdd_tt, fAdd_ll, fSub_ii, fMul_ii, fDiv_ii, fMod_ii, fPow_ii, fNeg_i, fLt_ii, fLe_ii, fGt_ii, fGe_ii, fOpI_ii, dIs, dCall, dCallM, dCallMN, lCall, dIxO, dIsN, dNotN, fIsN_i, fIsN_n, fIsN_t, fNotN_i, fNotN_n, fNotN_t, dSl, dNo, dSome, fSl_l, fSl_t, dChain, dChain3, cLen_l, cLen_t, cInt_i, cInt_b, cAbs_i, cMax2_ii, cMin2_ii, cTuple_l, cTuple_t, cList_l, cList_t, gSet, gNilD, gConsD, gTupD, iSeq, PD.iZip, iR1, iR2, dComp, dFor, dSortedSet, dRg1, dRg2, fIx_l, fIx_t, fRev_l, fRev_t, dMove, dBreak, dCont, startD, startM, List.map_cons, List.map_nil, List.length_cons, List.length_nil, List.cons_append, List.nil_append, List.getElem?_cons_zero, List.getElem?_cons_succ, List.set_cons_zero, List.set_cons_succ, Option.some.injEq, Sl.dt.injEq, Sl.ow.injEq, PyData.int.injEq, PyData.bool.injEq, PyData.tuple.injEq, PyData.list.injEq, PyData.str.injEq, exists_eq_left, exists_eq_left', exists_eq_right, true_and, and_true, List.cons.injEq, Ob.lst.injEq, Nat.sub_zero, Nat.reduceAdd, Nat.reduceSub, List.replicate_succ, List.replicate_zero, if_true, if_false, Bool.false_eq_true, if_false, PyData.isInt, PyData.isBool, PyData.isStr, PyData.isTuple, PyData.isList, fEq_int, fNe_int, fEq_str, fNe_str, fEq_pair, fNe_pair, fNe_str1, fEq_nil, fNe_nil, atI_0, atI_1, atI_2, ixN_0, ixN_1, ixN_2, Bool.not_true, Bool.not_false, ite_true, ite_false, reduceCtorEq, ↓reduceIte, exists_and_left, exists_const, and_assoc, or_false, false_or, Nat.zero_le, Int.reduceAdd, Int.reduceNeg, Int.reduceSub, Int.reduceMul, Int.reduceLE, Int.reduceLT, Int.cast_ofNat_Int, decide_true, decide_false, eq_self, Nat.reduceLeDiff, Int.reduceEq, encF]
    refine use_law_take (k := k + 2 * r.length + 1) ⟨hq, by omega, by omega⟩ ?_
    rintro _ m3 ⟨a1, a10, a11, rfl, hp3⟩
    simp only [dSeq, dNext, dRet, dRetN, dIfS, dNever, dAsg, dSetO, dPar, dPar3, dAug, dDrop, dApp, dSetIx, dVar, dC, PD.d2, PD.d1, dCons, dNil, dStar, dTup, dLstN, dLst, dNew, dAnd, dOr, dNot, dIf, dB, bAnd, bOr, bNot, fAdd_ii, fAdd_tt, fAdd_ll, fSub_ii, fMul_ii, fDiv_ii, fMod_ii, fPow_ii, fNeg_i, fLt_ii, fLe_ii, fGt_ii, fGe_ii, fOpI_ii, dIs, dCall, dCallM, dCallMN, lCall, dIxO, dIsN, dNotN, fIsN_i, fIsN_n, fIsN_t, fNotN_i, fNotN_n, fNotN_t, dSl, dNo, dSome, fSl_l, fSl_t, dChain, dChain3, cLen_l, cLen_t, cInt_i, cInt_b, cAbs_i, cMax2_ii, cMin2_ii, cTuple_l, cTuple_t, cList_l, cList_t, gSet, gNilD, gConsD, gTupD, iSeq, PD.iZip, iR1, iR2, dComp, dFor, dSortedSet, dRg1, dRg2, fIx_l, fIx_t, fRev_l, fRev_t, dMove, dBreak, dCont, startD, startM, List.map_cons, List.map_nil, List.length_cons, List.length_nil, List.cons_append, List.nil_append, List.getElem?_cons_zero, List.getElem?_cons_succ, List.set_cons_zero, List.set_cons_succ, Option.some.injEq, Sl.dt.injEq, Sl.ow.injEq, PyData.int.injEq, PyData.bool.injEq, PyData.tuple.injEq, PyData.list.injEq, PyData.str.injEq, exists_eq_left, exists_eq_left', exists_eq_right, true_and, and_true, List.cons.injEq, Ob.lst.injEq, Nat.sub_zero, Nat.reduceAdd, Nat.reduceSub, List.replicate_succ, List.replicate_zero, if_true, if_false, Bool.false_eq_true, if_false, PyData.isInt, PyData.isBool, PyData.isStr, PyData.isTuple, PyData.isList, fEq_int, fNe_int, fEq_str, fNe_str, fEq_pair, fNe_pair, fNe_str1, fEq_nil, fNe_nil, atI_0, atI_1, atI_2, ixN_0, ixN_1, ixN_2, Bool.not_true, Bool.not_false, ite_true, ite_false, reduceCtorEq, ↓reduceIte, exists_and_left, exists_const, and_assoc, or_false, false_or, Nat.zero_le, Int.reduceAdd, Int.reduceNeg, Int.reduceSub, Int.reduceMul, Int.reduceLE, Int.reduceLT, Int.cast_ofNat_Int, decide_true, decide_false, eq_self, Nat.reduceLeDiff, Int.reduceEq]
    refine use_law_take (k := k + 2 * r.length) ⟨hp3, by omega, by omega⟩ ?_
    rintro _ m4 ⟨a2, a20, a21, rfl, hp4⟩
    simp only [dSeq, dNext, dRet, dRetN, dIfS, dNever, dAsg, dSetO, dPar, dPar3, dAug, dDrop, dApp, dSetIx, dVar, dC, PD.d2, PD.d1, dCons, dNil, dStar, dTup, dLstN, dLst, dNew, dAnd, dOr, dNot, dIf, dB, bAnd, bOr, bNot, fAdd_ii, fAdd_tt, fAdd_ll, fSub_ii, fMul_ii, fDiv_ii, fMod_ii, fPow_ii, fNeg_i, fLt_ii, fLe_ii, fGt_ii, fGe_ii, fOpI_ii, dIs, dCall, dCallM, dCallMN, lCall, dIxO, dIsN, dNotN, fIsN_i, fIsN_n, fIsN_t, fNotN_i, fNotN_n, fNotN_t, dSl, dNo, dSome, fSl_l, fSl_t, dChain, dChain3, cLen_l, cLen_t, cInt_i, cInt_b, cAbs_i, cMax2_ii, cMin2_ii, cTuple_l, cTuple_t, cList_l, cList_t, gSet, gNilD, gConsD, gTupD, iSeq, PD.iZip, iR1, iR2, dComp, dFor, dSortedSet, dRg1, dRg2, fIx_l, fIx_t, fRev_l, fRev_t, dMove, dBreak, dCont, startD, startM, List.map_cons, List.map_nil, List.length_cons, List.length_nil, List.cons_append, List.nil_append, List.getElem?_cons_zero, List.getElem?_cons_succ, List.set_cons_zero, List.set_cons_succ, Option.some.injEq, Sl.dt.injEq, Sl.ow.injEq, PyData.int.injEq, PyData.bool.injEq, PyData.tuple.injEq, PyData.list.injEq, PyData.str.injEq, exists_eq_left, exists_eq_left', exists_eq_right, true_and, and_true, List.cons.injEq, Ob.lst.injEq, Nat.sub_zero, Nat.reduceAdd, Nat.reduceSub, List.replicate_succ, List.replicate_zero, if_true, if_false, Bool.false_eq_true, if_false, PyData.isInt, PyData.isBool, PyData.isStr, PyData.isTuple, PyData.isList, fEq_int, fNe_int, fEq_str, fNe_str, fEq_pair, fNe_pair, fNe_str1, fEq_nil, fNe_nil, atI_0, atI_1, atI_2, ixN_0, ixN_1, ixN_2, Bool.not_true, Bool.not_false, ite_true, ite_false, reduceCtorEq, ↓reduceIte, exists_and_left, exists_const, and_assoc, or_false, false_or, Nat.zero_le, Int.reduceAdd, Int.reduceNeg, Int.reduceSub, Int.reduceMul, Int.reduceLE, Int.reduceLT, Int.cast_ofNat_Int, decide_true, decide_false, eq_self, Nat.reduceLeDiff, Int.reduceEq]
    have hlen := hn.1
    have hfl := congrArg List.length hf
    rw [List.length_append] at hfl
    refine ⟨by rw [List.length_map]; omega, ?_⟩
    refine hN _ ⟨m4, pr ++ [f], gs ++ [(f.1 + a1, f.1 + a1 + a2, f.2.2)], _, _, _, _, by rw [List.map_append]; rfl, by rw [List.append_assoc]; exact hf, ⟨by rw [List.length_append, List.length_append, hlen]; rfl, fun z hz => ?_⟩, fun g hg' => ?_, hp4⟩
    · rw [List.zip_append hlen.symm] at hz
      rcases List.mem_append.mp hz with h | h
      · exact hn.2 z h
      · rw [List.mem_singleton.mp h]
        exact ⟨by simp only; omega, by simp only; omega, by simp only; omega, rfl⟩
    · rcases List.mem_append.mp hg' with h | h
      · exact hg g h
      · rw [List.mem_singleton.mp h]
        exact ⟨by simp only; omega, by simp only; omega, by simp only; omega, f5, f6, f7⟩
  · subst he
    rw [List.append_nil] at hf
    subst hf
    simp only [dSeq, dNext, dRet, dRetN, dIfS, dNever, dAsg, dSetO, dPar, dPar3, dAug, dDrop, dApp, dSetIx, dVar, dC, PD.d2, PD.d1, dCons, dNil, dStar, dTup, dLstN, dLst, dNew, dAnd, dOr, dNot, dIf, dB, bAnd, bOr, bNot, fAdd_ii, fAdd_tt, fAdd_ll, fSub_ii, fMul_ii, fDiv_ii, fMod_ii, fPow_ii, fNeg_i, fLt_ii, fLe_ii, fGt_ii, fGe_ii, fOpI_ii, dIs, dCall, dCallM, dCallMN, lCall, dIxO, dIsN, dNotN, fIsN_i, fIsN_n, fIsN_t, fNotN_i, fNotN_n, fNotN_t, dSl, dNo, dSome, fSl_l, fSl_t, dChain, dChain3, cLen_l, cLen_t, cInt_i, cInt_b, cAbs_i, cMax2_ii, cMin2_ii, cTuple_l, cTuple_t, cList_l, cList_t, gSet, gNilD, gConsD, gTupD, iSeq, PD.iZip, iR1, iR2, dComp, dFor, dSortedSet, dRg1, dRg2, fIx_l, fIx_t, fRev_l, fRev_t, dMove, dBreak, dCont, startD, startM, List.map_cons, List.map_nil, List.length_cons, List.length_nil, List.cons_append, List.nil_append, List.getElem?_cons_zero, List.getElem?_cons_succ, List.set_cons_zero, List.set_cons_succ, Option.some.injEq, Sl.dt.injEq, Sl.ow.injEq, PyData.int.injEq, PyData.bool.injEq, PyData.tuple.injEq, PyData.list.injEq, PyData.str.injEq, exists_eq_left, exists_eq_left', exists_eq_right, true_and, and_true, List.cons.injEq, Ob.lst.injEq, Nat.sub_zero, Nat.reduceAdd, Nat.reduceSub, List.replicate_succ, List.replicate_zero, if_true, if_false, Bool.false_eq_true, if_false, PyData.isInt, PyData.isBool, PyData.isStr, PyData.isTuple, PyData.isList, fEq_int, fNe_int, fEq_str, fNe_str, fEq_pair, fNe_pair, fNe_str1, fEq_nil, fNe_nil, atI_0, atI_1, atI_2, ixN_0, ixN_1, ixN_2, Bool.not_true, Bool.not_false, ite_true, ite_false, reduceCtorEq, ↓reduceIte, exists_and_left, exists_const, and_assoc, or_false, false_or, Nat.zero_le, Int.reduceAdd, Int.reduceNeg, Int.reduceSub, Int.reduceMul, Int.reduceLE, Int.reduceLT, Int.cast_ofNat_Int, decide_true, decide_false, eq_self, Nat.reduceLeDiff, Int.reduceEq]
    simp only [List.length_nil, Nat.mul_zero, Nat.add_zero] at hq
    exact q _ _ ⟨gs, rfl, hn, hg, hq⟩

end
end K21

namespace K21
open PySem PySem.Spec PyProof.Rows L2 PD
section
variable {P : Program} {w : World} {K : PySem.W.Frag} {mg : Str → Option Value} {base : Heap}

def S_law_right : FM := SpM fun m_ ds_ P_ => ∃ (m : Ob), m_ = m ∧ ds_ = [] ∧ (Pot 1000000 m) ∧ P_ = fun d m' => d = .bool true
theorem up_law_right : UpM S_law_right := up_SpM
theorem use_law_right {m : Ob} {Q : D → Ob → Prop} (pre : Pot 1000000 m) (h : ∀ d m', (fun d m' => d = .bool true) d m' → Q d m') : S_law_right m [] Q := ⟨_, ⟨m, rfl, rfl, pre, rfl⟩, h⟩
set_option maxHeartbeats 4000000 in
theorem ok_law_right (T : Tx mg) (F : FunAt K mg "_law_right" s__law_right p__law_right) (h_can_do : OkAt P w K mg base "can_do" p_can_do 6 (spP K S_can_do)) (h_least_to_start : OkAt P w K mg base "least_to_start" p_least_to_start 6 (spP K S_least_to_start)) (h_cash_needed : OkAt P w K mg base "cash_needed" p_cash_needed 6 (spP K S_cash_needed)) (h_never_short : OkAt P w K mg base "never_short" p_never_short 6 (spP K S_never_short)) (h_surely_left : OkAt P w K mg base "surely_left" p_surely_left 6 (spP K S_surely_left)) (h_lows_of : OkAt P w K mg base "lows_of" p_lows_of 6 (spP K S_lows_of)) (h_law_take : OkAt P w K mg base "_law_take" p__law_take 1 (spM K S_law_take)) (h_law_narrowed : OkAt P w K mg base "_law_narrowed" p__law_narrowed 2 (spM K S_law_narrowed)) (h_law_drawn : OkAt P w K mg base "_law_drawn" p__law_drawn 3 (spM K S_law_drawn)) : OkAt P w K mg base "_law_right" p__law_right 7 (spM K S_law_right) := by
  have nd := sc__law_right.nd
  refine okM F sc__law_right (by rintro m ds Q ⟨P, ⟨m, em, rfl, _, _⟩, _⟩; rfl) fun f cdv A outer s H E hr => ⟨_, (ssd_cons (sd_for PassesOwn.never rfl (id_r1 (by rfl) T.range (ad_cons ed_int ad_nil)) (gd_name (pg_name (i := 1) nd rfl (by first | exact Or.inl rfl | exact Or.inr rfl))) (ssd_cons (sd_set (i := 2) nd rfl (by first | exact Or.inl rfl | exact Or.inr rfl) (ed_fnMA h_law_drawn up_law_drawn (hr.mono (by decide)) (by rfl) (pv 0) ad_nil)) (ssd_cons (sd_par (i := 3) (j := 4) rfl nd rfl rfl (by decide) rfl rfl (ad_cons (ed_fnA h_cash_needed up_cash_needed hr (by rfl) (ad_cons (ed_var (pv 2)) ad_nil)) (ad_cons (ed_fnA h_least_to_start up_least_to_start hr (by rfl) (ad_cons (ed_var (pv 2)) ad_nil)) ad_nil)) (by rfl)) (ssd_cons (sd_set (i := 5) nd rfl (by first | exact Or.inl rfl | exact Or.inr rfl) (ed_call (fun h => pe_callTy call_tuple_of (by rfl) T.tuple PyProof.Rows.boot_tuple h) lk_tuple up_tuple (ad_cons (ed_new (ld_comp (own := [("first", 15), ("last", 16), ("money", 17)]) rfl nd (id_seq (ed_var (pv 2))) (blkOk_by (N := N__law_right) (sc := defScope s__law_right) (by decide +kernel)) (by decide) (fun _ _ _ _ _ => (gd_tup (n := 3) rfl (gsd_cons (gd_name (pg_name (i := 15) nd rfl (by first | exact Or.inl rfl | exact Or.inr rfl))) (gsd_cons (gd_name (pg_name (i := 16) nd rfl (by first | exact Or.inl rfl | exact Or.inr rfl))) (gsd_cons (gd_name (pg_name (i := 17) nd rfl (by first | exact Or.inl rfl | exact Or.inr rfl))) gsd_nil))))) (fun _ _ _ _ _ => tsd_nil) (fun _ _ _ _ _ => (ed_tup (ad_cons (ed_add (ed_var (pv 15)) ed_int) (ad_cons (ed_add (ed_var (pv 16)) ed_int) (ad_cons (ed_var (pv 17)) ad_nil))))) s)) ad_nil))) (ssd_cons (sd_if (td_w (wd_or (td_ne (hU hr) (ed_tup (ad_cons (ed_fnA h_cash_needed up_cash_needed hr (by rfl) (ad_cons (ed_var (pv 5)) ad_nil)) (ad_cons (ed_fnA h_least_to_start up_least_to_start hr (by rfl) (ad_cons (ed_var (pv 5)) ad_nil)) ad_nil))) (ed_tup (ad_cons (ed_var (pv 3)) (ad_cons (ed_var (pv 4)) ad_nil)))) (wd_or1 (td_gt (hU hr) (ed_var (pv 4)) (ed_var (pv 3)))))) (ssd_one (sd_ret ed_bl)) ssd_nil) (ssd_cons (sd_if (td_ne (hU hr) (ed_tup (ad_cons (ed_fnA h_cash_needed up_cash_needed hr (by rfl) (ad_cons (ed_add (ed_var (pv 2)) (ed_var (pv 2))) ad_nil)) (ad_cons (ed_fnA h_least_to_start up_least_to_start hr (by rfl) (ad_cons (ed_add (ed_var (pv 2)) (ed_var (pv 2))) ad_nil)) ad_nil))) (ed_tup (ad_cons (ed_mul ed_int (ed_var (pv 3))) (ad_cons (ed_mul ed_int (ed_var (pv 4))) ad_nil)))) (ssd_one (sd_ret ed_bl)) ssd_nil) (ssd_cons (sd_if (td_w (wd_or (td_ne (hU hr) (ed_fnA h_cash_needed up_cash_needed hr (by rfl) (ad_cons (ed_rev (ed_var (pv 2))) ad_nil)) (ed_var (pv 3))) (wd_or1 (td_ne (hU hr) (ed_fnA h_least_to_start up_least_to_start hr (by rfl) (ad_cons (ed_rev (ed_var (pv 2))) ad_nil)) (ed_var (pv 4)))))) (ssd_one (sd_ret ed_bl)) ssd_nil) (ssd_cons (sd_par (i := 6) (j := 7) rfl nd rfl rfl (by decide) rfl rfl (ad_cons (ed_fnMA h_law_narrowed up_law_narrowed (hr.mono (by decide)) (by rfl) (pv 0) (ad_cons (ed_var (pv 2)) ad_nil)) (ad_cons (ed_call (fun h => pe_callTy call_int1 (by rfl) T.int PyProof.Rows.boot_int h) lk_int up_int (ad_cons (ed_fnMA h_law_take up_law_take (hr.mono (by decide)) (by rfl) (pv 0) (ad_cons ed_int ad_nil)) ad_nil)) ad_nil)) (by rfl)) (ssd_cons (sd_if (td_w (wd_or (td_gt (hU hr) (ed_fnA h_cash_needed up_cash_needed hr (by rfl) (ad_cons (ed_var (pv 6)) ad_nil)) (ed_var (pv 3))) (wd_or1 (td_lt (hU hr) (ed_fnA h_least_to_start up_least_to_start hr (by rfl) (ad_cons (ed_var (pv 6)) ad_nil)) (ed_var (pv 4)))))) (ssd_one (sd_ret ed_bl)) ssd_nil) (ssd_cons (sd_par (i := 8) (j := 9) rfl nd rfl rfl (by decide) rfl rfl (ad_cons (ed_fnA h_surely_left up_surely_left hr (by rfl) (ad_cons (ed_var (pv 3)) (ad_cons (ed_var (pv 2)) (ad_cons (ed_var (pv 7)) ad_nil)))) (ad_cons (ed_fnA h_surely_left up_surely_left hr (by rfl) (ad_cons (ed_var (pv 3)) (ad_cons (ed_var (pv 6)) (ad_cons (ed_var (pv 7)) ad_nil)))) ad_nil)) (by rfl)) (ssd_cons (sd_if (td_not (td_chain3 (or_leD (hU hr)) (or_leD (hU hr)) (or_leD (hU hr)) ol_le ol_le ol_le up_cmp up_cmp up_cmp (ed_ix (fun _ _ => rfl) (ed_var (pv 8)) ed_int) (ed_ix (fun _ _ => rfl) (ed_var (pv 9)) ed_int) (ed_ix (fun _ _ => rfl) (ed_var (pv 9)) ed_int) (ed_ix (fun _ _ => rfl) (ed_var (pv 8)) ed_int))) (ssd_one (sd_ret ed_bl)) ssd_nil) (ssd_cons (sd_set (i := 10) nd rfl (by first | exact Or.inl rfl | exact Or.inr rfl) (ed_call (fun h => pe_callTy call_tuple_of (by rfl) T.tuple PyProof.Rows.boot_tuple h) lk_tuple up_tuple (ad_cons (ed_new (ld_comp (own := [("first", 15), ("last", 16), ("money", 17)]) rfl nd (id_seq (ed_var (pv 2))) (blkOk_by (N := N__law_right) (sc := defScope s__law_right) (by decide +kernel)) (by decide) (fun _ _ _ _ _ => (gd_tup (n := 3) rfl (gsd_cons (gd_name (pg_name (i := 15) nd rfl (by first | exact Or.inl rfl | exact Or.inr rfl))) (gsd_cons (gd_name (pg_name (i := 16) nd rfl (by first | exact Or.inl rfl | exact Or.inr rfl))) (gsd_cons (gd_name (pg_name (i := 17) nd rfl (by first | exact Or.inl rfl | exact Or.inr rfl))) gsd_nil))))) (fun _ _ _ _ _ => tsd_nil) (fun _ _ _ _ _ => (ed_add (ed_var (pv 15)) (ed_call (fun h => pe_callTy call_int1 (by rfl) T.int PyProof.Rows.boot_int h) lk_int up_int (ad_cons (ed_fnMA h_law_take up_law_take (hr.mono (by decide)) (by rfl) (pv 0) (ad_cons (ed_add (ed_sub (ed_var (pv 16)) (ed_var (pv 15))) ed_int) ad_nil)) ad_nil)))) s)) ad_nil))) (ssd_cons (sd_set (i := 11) nd rfl (by first | exact Or.inl rfl | exact Or.inr rfl) (ed_call (fun h => pe_callTy call_tuple_of (by rfl) T.tuple PyProof.Rows.boot_tuple h) lk_tuple up_tuple (ad_cons (ed_new (ld_comp (own := [("one", 18), ("first", 15), ("last", 16), ("money", 17)]) rfl nd (id_zip (by rfl) T.zip (ad_cons (ed_var (pv 10)) (ad_cons (ed_var (pv 2)) ad_nil))) (blkOk_by (N := N__law_right) (sc := defScope s__law_right) (by decide +kernel)) (by decide) (fun _ _ _ _ _ => (gd_tup (n := 2) rfl (gsd_cons (gd_name (pg_name (i := 18) nd rfl (by first | exact Or.inl rfl | exact Or.inr rfl))) (gsd_cons (gd_tup (n := 3) rfl (gsd_cons (gd_name (pg_name (i := 15) nd rfl (by first | exact Or.inl rfl | exact Or.inr rfl))) (gsd_cons (gd_name (pg_name (i := 16) nd rfl (by first | exact Or.inl rfl | exact Or.inr rfl))) (gsd_cons (gd_name (pg_name (i := 17) nd rfl (by first | exact Or.inl rfl | exact Or.inr rfl))) gsd_nil)))) gsd_nil)))) (fun _ _ _ _ _ => tsd_nil) (fun _ _ _ _ _ => (ed_tup (ad_cons (ed_var (pv 18)) (ad_cons (ed_var (pv 18)) (ad_cons (ed_var (pv 17)) ad_nil))))) s)) ad_nil))) (ssd_cons (sd_set (i := 12) nd rfl (by first | exact Or.inl rfl | exact Or.inr rfl) (ed_call (fun h => pe_callB (cr_minD rfl (hU hr)) (by rfl) T.min PyProof.Rows.boot_min h) (lk_best up_minL) up_minL (ad_cons (ed_add (ed_new (ld_lst (ad_cons ed_int ad_nil))) (ed_new (ld_comp (own := [("one", 18), ("cash", 19)]) rfl nd (id_seq (ed_fnA h_lows_of up_lows_of hr (by rfl) (ad_cons ed_int (ad_cons (ed_var (pv 2)) (ad_cons (ed_var (pv 10)) ad_nil))))) (blkOk_by (N := N__law_right) (sc := defScope s__law_right) (by decide +kernel)) (by decide) (fun _ _ _ _ _ => (gd_tup (n := 2) rfl (gsd_cons (gd_name (pg_name (i := 18) nd rfl (by first | exact Or.inl rfl | exact Or.inr rfl))) (gsd_cons (gd_name (pg_name (i := 19) nd rfl (by first | exact Or.inl rfl | exact Or.inr rfl))) gsd_nil)))) (fun _ _ _ _ _ => tsd_nil) (fun _ _ _ _ _ => (ed_var (pv 19))) s))) ad_nil))) (ssd_cons (sd_if (td_w (wd_or (td_ne (hU hr) (ed_fnA h_cash_needed up_cash_needed hr (by rfl) (ad_cons (ed_var (pv 11)) ad_nil)) (ed_neg (ed_var (pv 12)))) (wd_or (td_ne (hU hr) (ed_fnA h_least_to_start up_least_to_start hr (by rfl) (ad_cons (ed_var (pv 11)) ad_nil)) (ed_neg (ed_var (pv 12)))) (wd_or1 (td_not (td_chain (or_leD (hU hr)) (or_leD (hU hr)) ol_le ol_le up_cmp up_cmp (ed_var (pv 4)) (ed_neg (ed_var (pv 12))) (ed_var (pv 3)))))))) (ssd_one (sd_ret ed_bl)) ssd_nil) (ssd_cons (sd_if (td_val (ed_call (fun h => pe_callB (cr_any rfl) (by rfl) T.any PyProof.Rows.boot_any h) lk_any up_any (ad_cons (ed_new (ld_comp (own := [("one", 18), ("cash", 19)]) rfl nd (id_seq (ed_fnA h_lows_of up_lows_of hr (by rfl) (ad_cons (ed_var (pv 3)) (ad_cons (ed_var (pv 2)) (ad_cons (ed_var (pv 10)) ad_nil))))) (blkOk_by (N := N__law_right) (sc := defScope s__law_right) (by decide +kernel)) (by decide) (fun _ _ _ _ _ => (gd_tup (n := 2) rfl (gsd_cons (gd_name (pg_name (i := 18) nd rfl (by first | exact Or.inl rfl | exact Or.inr rfl))) (gsd_cons (gd_name (pg_name (i := 19) nd rfl (by first | exact Or.inl rfl | exact Or.inr rfl))) gsd_nil)))) (fun _ _ _ _ _ => tsd_nil) (fun _ _ _ _ _ => (ed_lt (hU hr) (ed_var (pv 19)) ed_int)) s)) ad_nil))) (ssd_one (sd_ret ed_bl)) ssd_nil) (ssd_cons (sd_set (i := 13) nd rfl (by first | exact Or.inl rfl | exact Or.inr rfl) (ed_call (fun h => pe_callB (cr_sum rfl) (by rfl) T.sum PyProof.Rows.boot_sum h) lk_sum up_sum (ad_cons (ed_new (ld_comp (own := [("first", 15), ("last", 16), ("money", 17)]) rfl nd (id_seq (ed_var (pv 2))) (blkOk_by (N := N__law_right) (sc := defScope s__law_right) (by decide +kernel)) (by decide) (fun _ _ _ _ _ => (gd_tup (n := 3) rfl (gsd_cons (gd_name (pg_name (i := 15) nd rfl (by first | exact Or.inl rfl | exact Or.inr rfl))) (gsd_cons (gd_name (pg_name (i := 16) nd rfl (by first | exact Or.inl rfl | exact Or.inr rfl))) (gsd_cons (gd_name (pg_name (i := 17) nd rfl (by first | exact Or.inl rfl | exact Or.inr rfl))) gsd_nil))))) (fun _ _ _ _ _ => tsd_nil) (fun _ _ _ _ _ => (ed_var (pv 17))) s)) ad_nil))) (ssd_cons (sd_if (td_ne (hU hr) (ed_fnA h_surely_left up_surely_left hr (by rfl) (ad_cons (ed_var (pv 3)) (ad_cons (ed_var (pv 2)) (ad_cons (ed_pow ed_int ed_int) ad_nil)))) (ed_tup (ad_cons (ed_add (ed_var (pv 3)) (ed_var (pv 13))) (ad_cons (ed_add (ed_var (pv 3)) (ed_var (pv 13))) ad_nil)))) (ssd_one (sd_ret ed_bl)) ssd_nil) (ssd_cons (sd_set (i := 14) nd rfl (by first | exact Or.inl rfl | exact Or.inr rfl) (ed_call (fun h => pe_callTy call_tuple_of (by rfl) T.tuple PyProof.Rows.boot_tuple h) lk_tuple up_tuple (ad_cons (ed_new (ld_comp (own := [("first", 15), ("last", 16), ("money", 17)]) rfl nd (id_seq (ed_var (pv 2))) (blkOk_by (N := N__law_right) (sc := defScope s__law_right) (by decide +kernel)) (by decide) (fun _ _ _ _ _ => (gd_tup (n := 3) rfl (gsd_cons (gd_name (pg_name (i := 15) nd rfl (by first | exact Or.inl rfl | exact Or.inr rfl))) (gsd_cons (gd_name (pg_name (i := 16) nd rfl (by first | exact Or.inl rfl | exact Or.inr rfl))) (gsd_cons (gd_name (pg_name (i := 17) nd rfl (by first | exact Or.inl rfl | exact Or.inr rfl))) gsd_nil))))) (fun _ _ _ _ _ => tsd_nil) (fun _ _ _ _ _ => (ed_tup (ad_cons (ed_sub ed_int (ed_var (pv 16))) (ad_cons (ed_sub ed_int (ed_var (pv 15))) (ad_cons (ed_neg (ed_var (pv 17))) ad_nil))))) s)) ad_nil))) (ssd_cons (sd_if (td_w (wd_or (td_w (wd_and (td_ge (hU hr) (ed_var (pv 13)) ed_int) (wd_and1 (td_lt (hU hr) (ed_fnA h_cash_needed up_cash_needed hr (by rfl) (ad_cons (ed_var (pv 14)) ad_nil)) (ed_var (pv 13)))))) (wd_or1 (td_ne (hU hr) (ed_fnA h_surely_left up_surely_left hr (by rfl) (ad_cons ed_int (ad_cons (ed_var (pv 14)) (ad_cons (ed_pow ed_int ed_int) ad_nil)))) (ed_tup (ad_cons (ed_neg (ed_var (pv 13))) (ad_cons (ed_neg (ed_var (pv 13))) ad_nil))))))) (ssd_one (sd_ret ed_bl)) ssd_nil) (ssd_one (sd_if (td_w (wd_or (td_ne (hU hr) (ed_fnA h_never_short up_never_short hr (by rfl) (ad_cons (ed_var (pv 3)) (ad_cons (ed_var (pv 2)) ad_nil))) (ed_tup (ad_cons ed_str ad_nil))) (wd_or1 (td_ne (hU hr) (ed_ix (fun _ _ => rfl) (ed_fnA h_can_do up_can_do hr (by rfl) (ad_cons (ed_var (pv 4)) (ad_cons (ed_var (pv 2)) ad_nil))) ed_int) ed_str)))) (ssd_one (sd_ret ed_bl)) ssd_nil)))))))))))))))))))))) (ssd_one (sd_ret (ed_and (ed_eq (hU hr) (ed_fnA h_cash_needed up_cash_needed hr (by rfl) (ad_cons (ed_tup ad_nil) ad_nil)) ed_int) (ed_and (ed_eq (hU hr) (ed_fnA h_least_to_start up_least_to_start hr (by rfl) (ad_cons (ed_tup ad_nil) ad_nil)) ed_int) (ed_one (ed_eq (hU hr) (ed_fnA h_can_do up_can_do hr (by rfl) (ad_cons ed_int (ad_cons (ed_tup ad_nil) ad_nil))) (ed_tup (ad_cons ed_str (ad_cons (ed_tup ad_nil) ad_nil)))))))))), fun p m ds Q h => ?_⟩
  obtain ⟨P, ⟨m, rfl, rfl, pre, rfl⟩, q⟩ := h
  simp only [dSeq, dNext, dRet, dRetN, dIfS, dNever, dAsg, dSetO, dPar, dPar3, dAug, dDrop, dApp, dSetIx, dVar, dC, PD.d2, PD.d1, dCons, dNil, dStar, dTup, dLstN, dLst, dNew, dAnd, dOr, dNot, dIf, dB, bAnd, bOr, bNot, fAdd_ii, fAdd_tt, fAdd_ll, fSub_ii, fMul_ii, fDiv_ii, fMod_ii, fPow_ii, fNeg_i, fLt_ii, fLe_ii, fGt_ii, fGe_ii, fOpI_ii, dIs, dCall, dCallM, dCallMN, lCall, dIxO, dIsN, dNotN, fIsN_i, fIsN_n, fIsN_t, fNotN_i, fNotN_n, fNotN_t, dSl, dNo, dSome, fSl_l, fSl_t, dChain, dChain3, cLen_l, cLen_t, cInt_i, cInt_b, cAbs_i, cMax2_ii, cMin2_ii, cTuple_l, cTuple_t, cList_l, cList_t, gSet, gNilD, gConsD, gTupD, iSeq, PD.iZip, iR1, iR2, dComp, dFor, dSortedSet, dRg1, dRg2, fIx_l, fIx_t, fRev_l, fRev_t, dMove, dBreak, dCont, startD, startM, List.map_cons, List.map_nil, List.length_cons, List.length_nil, List.cons_append, List.nil_append, List.getElem?_cons_zero, List.getElem?_cons_succ, List.set_cons_zero, List.set_cons_succ, Option.some.injEq, Sl.dt.injEq, Sl.ow.injEq, PyData.int.injEq, PyData.bool.injEq, PyData.tuple.injEq, PyData.list.injEq, PyData.str.injEq, exists_eq_left, exists_eq_left', exists_eq_right, true_and, and_true, List.cons.injEq, Ob.lst.injEq, Nat.sub_zero, Nat.reduceAdd, Nat.reduceSub, List.replicate_succ, List.replicate_zero, if_true, if_false, Bool.false_eq_true, if_false, PyData.isInt, PyData.isBool, PyData.isStr, PyData.isTuple, PyData.isList, fEq_int, fNe_int, fEq_str, fNe_str, fEq_pair, fNe_pair, fNe_str1, fEq_nil, fNe_nil, atI_0, atI_1, atI_2, ixN_0, ixN_1, ixN_2, Bool.not_true, Bool.not_false, ite_true, ite_false, reduceCtorEq, ↓reduceIte, exists_and_left, exists_const, and_assoc, or_false, false_or, Nat.zero_le, Int.reduceAdd, Int.reduceNeg, Int.reduceSub, Int.reduceMul, Int.reduceLE, Int.reduceLT, Int.cast_ofNat_Int, decide_true, decide_false, eq_self, Nat.reduceLeDiff, Int.reduceEq]
  refine ⟨by decide, by decide, ?_⟩
  rw [rangeD_map]
  have hlen : ((List.range (Int.toNat 8)).map fun (i : Nat) => (0 : Int) + (i : Int) * 1).length = 8 := rfl
  generalize ((List.range (Int.toNat 8)).map fun (i : Nat) => (0 : Int) + (i : Int) * 1) = L at hlen
  refine for_all PyData.int (fun rest e => ∃ (m' : Ob) (s1 s2 s3 s4 s5 s6 s7 s8 s9 s10 s11 s12 s13 s14 : Sl), e = [.ow false p m', s1, s2, s3, s4, s5, s6, s7, s8, s9, s10, s11, s12, s13, s14, .no, .no, .no, .no, .no] ∧ Pot (1000 * rest.length) m') L _ ⟨m, _, _, _, _, _, _, _, _, _, _, _, _, _, _, rfl, pre.mono (by omega)⟩ (fun a r e ⟨m', s1, s2, s3, s4, s5, s6, s7, s8, s9, s10, s11, s12, s13, s14, he, hp⟩ N hN => ?_) fun e ⟨m', s1, s2, s3, s4, s5, s6, s7, s8, s9, s10, s11, s12, s13, s14, he, hp⟩ => ?_
  · subst he
    rw [List.length_cons] at hp
    simp only [dSeq, dNext, dRet, dRetN, dIfS, dNever, dAsg, dSetO, dPar, dPar3, dAug, dDrop, dApp, dSetIx, dVar, dC, PD.d2, PD.d1, dCons, dNil, dStar, dTup, dLstN, dLst, dNew, dAnd, dOr, dNot, dIf, dB, bAnd, bOr, bNot, fAdd_ii, fAdd_tt, fAdd_ll, fSub_ii, fMul_ii, fDiv_ii, fMod_ii, fPow_ii, fNeg_i, fLt_ii, fLe_ii, fGt_ii, fGe_ii, fOpI_ii, dIs, dCall, dCallM, dCallMN, lCall, dIxO, dIsN, dNotN, fIsN_i, fIsN_n, fIsN_t, fNotN_i, fNotN_n, fNotN_t, dSl, dNo, dSome, fSl_l, fSl_t, dChain, dChain3, cLen_l, cLen_t, cInt_i, cInt_b, cAbs_i, cMax2_ii, cMin2_ii, cTuple_l, cTuple_t, cList_l, cList_t, gSet, gNilD, gConsD, gTupD, iSeq, PD.iZip, iR1, iR2, dComp, dFor, dSortedSet, dRg1, dRg2, fIx_l, fIx_t, fRev_l, fRev_t, dMove, dBreak, dCont, startD, startM, List.map_cons, List.map_nil, List.length_cons, List.length_nil, List.cons_append, List.nil_append, List.getElem?_cons_zero, List.getElem?_cons_succ, List.set_cons_zero, List.set_cons_succ, Option.some.injEq, Sl.dt.injEq, Sl.ow.injEq, PyData.int.injEq, PyData.bool.injEq, PyData.tuple.injEq, PyData.list.injEq, PyData.str.injEq, exists_eq_left, exists_eq_left', exists_eq_right, true_and, and_true, List.cons.injEq, Ob.lst.injEq, Nat.sub_zero, Nat.reduceAdd, Nat.reduceSub, List.replicate_succ, List.replicate_zero, if_true, if_false, Bool.false_eq_true, if_false, PyData.isInt, PyData.isBool, PyData.isStr, PyData.isTuple, PyData.isList, fEq_int, fNe_int, fEq_str, fNe_str, fEq_pair, fNe_pair, fNe_str1, fEq_nil, fNe_nil, atI_0, atI_1, atI_2, ixN_0, ixN_1, ixN_2, Bool.not_true, Bool.not_false, ite_true, ite_false, reduceCtorEq, ↓reduceIte, exists_and_left, exists_const, and_assoc, or_false, false_or, Nat.zero_le, Int.reduceAdd, Int.reduceNeg, Int.reduceSub, Int.reduceMul, Int.reduceLE, Int.reduceLT, Int.cast_ofNat_Int, decide_true, decide_false, eq_self, Nat.reduceLeDiff, Int.reduceEq]
    refine use_law_drawn (k := 1000 * r.length + 800) (hp.mono (by omega)) ?_
    rintro _ m1 ⟨fs, rfl, ln, hd, hp1⟩
    have okf : FlsOk fs := ⟨by omega, fun f hf => (hd f hf).nr.ok⟩
    have le : ∀ f ∈ fs, f.1 ≤ f.2.1 := fun f hf => (hd f hf).2.2.1
    have ge : ∀ f ∈ fs, -1000000 ≤ f.2.2 := fun f hf => (hd f hf).2.2.2.2.2.1
    simp only [dSeq, dNext, dRet, dRetN, dIfS, dNever, dAsg, dSetO, dPar, dPar3, dAug, dDrop, dApp, dSetIx, dVar, dC, PD.d2, PD.d1, dCons, dNil, dStar, dTup, dLstN, dLst, dNew, dAnd, dOr, dNot, dIf, dB, bAnd, bOr, bNot, fAdd_ii, fAdd_tt, fAdd_ll, fSub_ii, fMul_ii, fDiv_ii, fMod_ii, fPow_ii, fNeg_i, fLt_ii, fLe_ii, fGt_ii, fGe_ii, fOpI_ii, dIs, dCall, dCallM, dCallMN, lCall, dIxO, dIsN, dNotN, fIsN_i, fIsN_n, fIsN_t, fNotN_i, fNotN_n, fNotN_t, dSl, dNo, dSome, fSl_l, fSl_t, dChain, dChain3, cLen_l, cLen_t, cInt_i, cInt_b, cAbs_i, cMax2_ii, cMin2_ii, cTuple_l, cTuple_t, cList_l, cList_t, gSet, gNilD, gConsD, gTupD, iSeq, PD.iZip, iR1, iR2, dComp, dFor, dSortedSet, dRg1, dRg2, fIx_l, fIx_t, fRev_l, fRev_t, dMove, dBreak, dCont, startD, startM, List.map_cons, List.map_nil, List.length_cons, List.length_nil, List.cons_append, List.nil_append, List.getElem?_cons_zero, List.getElem?_cons_succ, List.set_cons_zero, List.set_cons_succ, Option.some.injEq, Sl.dt.injEq, Sl.ow.injEq, PyData.int.injEq, PyData.bool.injEq, PyData.tuple.injEq, PyData.list.injEq, PyData.str.injEq, exists_eq_left, exists_eq_left', exists_eq_right, true_and, and_true, List.cons.injEq, Ob.lst.injEq, Nat.sub_zero, Nat.reduceAdd, Nat.reduceSub, List.replicate_succ, List.replicate_zero, if_true, if_false, Bool.false_eq_true, if_false, PyData.isInt, PyData.isBool, PyData.isStr, PyData.isTuple, PyData.isList, fEq_int, fNe_int, fEq_str, fNe_str, fEq_pair, fNe_pair, fNe_str1, fEq_nil, fNe_nil, atI_0, atI_1, atI_2, ixN_0, ixN_1, ixN_2, Bool.not_true, Bool.not_false, ite_true, ite_false, reduceCtorEq, ↓reduceIte, exists_and_left, exists_const, and_assoc, or_false, false_or, Nat.zero_le, Int.reduceAdd, Int.reduceNeg, Int.reduceSub, Int.reduceMul, Int.reduceLE, Int.reduceLT, Int.cast_ofNat_Int, decide_true, decide_false, eq_self, Nat.reduceLeDiff, Int.reduceEq]
    refine use_cash_needed okf ?_
    rintro _ ⟨most, hM, rfl⟩
    refine use_least_to_start okf ?_
    rintro _ ⟨least, hL, rfl⟩
    have most0 : 0 ≤ most := by have := hM.1; omega
    have most1 : most ≤ 60000000 := by have := low_big ge (by omega) hM; omega
    have least0 : 0 ≤ least := by have := hL.1; omega
    have lm : least ≤ most := by have := low_mono (fun t => ⟨t, worst_best le t⟩) hM hL; omega
    simp only [dSeq, dNext, dRet, dRetN, dIfS, dNever, dAsg, dSetO, dPar, dPar3, dAug, dDrop, dApp, dSetIx, dVar, dC, PD.d2, PD.d1, dCons, dNil, dStar, dTup, dLstN, dLst, dNew, dAnd, dOr, dNot, dIf, dB, bAnd, bOr, bNot, fAdd_ii, fAdd_tt, fAdd_ll, fSub_ii, fMul_ii, fDiv_ii, fMod_ii, fPow_ii, fNeg_i, fLt_ii, fLe_ii, fGt_ii, fGe_ii, fOpI_ii, dIs, dCall, dCallM, dCallMN, lCall, dIxO, dIsN, dNotN, fIsN_i, fIsN_n, fIsN_t, fNotN_i, fNotN_n, fNotN_t, dSl, dNo, dSome, fSl_l, fSl_t, dChain, dChain3, cLen_l, cLen_t, cInt_i, cInt_b, cAbs_i, cMax2_ii, cMin2_ii, cTuple_l, cTuple_t, cList_l, cList_t, gSet, gNilD, gConsD, gTupD, iSeq, PD.iZip, iR1, iR2, dComp, dFor, dSortedSet, dRg1, dRg2, fIx_l, fIx_t, fRev_l, fRev_t, dMove, dBreak, dCont, startD, startM, List.map_cons, List.map_nil, List.length_cons, List.length_nil, List.cons_append, List.nil_append, List.getElem?_cons_zero, List.getElem?_cons_succ, List.set_cons_zero, List.set_cons_succ, Option.some.injEq, Sl.dt.injEq, Sl.ow.injEq, PyData.int.injEq, PyData.bool.injEq, PyData.tuple.injEq, PyData.list.injEq, PyData.str.injEq, exists_eq_left, exists_eq_left', exists_eq_right, true_and, and_true, List.cons.injEq, Ob.lst.injEq, Nat.sub_zero, Nat.reduceAdd, Nat.reduceSub, List.replicate_succ, List.replicate_zero, if_true, if_false, Bool.false_eq_true, if_false, PyData.isInt, PyData.isBool, PyData.isStr, PyData.isTuple, PyData.isList, fEq_int, fNe_int, fEq_str, fNe_str, fEq_pair, fNe_pair, fNe_str1, fEq_nil, fNe_nil, atI_0, atI_1, atI_2, ixN_0, ixN_1, ixN_2, Bool.not_true, Bool.not_false, ite_true, ite_false, reduceCtorEq, ↓reduceIte, exists_and_left, exists_const, and_assoc, or_false, false_or, Nat.zero_le, Int.reduceAdd, Int.reduceNeg, Int.reduceSub, Int.reduceMul, Int.reduceLE, Int.reduceLT, Int.cast_ofNat_Int, decide_true, decide_false, eq_self, Nat.reduceLeDiff, Int.reduceEq, List.length_map]
    refine ⟨by omega, ?_⟩
    refine comp_all encF (fun f => encF (later f)) fs rfl (fun f hf K hK => ?_) fun e2 he2 => ?_
    · simp only [restD_c, restD_n, keepD_d, keepD_n, keepD_o, wipeD_c, wipeD_n, List.getElem?_cons_zero, List.getElem?_cons_succ, List.set_cons_zero, List.set_cons_succ, dSeq, dNext, dRet, dRetN, dIfS, dNever, dAsg, dSetO, dPar, dPar3, dAug, dDrop, dApp, dSetIx, dVar, dC, PD.d2, PD.d1, dCons, dNil, dStar, dTup, dLstN, dLst, dNew, dAnd, dOr, dNot, dIf, dB, bAnd, bOr, bNot, fAdd_ii, fAdd_tt, fAdd_ll, fSub_ii, fMul_ii, fDiv_ii, fMod_ii, fPow_ii, fNeg_i, fLt_ii, fLe_ii, fGt_ii, fGe_ii, fOpI_ii, dIs, dCall, dCallM, dCallMN, lCall, dIxO, dIsN, dNotN, fIsN_i, fIsN_n, fIsN_t, fNotN_i, fNotN_n, fNotN_t, dSl, dNo, dSome, fSl_l, fSl_t, dChain, dChain3, cLen_l, cLen_t, cInt_i, cInt_b, cAbs_i, cMax2_ii, cMin2_ii, cTuple_l, cTuple_t, cList_l, cList_t, gSet, gNilD, gConsD, gTupD, iSeq, PD.iZip, iR1, iR2, dComp, dFor, dSortedSet, dRg1, dRg2, fIx_l, fIx_t, fRev_l, fRev_t, dMove, dBreak, dCont, startD, startM, List.map_cons, List.map_nil, List.length_cons, List.length_nil, List.cons_append, List.nil_append, List.getElem?_cons_zero, List.getElem?_cons_succ, List.set_cons_zero, List.set_cons_succ, Option.some.injEq, Sl.dt.injEq, Sl.ow.injEq, PyData.int.injEq, PyData.bool.injEq, PyData.tuple.injEq, PyData.list.injEq, PyData.str.injEq, exists_eq_left, exists_eq_left', exists_eq_right, true_and, and_true, List.cons.injEq, Ob.lst.injEq, Nat.sub_zero, Nat.reduceAdd, Nat.reduceSub, List.replicate_succ, List.replicate_zero, if_true, if_false, Bool.false_eq_true, if_false, PyData.isInt, PyData.isBool, PyData.isStr, PyData.isTuple, PyData.isList, fEq_int, fNe_int, fEq_str, fNe_str, fEq_pair, fNe_pair, fNe_str1, fEq_nil, fNe_nil, atI_0, atI_1, atI_2, ixN_0, ixN_1, ixN_2, Bool.not_true, Bool.not_false, ite_true, ite_false, reduceCtorEq, ↓reduceIte, exists_and_left, exists_const, and_assoc, or_false, false_or, Nat.zero_le, Int.reduceAdd, Int.reduceNeg, Int.reduceSub, Int.reduceMul, Int.reduceLE, Int.reduceLT, Int.cast_ofNat_Int, decide_true, decide_false, eq_self, Nat.reduceLeDiff, Int.reduceEq, encF]
      exact hK _ rfl
    rw [he2]
    simp only [restD_c, restD_n, keepD_d, keepD_n, keepD_o, wipeD_c, wipeD_n, List.getElem?_cons_zero, List.getElem?_cons_succ, List.set_cons_zero, List.set_cons_succ, dSeq, dNext, dRet, dRetN, dIfS, dNever, dAsg, dSetO, dPar, dPar3, dAug, dDrop, dApp, dSetIx, dVar, dC, PD.d2, PD.d1, dCons, dNil, dStar, dTup, dLstN, dLst, dNew, dAnd, dOr, dNot, dIf, dB, bAnd, bOr, bNot, fAdd_ii, fAdd_tt, fAdd_ll, fSub_ii, fMul_ii, fDiv_ii, fMod_ii, fPow_ii, fNeg_i, fLt_ii, fLe_ii, fGt_ii, fGe_ii, fOpI_ii, dIs, dCall, dCallM, dCallMN, lCall, dIxO, dIsN, dNotN, fIsN_i, fIsN_n, fIsN_t, fNotN_i, fNotN_n, fNotN_t, dSl, dNo, dSome, fSl_l, fSl_t, dChain, dChain3, cLen_l, cLen_t, cInt_i, cInt_b, cAbs_i, cMax2_ii, cMin2_ii, cTuple_l, cTuple_t, cList_l, cList_t, gSet, gNilD, gConsD, gTupD, iSeq, PD.iZip, iR1, iR2, dComp, dFor, dSortedSet, dRg1, dRg2, fIx_l, fIx_t, fRev_l, fRev_t, dMove, dBreak, dCont, startD, startM, List.map_cons, List.map_nil, List.length_cons, List.length_nil, List.cons_append, List.nil_append, List.getElem?_cons_zero, List.getElem?_cons_succ, List.set_cons_zero, List.set_cons_succ, Option.some.injEq, Sl.dt.injEq, Sl.ow.injEq, PyData.int.injEq, PyData.bool.injEq, PyData.tuple.injEq, PyData.list.injEq, PyData.str.injEq, exists_eq_left, exists_eq_left', exists_eq_right, true_and, and_true, List.cons.injEq, Ob.lst.injEq, Nat.sub_zero, Nat.reduceAdd, Nat.reduceSub, List.replicate_succ, List.replicate_zero, if_true, if_false, Bool.false_eq_true, if_false, PyData.isInt, PyData.isBool, PyData.isStr, PyData.isTuple, PyData.isList, fEq_int, fNe_int, fEq_str, fNe_str, fEq_pair, fNe_pair, fNe_str1, fEq_nil, fNe_nil, atI_0, atI_1, atI_2, ixN_0, ixN_1, ixN_2, Bool.not_true, Bool.not_false, ite_true, ite_false, reduceCtorEq, ↓reduceIte, exists_and_left, exists_const, and_assoc, or_false, false_or, Nat.zero_le, Int.reduceAdd, Int.reduceNeg, Int.reduceSub, Int.reduceMul, Int.reduceLE, Int.reduceLT, Int.cast_ofNat_Int, decide_true, decide_false, eq_self, Nat.reduceLeDiff, Int.reduceEq]
    have e1 : PyData.tuple (fs.map fun f => encF (later f)) = encFs (fs.map later) := by
      show _ = PyData.tuple _
      rw [List.map_map]
      rfl
    rw [e1]
    have okl : FlsOk (fs.map later) := ⟨by rw [List.length_map]; omega, fun f hf => by
      obtain ⟨g, hg, rfl⟩ := List.mem_map.mp hf
      obtain ⟨g1, g2, g3, g4, g5, g6, g7⟩ := hd g hg
      exact ⟨by unfold later; simp only; omega, by unfold later; simp only; omega, by unfold later; simp only; omega, by unfold later; simp only; omega, by unfold later; simp only; omega, g5⟩⟩
    refine use_cash_needed okl ?_
    rintro _ ⟨most', hM', rfl⟩
    refine use_least_to_start okl ?_
    rintro _ ⟨least', hL', rfl⟩
    obtain rfl : most = most' := by have := low_same (fun t => low_later worst_later t) hM hM'; omega
    obtain rfl : least = least' := by have := low_same (fun t => low_later best_later t) hL hL'; omega
    simp only [dSeq, dNext, dRet, dRetN, dIfS, dNever, dAsg, dSetO, dPar, dPar3, dAug, dDrop, dApp, dSetIx, dVar, dC, PD.d2, PD.d1, dCons, dNil, dStar, dTup, dLstN, dLst, dNew, dAnd, dOr, dNot, dIf, dB, bAnd, bOr, bNot, fAdd_ii, fAdd_tt, fAdd_ll, fSub_ii, fMul_ii, fDiv_ii, fMod_ii, fPow_ii, fNeg_i, fLt_ii, fLe_ii, fGt_ii, fGe_ii, fOpI_ii, dIs, dCall, dCallM, dCallMN, lCall, dIxO, dIsN, dNotN, fIsN_i, fIsN_n, fIsN_t, fNotN_i, fNotN_n, fNotN_t, dSl, dNo, dSome, fSl_l, fSl_t, dChain, dChain3, cLen_l, cLen_t, cInt_i, cInt_b, cAbs_i, cMax2_ii, cMin2_ii, cTuple_l, cTuple_t, cList_l, cList_t, gSet, gNilD, gConsD, gTupD, iSeq, PD.iZip, iR1, iR2, dComp, dFor, dSortedSet, dRg1, dRg2, fIx_l, fIx_t, fRev_l, fRev_t, dMove, dBreak, dCont, startD, startM, List.map_cons, List.map_nil, List.length_cons, List.length_nil, List.cons_append, List.nil_append, List.getElem?_cons_zero, List.getElem?_cons_succ, List.set_cons_zero, List.set_cons_succ, Option.some.injEq, Sl.dt.injEq, Sl.ow.injEq, PyData.int.injEq, PyData.bool.injEq, PyData.tuple.injEq, PyData.list.injEq, PyData.str.injEq, exists_eq_left, exists_eq_left', exists_eq_right, true_and, and_true, List.cons.injEq, Ob.lst.injEq, Nat.sub_zero, Nat.reduceAdd, Nat.reduceSub, List.replicate_succ, List.replicate_zero, if_true, if_false, Bool.false_eq_true, if_false, PyData.isInt, PyData.isBool, PyData.isStr, PyData.isTuple, PyData.isList, fEq_int, fNe_int, fEq_str, fNe_str, fEq_pair, fNe_pair, fNe_str1, fEq_nil, fNe_nil, atI_0, atI_1, atI_2, ixN_0, ixN_1, ixN_2, Bool.not_true, Bool.not_false, ite_true, ite_false, reduceCtorEq, ↓reduceIte, exists_and_left, exists_const, and_assoc, or_false, false_or, Nat.zero_le, Int.reduceAdd, Int.reduceNeg, Int.reduceSub, Int.reduceMul, Int.reduceLE, Int.reduceLT, Int.cast_ofNat_Int, decide_true, decide_false, eq_self, Nat.reduceLeDiff, Int.reduceEq]
    rw [decide_eq_false (show ¬ most < least by omega)]
    have e2' : PyData.tuple (fs.map encF ++ fs.map encF) = encFs (fs ++ fs) := by rw [← List.map_append]
    have ok2 : FlsOk (fs ++ fs) := ⟨by rw [List.length_append]; omega, fun f hf => by
      rcases List.mem_append.mp hf with h | h <;> exact okf.2 f h⟩
    rw [e2']
    simp only [dSeq, dNext, dRet, dRetN, dIfS, dNever, dAsg, dSetO, dPar, dPar3, dAug, dDrop, dApp, dSetIx, dVar, dC, PD.d2, PD.d1, dCons, dNil, dStar, dTup, dLstN, dLst, dNew, dAnd, dOr, dNot, dIf, dB, bAnd, bOr, bNot, fAdd_ii, fAdd_tt, fAdd_ll, fSub_ii, fMul_ii, fDiv_ii, fMod_ii, fPow_ii, fNeg_i, fLt_ii, fLe_ii, fGt_ii, fGe_ii, fOpI_ii, dIs, dCall, dCallM, dCallMN, lCall, dIxO, dIsN, dNotN, fIsN_i, fIsN_n, fIsN_t, fNotN_i, fNotN_n, fNotN_t, dSl, dNo, dSome, fSl_l, fSl_t, dChain, dChain3, cLen_l, cLen_t, cInt_i, cInt_b, cAbs_i, cMax2_ii, cMin2_ii, cTuple_l, cTuple_t, cList_l, cList_t, gSet, gNilD, gConsD, gTupD, iSeq, PD.iZip, iR1, iR2, dComp, dFor, dSortedSet, dRg1, dRg2, fIx_l, fIx_t, fRev_l, fRev_t, dMove, dBreak, dCont, startD, startM, List.map_cons, List.map_nil, List.length_cons, List.length_nil, List.cons_append, List.nil_append, List.getElem?_cons_zero, List.getElem?_cons_succ, List.set_cons_zero, List.set_cons_succ, Option.some.injEq, Sl.dt.injEq, Sl.ow.injEq, PyData.int.injEq, PyData.bool.injEq, PyData.tuple.injEq, PyData.list.injEq, PyData.str.injEq, exists_eq_left, exists_eq_left', exists_eq_right, true_and, and_true, List.cons.injEq, Ob.lst.injEq, Nat.sub_zero, Nat.reduceAdd, Nat.reduceSub, List.replicate_succ, List.replicate_zero, if_true, if_false, Bool.false_eq_true, if_false, PyData.isInt, PyData.isBool, PyData.isStr, PyData.isTuple, PyData.isList, fEq_int, fNe_int, fEq_str, fNe_str, fEq_pair, fNe_pair, fNe_str1, fEq_nil, fNe_nil, atI_0, atI_1, atI_2, ixN_0, ixN_1, ixN_2, Bool.not_true, Bool.not_false, ite_true, ite_false, reduceCtorEq, ↓reduceIte, exists_and_left, exists_const, and_assoc, or_false, false_or, Nat.zero_le, Int.reduceAdd, Int.reduceNeg, Int.reduceSub, Int.reduceMul, Int.reduceLE, Int.reduceLT, Int.cast_ofNat_Int, decide_true, decide_false, eq_self, Nat.reduceLeDiff, Int.reduceEq, List.length_map]
    refine ⟨by omega, ?_⟩
    refine use_cash_needed ok2 ?_
    rintro _ ⟨m2, hM2, rfl⟩
    refine ⟨by omega, ?_⟩
    refine use_least_to_start ok2 ?_
    rintro _ ⟨l2, hL2, rfl⟩
    obtain rfl : m2 = 2 * most := by have := twice_low hM hM2; omega
    obtain rfl : l2 = 2 * least := by have := twice_low hL hL2; omega
    refine ⟨by decide +kernel, big_of (by omega) (by omega), by decide +kernel, big_of (by omega) (by omega), ?_⟩
    simp only [dSeq, dNext, dRet, dRetN, dIfS, dNever, dAsg, dSetO, dPar, dPar3, dAug, dDrop, dApp, dSetIx, dVar, dC, PD.d2, PD.d1, dCons, dNil, dStar, dTup, dLstN, dLst, dNew, dAnd, dOr, dNot, dIf, dB, bAnd, bOr, bNot, fAdd_ii, fAdd_tt, fAdd_ll, fSub_ii, fMul_ii, fDiv_ii, fMod_ii, fPow_ii, fNeg_i, fLt_ii, fLe_ii, fGt_ii, fGe_ii, fOpI_ii, dIs, dCall, dCallM, dCallMN, lCall, dIxO, dIsN, dNotN, fIsN_i, fIsN_n, fIsN_t, fNotN_i, fNotN_n, fNotN_t, dSl, dNo, dSome, fSl_l, fSl_t, dChain, dChain3, cLen_l, cLen_t, cInt_i, cInt_b, cAbs_i, cMax2_ii, cMin2_ii, cTuple_l, cTuple_t, cList_l, cList_t, gSet, gNilD, gConsD, gTupD, iSeq, PD.iZip, iR1, iR2, dComp, dFor, dSortedSet, dRg1, dRg2, fIx_l, fIx_t, fRev_l, fRev_t, dMove, dBreak, dCont, startD, startM, List.map_cons, List.map_nil, List.length_cons, List.length_nil, List.cons_append, List.nil_append, List.getElem?_cons_zero, List.getElem?_cons_succ, List.set_cons_zero, List.set_cons_succ, Option.some.injEq, Sl.dt.injEq, Sl.ow.injEq, PyData.int.injEq, PyData.bool.injEq, PyData.tuple.injEq, PyData.list.injEq, PyData.str.injEq, exists_eq_left, exists_eq_left', exists_eq_right, true_and, and_true, List.cons.injEq, Ob.lst.injEq, Nat.sub_zero, Nat.reduceAdd, Nat.reduceSub, List.replicate_succ, List.replicate_zero, if_true, if_false, Bool.false_eq_true, if_false, PyData.isInt, PyData.isBool, PyData.isStr, PyData.isTuple, PyData.isList, fEq_int, fNe_int, fEq_str, fNe_str, fEq_pair, fNe_pair, fNe_str1, fEq_nil, fNe_nil, atI_0, atI_1, atI_2, ixN_0, ixN_1, ixN_2, Bool.not_true, Bool.not_false, ite_true, ite_false, reduceCtorEq, ↓reduceIte, exists_and_left, exists_const, and_assoc, or_false, false_or, Nat.zero_le, Int.reduceAdd, Int.reduceNeg, Int.reduceSub, Int.reduceMul, Int.reduceLE, Int.reduceLT, Int.cast_ofNat_Int, decide_true, decide_false, eq_self, Nat.reduceLeDiff, Int.reduceEq]
    have e3 : PyData.tuple (fs.map encF).reverse = encFs fs.reverse := by rw [← List.map_reverse]
    have ok3 : FlsOk fs.reverse := ⟨by rw [List.length_reverse]; omega, fun f hf => okf.2 f (List.mem_reverse.mp hf)⟩
    rw [e3]
    refine use_cash_needed ok3 ?_
    rintro _ ⟨m3, hM3, rfl⟩
    obtain rfl : most = m3 := by have := low_same (fun t => low_rev t) hM hM3; omega
    simp only [dSeq, dNext, dRet, dRetN, dIfS, dNever, dAsg, dSetO, dPar, dPar3, dAug, dDrop, dApp, dSetIx, dVar, dC, PD.d2, PD.d1, dCons, dNil, dStar, dTup, dLstN, dLst, dNew, dAnd, dOr, dNot, dIf, dB, bAnd, bOr, bNot, fAdd_ii, fAdd_tt, fAdd_ll, fSub_ii, fMul_ii, fDiv_ii, fMod_ii, fPow_ii, fNeg_i, fLt_ii, fLe_ii, fGt_ii, fGe_ii, fOpI_ii, dIs, dCall, dCallM, dCallMN, lCall, dIxO, dIsN, dNotN, fIsN_i, fIsN_n, fIsN_t, fNotN_i, fNotN_n, fNotN_t, dSl, dNo, dSome, fSl_l, fSl_t, dChain, dChain3, cLen_l, cLen_t, cInt_i, cInt_b, cAbs_i, cMax2_ii, cMin2_ii, cTuple_l, cTuple_t, cList_l, cList_t, gSet, gNilD, gConsD, gTupD, iSeq, PD.iZip, iR1, iR2, dComp, dFor, dSortedSet, dRg1, dRg2, fIx_l, fIx_t, fRev_l, fRev_t, dMove, dBreak, dCont, startD, startM, List.map_cons, List.map_nil, List.length_cons, List.length_nil, List.cons_append, List.nil_append, List.getElem?_cons_zero, List.getElem?_cons_succ, List.set_cons_zero, List.set_cons_succ, Option.some.injEq, Sl.dt.injEq, Sl.ow.injEq, PyData.int.injEq, PyData.bool.injEq, PyData.tuple.injEq, PyData.list.injEq, PyData.str.injEq, exists_eq_left, exists_eq_left', exists_eq_right, true_and, and_true, List.cons.injEq, Ob.lst.injEq, Nat.sub_zero, Nat.reduceAdd, Nat.reduceSub, List.replicate_succ, List.replicate_zero, if_true, if_false, Bool.false_eq_true, if_false, PyData.isInt, PyData.isBool, PyData.isStr, PyData.isTuple, PyData.isList, fEq_int, fNe_int, fEq_str, fNe_str, fEq_pair, fNe_pair, fNe_str1, fEq_nil, fNe_nil, atI_0, atI_1, atI_2, ixN_0, ixN_1, ixN_2, Bool.not_true, Bool.not_false, ite_true, ite_false, reduceCtorEq, ↓reduceIte, exists_and_left, exists_const, and_assoc, or_false, false_or, Nat.zero_le, Int.reduceAdd, Int.reduceNeg, Int.reduceSub, Int.reduceMul, Int.reduceLE, Int.reduceLT, Int.cast_ofNat_Int, decide_true, decide_false, eq_self, Nat.reduceLeDiff, Int.reduceEq]
    refine use_least_to_start ok3 ?_
    rintro _ ⟨l3, hL3, rfl⟩
    obtain rfl : least = l3 := by have := low_same (fun t => low_rev t) hL hL3; omega
    simp only [dSeq, dNext, dRet, dRetN, dIfS, dNever, dAsg, dSetO, dPar, dPar3, dAug, dDrop, dApp, dSetIx, dVar, dC, PD.d2, PD.d1, dCons, dNil, dStar, dTup, dLstN, dLst, dNew, dAnd, dOr, dNot, dIf, dB, bAnd, bOr, bNot, fAdd_ii, fAdd_tt, fAdd_ll, fSub_ii, fMul_ii, fDiv_ii, fMod_ii, fPow_ii, fNeg_i, fLt_ii, fLe_ii, fGt_ii, fGe_ii, fOpI_ii, dIs, dCall, dCallM, dCallMN, lCall, dIxO, dIsN, dNotN, fIsN_i, fIsN_n, fIsN_t, fNotN_i, fNotN_n, fNotN_t, dSl, dNo, dSome, fSl_l, fSl_t, dChain, dChain3, cLen_l, cLen_t, cInt_i, cInt_b, cAbs_i, cMax2_ii, cMin2_ii, cTuple_l, cTuple_t, cList_l, cList_t, gSet, gNilD, gConsD, gTupD, iSeq, PD.iZip, iR1, iR2, dComp, dFor, dSortedSet, dRg1, dRg2, fIx_l, fIx_t, fRev_l, fRev_t, dMove, dBreak, dCont, startD, startM, List.map_cons, List.map_nil, List.length_cons, List.length_nil, List.cons_append, List.nil_append, List.getElem?_cons_zero, List.getElem?_cons_succ, List.set_cons_zero, List.set_cons_succ, Option.some.injEq, Sl.dt.injEq, Sl.ow.injEq, PyData.int.injEq, PyData.bool.injEq, PyData.tuple.injEq, PyData.list.injEq, PyData.str.injEq, exists_eq_left, exists_eq_left', exists_eq_right, true_and, and_true, List.cons.injEq, Ob.lst.injEq, Nat.sub_zero, Nat.reduceAdd, Nat.reduceSub, List.replicate_succ, List.replicate_zero, if_true, if_false, Bool.false_eq_true, if_false, PyData.isInt, PyData.isBool, PyData.isStr, PyData.isTuple, PyData.isList, fEq_int, fNe_int, fEq_str, fNe_str, fEq_pair, fNe_pair, fNe_str1, fEq_nil, fNe_nil, atI_0, atI_1, atI_2, ixN_0, ixN_1, ixN_2, Bool.not_true, Bool.not_false, ite_true, ite_false, reduceCtorEq, ↓reduceIte, exists_and_left, exists_const, and_assoc, or_false, false_or, Nat.zero_le, Int.reduceAdd, Int.reduceNeg, Int.reduceSub, Int.reduceMul, Int.reduceLE, Int.reduceLT, Int.cast_ofNat_Int, decide_true, decide_false, eq_self, Nat.reduceLeDiff, Int.reduceEq]
    refine use_law_narrowed (k := 1000 * r.length + 700) ⟨hp1.mono (by omega), by omega, hd⟩ ?_
    rintro _ m2 ⟨gs, rfl, hn, hg, hp2⟩
    have okg : FlsOk gs := ⟨by rw [hn.1]; omega, fun f hf => (hg f hf).ok⟩
    refine use_law_take (k := 1000 * r.length + 690) ⟨hp2.mono (by omega), by decide, by decide⟩ ?_
    rintro _ m3 ⟨day, d0, d1, rfl, hp3⟩
    simp only [dSeq, dNext, dRet, dRetN, dIfS, dNever, dAsg, dSetO, dPar, dPar3, dAug, dDrop, dApp, dSetIx, dVar, dC, PD.d2, PD.d1, dCons, dNil, dStar, dTup, dLstN, dLst, dNew, dAnd, dOr, dNot, dIf, dB, bAnd, bOr, bNot, fAdd_ii, fAdd_tt, fAdd_ll, fSub_ii, fMul_ii, fDiv_ii, fMod_ii, fPow_ii, fNeg_i, fLt_ii, fLe_ii, fGt_ii, fGe_ii, fOpI_ii, dIs, dCall, dCallM, dCallMN, lCall, dIxO, dIsN, dNotN, fIsN_i, fIsN_n, fIsN_t, fNotN_i, fNotN_n, fNotN_t, dSl, dNo, dSome, fSl_l, fSl_t, dChain, dChain3, cLen_l, cLen_t, cInt_i, cInt_b, cAbs_i, cMax2_ii, cMin2_ii, cTuple_l, cTuple_t, cList_l, cList_t, gSet, gNilD, gConsD, gTupD, iSeq, PD.iZip, iR1, iR2, dComp, dFor, dSortedSet, dRg1, dRg2, fIx_l, fIx_t, fRev_l, fRev_t, dMove, dBreak, dCont, startD, startM, List.map_cons, List.map_nil, List.length_cons, List.length_nil, List.cons_append, List.nil_append, List.getElem?_cons_zero, List.getElem?_cons_succ, List.set_cons_zero, List.set_cons_succ, Option.some.injEq, Sl.dt.injEq, Sl.ow.injEq, PyData.int.injEq, PyData.bool.injEq, PyData.tuple.injEq, PyData.list.injEq, PyData.str.injEq, exists_eq_left, exists_eq_left', exists_eq_right, true_and, and_true, List.cons.injEq, Ob.lst.injEq, Nat.sub_zero, Nat.reduceAdd, Nat.reduceSub, List.replicate_succ, List.replicate_zero, if_true, if_false, Bool.false_eq_true, if_false, PyData.isInt, PyData.isBool, PyData.isStr, PyData.isTuple, PyData.isList, fEq_int, fNe_int, fEq_str, fNe_str, fEq_pair, fNe_pair, fNe_str1, fEq_nil, fNe_nil, atI_0, atI_1, atI_2, ixN_0, ixN_1, ixN_2, Bool.not_true, Bool.not_false, ite_true, ite_false, reduceCtorEq, ↓reduceIte, exists_and_left, exists_const, and_assoc, or_false, false_or, Nat.zero_le, Int.reduceAdd, Int.reduceNeg, Int.reduceSub, Int.reduceMul, Int.reduceLE, Int.reduceLT, Int.cast_ofNat_Int, decide_true, decide_false, eq_self, Nat.reduceLeDiff, Int.reduceEq]
    refine use_cash_needed okg ?_
    rintro _ ⟨mg, hMg, rfl⟩
    have hmg : mg ≤ most := by have := low_mono (fun t => ⟨t, narrow_worst hn t⟩) hM hMg; omega
    simp only [dSeq, dNext, dRet, dRetN, dIfS, dNever, dAsg, dSetO, dPar, dPar3, dAug, dDrop, dApp, dSetIx, dVar, dC, PD.d2, PD.d1, dCons, dNil, dStar, dTup, dLstN, dLst, dNew, dAnd, dOr, dNot, dIf, dB, bAnd, bOr, bNot, fAdd_ii, fAdd_tt, fAdd_ll, fSub_ii, fMul_ii, fDiv_ii, fMod_ii, fPow_ii, fNeg_i, fLt_ii, fLe_ii, fGt_ii, fGe_ii, fOpI_ii, dIs, dCall, dCallM, dCallMN, lCall, dIxO, dIsN, dNotN, fIsN_i, fIsN_n, fIsN_t, fNotN_i, fNotN_n, fNotN_t, dSl, dNo, dSome, fSl_l, fSl_t, dChain, dChain3, cLen_l, cLen_t, cInt_i, cInt_b, cAbs_i, cMax2_ii, cMin2_ii, cTuple_l, cTuple_t, cList_l, cList_t, gSet, gNilD, gConsD, gTupD, iSeq, PD.iZip, iR1, iR2, dComp, dFor, dSortedSet, dRg1, dRg2, fIx_l, fIx_t, fRev_l, fRev_t, dMove, dBreak, dCont, startD, startM, List.map_cons, List.map_nil, List.length_cons, List.length_nil, List.cons_append, List.nil_append, List.getElem?_cons_zero, List.getElem?_cons_succ, List.set_cons_zero, List.set_cons_succ, Option.some.injEq, Sl.dt.injEq, Sl.ow.injEq, PyData.int.injEq, PyData.bool.injEq, PyData.tuple.injEq, PyData.list.injEq, PyData.str.injEq, exists_eq_left, exists_eq_left', exists_eq_right, true_and, and_true, List.cons.injEq, Ob.lst.injEq, Nat.sub_zero, Nat.reduceAdd, Nat.reduceSub, List.replicate_succ, List.replicate_zero, if_true, if_false, Bool.false_eq_true, if_false, PyData.isInt, PyData.isBool, PyData.isStr, PyData.isTuple, PyData.isList, fEq_int, fNe_int, fEq_str, fNe_str, fEq_pair, fNe_pair, fNe_str1, fEq_nil, fNe_nil, atI_0, atI_1, atI_2, ixN_0, ixN_1, ixN_2, Bool.not_true, Bool.not_false, ite_true, ite_false, reduceCtorEq, ↓reduceIte, exists_and_left, exists_const, and_assoc, or_false, false_or, Nat.zero_le, Int.reduceAdd, Int.reduceNeg, Int.reduceSub, Int.reduceMul, Int.reduceLE, Int.reduceLT, Int.cast_ofNat_Int, decide_true, decide_false, eq_self, Nat.reduceLeDiff, Int.reduceEq]
    rw [decide_eq_false (show ¬ most < mg by omega)]
    simp only [dSeq, dNext, dRet, dRetN, dIfS, dNever, dAsg, dSetO, dPar, dPar3, dAug, dDrop, dApp, dSetIx, dVar, dC, PD.d2, PD.d1, dCons, dNil, dStar, dTup, dLstN, dLst, dNew, dAnd, dOr, dNot, dIf, dB, bAnd, bOr, bNot, fAdd_ii, fAdd_tt, fAdd_ll, fSub_ii, fMul_ii, fDiv_ii, fMod_ii, fPow_ii, fNeg_i, fLt_ii, fLe_ii, fGt_ii, fGe_ii, fOpI_ii, dIs, dCall, dCallM, dCallMN, lCall, dIxO, dIsN, dNotN, fIsN_i, fIsN_n, fIsN_t, fNotN_i, fNotN_n, fNotN_t, dSl, dNo, dSome, fSl_l, fSl_t, dChain, dChain3, cLen_l, cLen_t, cInt_i, cInt_b, cAbs_i, cMax2_ii, cMin2_ii, cTuple_l, cTuple_t, cList_l, cList_t, gSet, gNilD, gConsD, gTupD, iSeq, PD.iZip, iR1, iR2, dComp, dFor, dSortedSet, dRg1, dRg2, fIx_l, fIx_t, fRev_l, fRev_t, dMove, dBreak, dCont, startD, startM, List.map_cons, List.map_nil, List.length_cons, List.length_nil, List.cons_append, List.nil_append, List.getElem?_cons_zero, List.getElem?_cons_succ, List.set_cons_zero, List.set_cons_succ, Option.some.injEq, Sl.dt.injEq, Sl.ow.injEq, PyData.int.injEq, PyData.bool.injEq, PyData.tuple.injEq, PyData.list.injEq, PyData.str.injEq, exists_eq_left, exists_eq_left', exists_eq_right, true_and, and_true, List.cons.injEq, Ob.lst.injEq, Nat.sub_zero, Nat.reduceAdd, Nat.reduceSub, List.replicate_succ, List.replicate_zero, if_true, if_false, Bool.false_eq_true, if_false, PyData.isInt, PyData.isBool, PyData.isStr, PyData.isTuple, PyData.isList, fEq_int, fNe_int, fEq_str, fNe_str, fEq_pair, fNe_pair, fNe_str1, fEq_nil, fNe_nil, atI_0, atI_1, atI_2, ixN_0, ixN_1, ixN_2, Bool.not_true, Bool.not_false, ite_true, ite_false, reduceCtorEq, ↓reduceIte, exists_and_left, exists_const, and_assoc, or_false, false_or, Nat.zero_le, Int.reduceAdd, Int.reduceNeg, Int.reduceSub, Int.reduceMul, Int.reduceLE, Int.reduceLT, Int.cast_ofNat_Int, decide_true, decide_false, eq_self, Nat.reduceLeDiff, Int.reduceEq]
    refine use_least_to_start okg ?_
    rintro _ ⟨lg, hLg, rfl⟩
    have hlg : least ≤ lg := by have := low_mono (fun t => ⟨t, narrow_best hn t⟩) hLg hL; omega
    simp only [dSeq, dNext, dRet, dRetN, dIfS, dNever, dAsg, dSetO, dPar, dPar3, dAug, dDrop, dApp, dSetIx, dVar, dC, PD.d2, PD.d1, dCons, dNil, dStar, dTup, dLstN, dLst, dNew, dAnd, dOr, dNot, dIf, dB, bAnd, bOr, bNot, fAdd_ii, fAdd_tt, fAdd_ll, fSub_ii, fMul_ii, fDiv_ii, fMod_ii, fPow_ii, fNeg_i, fLt_ii, fLe_ii, fGt_ii, fGe_ii, fOpI_ii, dIs, dCall, dCallM, dCallMN, lCall, dIxO, dIsN, dNotN, fIsN_i, fIsN_n, fIsN_t, fNotN_i, fNotN_n, fNotN_t, dSl, dNo, dSome, fSl_l, fSl_t, dChain, dChain3, cLen_l, cLen_t, cInt_i, cInt_b, cAbs_i, cMax2_ii, cMin2_ii, cTuple_l, cTuple_t, cList_l, cList_t, gSet, gNilD, gConsD, gTupD, iSeq, PD.iZip, iR1, iR2, dComp, dFor, dSortedSet, dRg1, dRg2, fIx_l, fIx_t, fRev_l, fRev_t, dMove, dBreak, dCont, startD, startM, List.map_cons, List.map_nil, List.length_cons, List.length_nil, List.cons_append, List.nil_append, List.getElem?_cons_zero, List.getElem?_cons_succ, List.set_cons_zero, List.set_cons_succ, Option.some.injEq, Sl.dt.injEq, Sl.ow.injEq, PyData.int.injEq, PyData.bool.injEq, PyData.tuple.injEq, PyData.list.injEq, PyData.str.injEq, exists_eq_left, exists_eq_left', exists_eq_right, true_and, and_true, List.cons.injEq, Ob.lst.injEq, Nat.sub_zero, Nat.reduceAdd, Nat.reduceSub, List.replicate_succ, List.replicate_zero, if_true, if_false, Bool.false_eq_true, if_false, PyData.isInt, PyData.isBool, PyData.isStr, PyData.isTuple, PyData.isList, fEq_int, fNe_int, fEq_str, fNe_str, fEq_pair, fNe_pair, fNe_str1, fEq_nil, fNe_nil, atI_0, atI_1, atI_2, ixN_0, ixN_1, ixN_2, Bool.not_true, Bool.not_false, ite_true, ite_false, reduceCtorEq, ↓reduceIte, exists_and_left, exists_const, and_assoc, or_false, false_or, Nat.zero_le, Int.reduceAdd, Int.reduceNeg, Int.reduceSub, Int.reduceMul, Int.reduceLE, Int.reduceLT, Int.cast_ofNat_Int, decide_true, decide_false, eq_self, Nat.reduceLeDiff, Int.reduceEq]
    rw [decide_eq_false (show ¬ lg < least by omega)]
    simp only [dSeq, dNext, dRet, dRetN, dIfS, dNever, dAsg, dSetO, dPar, dPar3, dAug, dDrop, dApp, dSetIx, dVar, dC, PD.d2, PD.d1, dCons, dNil, dStar, dTup, dLstN, dLst, dNew, dAnd, dOr, dNot, dIf, dB, bAnd, bOr, bNot, fAdd_ii, fAdd_tt, fAdd_ll, fSub_ii, fMul_ii, fDiv_ii, fMod_ii, fPow_ii, fNeg_i, fLt_ii, fLe_ii, fGt_ii, fGe_ii, fOpI_ii, dIs, dCall, dCallM, dCallMN, lCall, dIxO, dIsN, dNotN, fIsN_i, fIsN_n, fIsN_t, fNotN_i, fNotN_n, fNotN_t, dSl, dNo, dSome, fSl_l, fSl_t, dChain, dChain3, cLen_l, cLen_t, cInt_i, cInt_b, cAbs_i, cMax2_ii, cMin2_ii, cTuple_l, cTuple_t, cList_l, cList_t, gSet, gNilD, gConsD, gTupD, iSeq, PD.iZip, iR1, iR2, dComp, dFor, dSortedSet, dRg1, dRg2, fIx_l, fIx_t, fRev_l, fRev_t, dMove, dBreak, dCont, startD, startM, List.map_cons, List.map_nil, List.length_cons, List.length_nil, List.cons_append, List.nil_append, List.getElem?_cons_zero, List.getElem?_cons_succ, List.set_cons_zero, List.set_cons_succ, Option.some.injEq, Sl.dt.injEq, Sl.ow.injEq, PyData.int.injEq, PyData.bool.injEq, PyData.tuple.injEq, PyData.list.injEq, PyData.str.injEq, exists_eq_left, exists_eq_left', exists_eq_right, true_and, and_true, List.cons.injEq, Ob.lst.injEq, Nat.sub_zero, Nat.reduceAdd, Nat.reduceSub, List.replicate_succ, List.replicate_zero, if_true, if_false, Bool.false_eq_true, if_false, PyData.isInt, PyData.isBool, PyData.isStr, PyData.isTuple, PyData.isList, fEq_int, fNe_int, fEq_str, fNe_str, fEq_pair, fNe_pair, fNe_str1, fEq_nil, fNe_nil, atI_0, atI_1, atI_2, ixN_0, ixN_1, ixN_2, Bool.not_true, Bool.not_false, ite_true, ite_false, reduceCtorEq, ↓reduceIte, exists_and_left, exists_const, and_assoc, or_false, false_or, Nat.zero_le, Int.reduceAdd, Int.reduceNeg, Int.reduceSub, Int.reduceMul, Int.reduceLE, Int.reduceLT, Int.cast_ofNat_Int, decide_true, decide_false, eq_self, Nat.reduceLeDiff, Int.reduceEq]
    refine use_surely_left ⟨okf, most0, by omega, d0, by omega⟩ ?_
    refine use_surely_left ⟨okg, most0, by omega, d0, by omega⟩ ?_
    have w1 := narrow_lo hn day
    have w2 := narrow_hi hn day
    have w3 := left_le (fs := gs) (day := day)
    simp only [dSeq, dNext, dRet, dRetN, dIfS, dNever, dAsg, dSetO, dPar, dPar3, dAug, dDrop, dApp, dSetIx, dVar, dC, PD.d2, PD.d1, dCons, dNil, dStar, dTup, dLstN, dLst, dNew, dAnd, dOr, dNot, dIf, dB, bAnd, bOr, bNot, fAdd_ii, fAdd_tt, fAdd_ll, fSub_ii, fMul_ii, fDiv_ii, fMod_ii, fPow_ii, fNeg_i, fLt_ii, fLe_ii, fGt_ii, fGe_ii, fOpI_ii, dIs, dCall, dCallM, dCallMN, lCall, dIxO, dIsN, dNotN, fIsN_i, fIsN_n, fIsN_t, fNotN_i, fNotN_n, fNotN_t, dSl, dNo, dSome, fSl_l, fSl_t, dChain, dChain3, cLen_l, cLen_t, cInt_i, cInt_b, cAbs_i, cMax2_ii, cMin2_ii, cTuple_l, cTuple_t, cList_l, cList_t, gSet, gNilD, gConsD, gTupD, iSeq, PD.iZip, iR1, iR2, dComp, dFor, dSortedSet, dRg1, dRg2, fIx_l, fIx_t, fRev_l, fRev_t, dMove, dBreak, dCont, startD, startM, List.map_cons, List.map_nil, List.length_cons, List.length_nil, List.cons_append, List.nil_append, List.getElem?_cons_zero, List.getElem?_cons_succ, List.set_cons_zero, List.set_cons_succ, Option.some.injEq, Sl.dt.injEq, Sl.ow.injEq, PyData.int.injEq, PyData.bool.injEq, PyData.tuple.injEq, PyData.list.injEq, PyData.str.injEq, exists_eq_left, exists_eq_left', exists_eq_right, true_and, and_true, List.cons.injEq, Ob.lst.injEq, Nat.sub_zero, Nat.reduceAdd, Nat.reduceSub, List.replicate_succ, List.replicate_zero, if_true, if_false, Bool.false_eq_true, if_false, PyData.isInt, PyData.isBool, PyData.isStr, PyData.isTuple, PyData.isList, fEq_int, fNe_int, fEq_str, fNe_str, fEq_pair, fNe_pair, fNe_str1, fEq_nil, fNe_nil, atI_0, atI_1, atI_2, ixN_0, ixN_1, ixN_2, Bool.not_true, Bool.not_false, ite_true, ite_false, reduceCtorEq, ↓reduceIte, exists_and_left, exists_const, and_assoc, or_false, false_or, Nat.zero_le, Int.reduceAdd, Int.reduceNeg, Int.reduceSub, Int.reduceMul, Int.reduceLE, Int.reduceLT, Int.cast_ofNat_Int, decide_true, decide_false, eq_self, Nat.reduceLeDiff, Int.reduceEq]
    rw [decide_eq_true (show most + leftLo fs day ≤ most + leftLo gs day by omega)]
    simp only [dSeq, dNext, dRet, dRetN, dIfS, dNever, dAsg, dSetO, dPar, dPar3, dAug, dDrop, dApp, dSetIx, dVar, dC, PD.d2, PD.d1, dCons, dNil, dStar, dTup, dLstN, dLst, dNew, dAnd, dOr, dNot, dIf, dB, bAnd, bOr, bNot, fAdd_ii, fAdd_tt, fAdd_ll, fSub_ii, fMul_ii, fDiv_ii, fMod_ii, fPow_ii, fNeg_i, fLt_ii, fLe_ii, fGt_ii, fGe_ii, fOpI_ii, dIs, dCall, dCallM, dCallMN, lCall, dIxO, dIsN, dNotN, fIsN_i, fIsN_n, fIsN_t, fNotN_i, fNotN_n, fNotN_t, dSl, dNo, dSome, fSl_l, fSl_t, dChain, dChain3, cLen_l, cLen_t, cInt_i, cInt_b, cAbs_i, cMax2_ii, cMin2_ii, cTuple_l, cTuple_t, cList_l, cList_t, gSet, gNilD, gConsD, gTupD, iSeq, PD.iZip, iR1, iR2, dComp, dFor, dSortedSet, dRg1, dRg2, fIx_l, fIx_t, fRev_l, fRev_t, dMove, dBreak, dCont, startD, startM, List.map_cons, List.map_nil, List.length_cons, List.length_nil, List.cons_append, List.nil_append, List.getElem?_cons_zero, List.getElem?_cons_succ, List.set_cons_zero, List.set_cons_succ, Option.some.injEq, Sl.dt.injEq, Sl.ow.injEq, PyData.int.injEq, PyData.bool.injEq, PyData.tuple.injEq, PyData.list.injEq, PyData.str.injEq, exists_eq_left, exists_eq_left', exists_eq_right, true_and, and_true, List.cons.injEq, Ob.lst.injEq, Nat.sub_zero, Nat.reduceAdd, Nat.reduceSub, List.replicate_succ, List.replicate_zero, if_true, if_false, Bool.false_eq_true, if_false, PyData.isInt, PyData.isBool, PyData.isStr, PyData.isTuple, PyData.isList, fEq_int, fNe_int, fEq_str, fNe_str, fEq_pair, fNe_pair, fNe_str1, fEq_nil, fNe_nil, atI_0, atI_1, atI_2, ixN_0, ixN_1, ixN_2, Bool.not_true, Bool.not_false, ite_true, ite_false, reduceCtorEq, ↓reduceIte, exists_and_left, exists_const, and_assoc, or_false, false_or, Nat.zero_le, Int.reduceAdd, Int.reduceNeg, Int.reduceSub, Int.reduceMul, Int.reduceLE, Int.reduceLT, Int.cast_ofNat_Int, decide_true, decide_false, eq_self, Nat.reduceLeDiff, Int.reduceEq]
    rw [decide_eq_true (show most + leftLo gs day ≤ most + leftHi gs day by omega)]
    simp only [dSeq, dNext, dRet, dRetN, dIfS, dNever, dAsg, dSetO, dPar, dPar3, dAug, dDrop, dApp, dSetIx, dVar, dC, PD.d2, PD.d1, dCons, dNil, dStar, dTup, dLstN, dLst, dNew, dAnd, dOr, dNot, dIf, dB, bAnd, bOr, bNot, fAdd_ii, fAdd_tt, fAdd_ll, fSub_ii, fMul_ii, fDiv_ii, fMod_ii, fPow_ii, fNeg_i, fLt_ii, fLe_ii, fGt_ii, fGe_ii, fOpI_ii, dIs, dCall, dCallM, dCallMN, lCall, dIxO, dIsN, dNotN, fIsN_i, fIsN_n, fIsN_t, fNotN_i, fNotN_n, fNotN_t, dSl, dNo, dSome, fSl_l, fSl_t, dChain, dChain3, cLen_l, cLen_t, cInt_i, cInt_b, cAbs_i, cMax2_ii, cMin2_ii, cTuple_l, cTuple_t, cList_l, cList_t, gSet, gNilD, gConsD, gTupD, iSeq, PD.iZip, iR1, iR2, dComp, dFor, dSortedSet, dRg1, dRg2, fIx_l, fIx_t, fRev_l, fRev_t, dMove, dBreak, dCont, startD, startM, List.map_cons, List.map_nil, List.length_cons, List.length_nil, List.cons_append, List.nil_append, List.getElem?_cons_zero, List.getElem?_cons_succ, List.set_cons_zero, List.set_cons_succ, Option.some.injEq, Sl.dt.injEq, Sl.ow.injEq, PyData.int.injEq, PyData.bool.injEq, PyData.tuple.injEq, PyData.list.injEq, PyData.str.injEq, exists_eq_left, exists_eq_left', exists_eq_right, true_and, and_true, List.cons.injEq, Ob.lst.injEq, Nat.sub_zero, Nat.reduceAdd, Nat.reduceSub, List.replicate_succ, List.replicate_zero, if_true, if_false, Bool.false_eq_true, if_false, PyData.isInt, PyData.isBool, PyData.isStr, PyData.isTuple, PyData.isList, fEq_int, fNe_int, fEq_str, fNe_str, fEq_pair, fNe_pair, fNe_str1, fEq_nil, fNe_nil, atI_0, atI_1, atI_2, ixN_0, ixN_1, ixN_2, Bool.not_true, Bool.not_false, ite_true, ite_false, reduceCtorEq, ↓reduceIte, exists_and_left, exists_const, and_assoc, or_false, false_or, Nat.zero_le, Int.reduceAdd, Int.reduceNeg, Int.reduceSub, Int.reduceMul, Int.reduceLE, Int.reduceLT, Int.cast_ofNat_Int, decide_true, decide_false, eq_self, Nat.reduceLeDiff, Int.reduceEq]
    rw [decide_eq_true (show most + leftHi gs day ≤ most + leftHi fs day by omega)]
    simp only [dSeq, dNext, dRet, dRetN, dIfS, dNever, dAsg, dSetO, dPar, dPar3, dAug, dDrop, dApp, dSetIx, dVar, dC, PD.d2, PD.d1, dCons, dNil, dStar, dTup, dLstN, dLst, dNew, dAnd, dOr, dNot, dIf, dB, bAnd, bOr, bNot, fAdd_ii, fAdd_tt, fAdd_ll, fSub_ii, fMul_ii, fDiv_ii, fMod_ii, fPow_ii, fNeg_i, fLt_ii, fLe_ii, fGt_ii, fGe_ii, fOpI_ii, dIs, dCall, dCallM, dCallMN, lCall, dIxO, dIsN, dNotN, fIsN_i, fIsN_n, fIsN_t, fNotN_i, fNotN_n, fNotN_t, dSl, dNo, dSome, fSl_l, fSl_t, dChain, dChain3, cLen_l, cLen_t, cInt_i, cInt_b, cAbs_i, cMax2_ii, cMin2_ii, cTuple_l, cTuple_t, cList_l, cList_t, gSet, gNilD, gConsD, gTupD, iSeq, PD.iZip, iR1, iR2, dComp, dFor, dSortedSet, dRg1, dRg2, fIx_l, fIx_t, fRev_l, fRev_t, dMove, dBreak, dCont, startD, startM, List.map_cons, List.map_nil, List.length_cons, List.length_nil, List.cons_append, List.nil_append, List.getElem?_cons_zero, List.getElem?_cons_succ, List.set_cons_zero, List.set_cons_succ, Option.some.injEq, Sl.dt.injEq, Sl.ow.injEq, PyData.int.injEq, PyData.bool.injEq, PyData.tuple.injEq, PyData.list.injEq, PyData.str.injEq, exists_eq_left, exists_eq_left', exists_eq_right, true_and, and_true, List.cons.injEq, Ob.lst.injEq, Nat.sub_zero, Nat.reduceAdd, Nat.reduceSub, List.replicate_succ, List.replicate_zero, if_true, if_false, Bool.false_eq_true, if_false, PyData.isInt, PyData.isBool, PyData.isStr, PyData.isTuple, PyData.isList, fEq_int, fNe_int, fEq_str, fNe_str, fEq_pair, fNe_pair, fNe_str1, fEq_nil, fNe_nil, atI_0, atI_1, atI_2, ixN_0, ixN_1, ixN_2, Bool.not_true, Bool.not_false, ite_true, ite_false, reduceCtorEq, ↓reduceIte, exists_and_left, exists_const, and_assoc, or_false, false_or, Nat.zero_le, Int.reduceAdd, Int.reduceNeg, Int.reduceSub, Int.reduceMul, Int.reduceLE, Int.reduceLT, Int.cast_ofNat_Int, decide_true, decide_false, eq_self, Nat.reduceLeDiff, Int.reduceEq, List.length_map]
    refine ⟨by omega, ?_⟩
    refine comp_inv encF (fun rest ys e => ∃ (m4 : Ob) (pr : List Fl) (ds : List Int), (∃ s15 s16 s17 : Sl, e = [.ow false p m4, .dt (.int a), .dt (encFs fs), .dt (.int most), .dt (.int least), .dt (encFs (fs.map later)), .dt (encFs gs), .dt (.int day), .dt (.tuple [.int (most + leftLo fs day), .int (most + leftHi fs day)]), .dt (.tuple [.int (most + leftLo gs day), .int (most + leftHi gs day)]), s10, s11, s12, s13, s14, s15, s16, s17, .no, .no]) ∧ fs = pr ++ rest ∧ ys = ds.map PyData.int ∧ CrsOk pr ds ∧ Pot (1000 * r.length + 600 + rest.length) m4) fs rfl ⟨m3, [], [], ⟨_, _, _, rfl⟩, rfl, rfl, ⟨rfl, by simp⟩, hp3.mono (by omega)⟩ (fun f rr ys e ⟨m4, pr, ds, ⟨s15, s16, s17, he⟩, hf, hy, hc, hp4⟩ K K0 hK hK0 => ?_) fun ys e ⟨m4, pr, ds, ⟨s15, s16, s17, he⟩, hf, hy, hc, hp4⟩ => ?_
    · subst he
      subst hy
      rw [List.length_cons] at hp4
      obtain ⟨f1, f2, f3, f4, f5, f6, f7⟩ := hd f (by rw [hf]; simp)
      simp only [restD_c, restD_n, keepD_d, keepD_n, keepD_o, wipeD_c, wipeD_n, List.getElem?_cons_zero, List.getElem?_cons_succ, List.set_cons_zero, List.set_cons_succ, dSeq, dNext, dRet, dRetN, dIfS, dNever, dAsg, dSetO, dPar, dPar3, dAug, dDrop, dApp, dSetIx, dVar, dC, PD.d2, PD.d1, dCons, dNil, dStar, dTup, dLstN, dLst, dNew, dAnd, dOr, dNot, dIf, dB, bAnd, bOr, bNot, fAdd_ii, fAdd_tt, fAdd_ll, fSub_ii, fMul_ii, fDiv_ii, fMod_ii, fPow_ii, fNeg_i, fLt_ii, fLe_ii, fGt_ii, fGe_ii, fOpI_ii, dIs, dCall, dCallM, dCallMN, lCall, dIxO, dIsN, dNotN, fIsN_i, fIsN_n, fIsN_t, fNotN_i, fNotN_n, fNotN_t, dSl, dNo, dSome, fSl_l, fSl_t, dChain, dChain3, cLen_l, cLen_t, cInt_i, cInt_b, cAbs_i, cMax2_ii, cMin2_ii, cTuple_l, cTuple_t, cList_l, cList_t, gSet, gNilD, gConsD, gTupD, iSeq, PD.iZip, iR1, iR2, dComp, dFor, dSortedSet, dRg1, dRg2, fIx_l, fIx_t, fRev_l, fRev_t, dMove, dBreak, dCont, startD, startM, List.map_cons, List.map_nil, List.length_cons, List.length_nil, List.cons_append, List.nil_append, List.getElem?_cons_zero, List.getElem?_cons_succ, List.set_cons_zero, List.set_cons_succ, Option.some.injEq, Sl.dt.injEq, Sl.ow.injEq, PyData.int.injEq, PyData.bool.injEq, PyData.tuple.injEq, PyData.list.injEq, PyData.str.injEq, exists_eq_left, exists_eq_left', exists_eq_right, true_and, and_true, List.cons.injEq, Ob.lst.injEq, Nat.sub_zero, Nat.reduceAdd, Nat.reduceSub, List.replicate_succ, List.replicate_zero, if_true, if_false, Bool.false_eq_true, if_false, PyData.isInt, PyData.isBool, PyData.isStr, PyData.isTuple, PyData.isList, fEq_int, fNe_int, fEq_str, fNe_str, fEq_pair, fNe_pair, fNe_str1, fEq_nil, fNe_nil, atI_0, atI_1, atI_2, ixN_0, ixN_1, ixN_2, Bool.not_true, Bool.not_false, ite_true, ite_false, reduceCtorEq, ↓reduceIte, exists_and_left, exists_const, and_assoc, or_false, false_or, Nat.zero_le, Int.reduceAdd, Int.reduceNeg, Int.reduceSub, Int.reduceMul, Int.reduceLE, Int.reduceLT, Int.cast_ofNat_Int, decide_true, decide_false, eq_self, Nat.reduceLeDiff, Int.reduceEq, encF, dYes]
      refine use_law_take (k := 1000 * r.length + 600 + rr.length) ⟨hp4, by omega, by omega⟩ ?_
      rintro _ m5 ⟨a1, a10, a11, rfl, hp5⟩
      simp only [dSeq, dNext, dRet, dRetN, dIfS, dNever, dAsg, dSetO, dPar, dPar3, dAug, dDrop, dApp, dSetIx, dVar, dC, PD.d2, PD.d1, dCons, dNil, dStar, dTup, dLstN, dLst, dNew, dAnd, dOr, dNot, dIf, dB, bAnd, bOr, bNot, fAdd_ii, fAdd_tt, fAdd_ll, fSub_ii, fMul_ii, fDiv_ii, fMod_ii, fPow_ii, fNeg_i, fLt_ii, fLe_ii, fGt_ii, fGe_ii, fOpI_ii, dIs, dCall, dCallM, dCallMN, lCall, dIxO, dIsN, dNotN, fIsN_i, fIsN_n, fIsN_t, fNotN_i, fNotN_n, fNotN_t, dSl, dNo, dSome, fSl_l, fSl_t, dChain, dChain3, cLen_l, cLen_t, cInt_i, cInt_b, cAbs_i, cMax2_ii, cMin2_ii, cTuple_l, cTuple_t, cList_l, cList_t, gSet, gNilD, gConsD, gTupD, iSeq, PD.iZip, iR1, iR2, dComp, dFor, dSortedSet, dRg1, dRg2, fIx_l, fIx_t, fRev_l, fRev_t, dMove, dBreak, dCont, startD, startM, List.map_cons, List.map_nil, List.length_cons, List.length_nil, List.cons_append, List.nil_append, List.getElem?_cons_zero, List.getElem?_cons_succ, List.set_cons_zero, List.set_cons_succ, Option.some.injEq, Sl.dt.injEq, Sl.ow.injEq, PyData.int.injEq, PyData.bool.injEq, PyData.tuple.injEq, PyData.list.injEq, PyData.str.injEq, exists_eq_left, exists_eq_left', exists_eq_right, true_and, and_true, List.cons.injEq, Ob.lst.injEq, Nat.sub_zero, Nat.reduceAdd, Nat.reduceSub, List.replicate_succ, List.replicate_zero, if_true, if_false, Bool.false_eq_true, if_false, PyData.isInt, PyData.isBool, PyData.isStr, PyData.isTuple, PyData.isList, fEq_int, fNe_int, fEq_str, fNe_str, fEq_pair, fNe_pair, fNe_str1, fEq_nil, fNe_nil, atI_0, atI_1, atI_2, ixN_0, ixN_1, ixN_2, Bool.not_true, Bool.not_false, ite_true, ite_false, reduceCtorEq, ↓reduceIte, exists_and_left, exists_const, and_assoc, or_false, false_or, Nat.zero_le, Int.reduceAdd, Int.reduceNeg, Int.reduceSub, Int.reduceMul, Int.reduceLE, Int.reduceLT, Int.cast_ofNat_Int, decide_true, decide_false, eq_self, Nat.reduceLeDiff, Int.reduceEq]
      refine hK _ _ ⟨m5, pr ++ [f], ds ++ [f.1 + a1], ⟨_, _, _, rfl⟩, by rw [List.append_assoc]; exact hf, by rw [List.map_append]; rfl, ⟨by rw [List.length_append, List.length_append, hc.1]; rfl, fun z hz => ?_⟩, hp5⟩
      rw [List.zip_append hc.1.symm] at hz
      rcases List.mem_append.mp hz with h | h
      · exact hc.2 z h
      · rw [List.mem_singleton.mp h]
        exact ⟨by simp only; omega, by simp only; omega⟩
    subst he
    subst hy
    rw [List.append_nil] at hf
    subst hf
    simp only [restD_c, restD_n, keepD_d, keepD_n, keepD_o, wipeD_c, wipeD_n, List.getElem?_cons_zero, List.getElem?_cons_succ, List.set_cons_zero, List.set_cons_succ, dSeq, dNext, dRet, dRetN, dIfS, dNever, dAsg, dSetO, dPar, dPar3, dAug, dDrop, dApp, dSetIx, dVar, dC, PD.d2, PD.d1, dCons, dNil, dStar, dTup, dLstN, dLst, dNew, dAnd, dOr, dNot, dIf, dB, bAnd, bOr, bNot, fAdd_ii, fAdd_tt, fAdd_ll, fSub_ii, fMul_ii, fDiv_ii, fMod_ii, fPow_ii, fNeg_i, fLt_ii, fLe_ii, fGt_ii, fGe_ii, fOpI_ii, dIs, dCall, dCallM, dCallMN, lCall, dIxO, dIsN, dNotN, fIsN_i, fIsN_n, fIsN_t, fNotN_i, fNotN_n, fNotN_t, dSl, dNo, dSome, fSl_l, fSl_t, dChain, dChain3, cLen_l, cLen_t, cInt_i, cInt_b, cAbs_i, cMax2_ii, cMin2_ii, cTuple_l, cTuple_t, cList_l, cList_t, gSet, gNilD, gConsD, gTupD, iSeq, PD.iZip, iR1, iR2, dComp, dFor, dSortedSet, dRg1, dRg2, fIx_l, fIx_t, fRev_l, fRev_t, dMove, dBreak, dCont, startD, startM, List.map_cons, List.map_nil, List.length_cons, List.length_nil, List.cons_append, List.nil_append, List.getElem?_cons_zero, List.getElem?_cons_succ, List.set_cons_zero, List.set_cons_succ, Option.some.injEq, Sl.dt.injEq, Sl.ow.injEq, PyData.int.injEq, PyData.bool.injEq, PyData.tuple.injEq, PyData.list.injEq, PyData.str.injEq, exists_eq_left, exists_eq_left', exists_eq_right, true_and, and_true, List.cons.injEq, Ob.lst.injEq, Nat.sub_zero, Nat.reduceAdd, Nat.reduceSub, List.replicate_succ, List.replicate_zero, if_true, if_false, Bool.false_eq_true, if_false, PyData.isInt, PyData.isBool, PyData.isStr, PyData.isTuple, PyData.isList, fEq_int, fNe_int, fEq_str, fNe_str, fEq_pair, fNe_pair, fNe_str1, fEq_nil, fNe_nil, atI_0, atI_1, atI_2, ixN_0, ixN_1, ixN_2, Bool.not_true, Bool.not_false, ite_true, ite_false, reduceCtorEq, ↓reduceIte, exists_and_left, exists_const, and_assoc, or_false, false_or, Nat.zero_le, Int.reduceAdd, Int.reduceNeg, Int.reduceSub, Int.reduceMul, Int.reduceLE, Int.reduceLT, Int.cast_ofNat_Int, decide_true, decide_false, eq_self, Nat.reduceLeDiff, Int.reduceEq]
    have nl := hc.1
    refine ⟨by unfold zipD; rw [List.length_zipWith, List.length_map]; omega, ?_⟩
    rw [zip_map]
    refine comp_all (fun z : Int × Fl => PyData.tuple [.int z.1, encF z.2]) (fun z => encF (sureOf z)) (ds.zip fs) rfl (fun z hz K hK => ?_) fun e3 he3 => ?_
    · simp only [restD_c, restD_n, keepD_d, keepD_n, keepD_o, wipeD_c, wipeD_n, List.getElem?_cons_zero, List.getElem?_cons_succ, List.set_cons_zero, List.set_cons_succ, dSeq, dNext, dRet, dRetN, dIfS, dNever, dAsg, dSetO, dPar, dPar3, dAug, dDrop, dApp, dSetIx, dVar, dC, PD.d2, PD.d1, dCons, dNil, dStar, dTup, dLstN, dLst, dNew, dAnd, dOr, dNot, dIf, dB, bAnd, bOr, bNot, fAdd_ii, fAdd_tt, fAdd_ll, fSub_ii, fMul_ii, fDiv_ii, fMod_ii, fPow_ii, fNeg_i, fLt_ii, fLe_ii, fGt_ii, fGe_ii, fOpI_ii, dIs, dCall, dCallM, dCallMN, lCall, dIxO, dIsN, dNotN, fIsN_i, fIsN_n, fIsN_t, fNotN_i, fNotN_n, fNotN_t, dSl, dNo, dSome, fSl_l, fSl_t, dChain, dChain3, cLen_l, cLen_t, cInt_i, cInt_b, cAbs_i, cMax2_ii, cMin2_ii, cTuple_l, cTuple_t, cList_l, cList_t, gSet, gNilD, gConsD, gTupD, iSeq, PD.iZip, iR1, iR2, dComp, dFor, dSortedSet, dRg1, dRg2, fIx_l, fIx_t, fRev_l, fRev_t, dMove, dBreak, dCont, startD, startM, List.map_cons, List.map_nil, List.length_cons, List.length_nil, List.cons_append, List.nil_append, List.getElem?_cons_zero, List.getElem?_cons_succ, List.set_cons_zero, List.set_cons_succ, Option.some.injEq, Sl.dt.injEq, Sl.ow.injEq, PyData.int.injEq, PyData.bool.injEq, PyData.tuple.injEq, PyData.list.injEq, PyData.str.injEq, exists_eq_left, exists_eq_left', exists_eq_right, true_and, and_true, List.cons.injEq, Ob.lst.injEq, Nat.sub_zero, Nat.reduceAdd, Nat.reduceSub, List.replicate_succ, List.replicate_zero, if_true, if_false, Bool.false_eq_true, if_false, PyData.isInt, PyData.isBool, PyData.isStr, PyData.isTuple, PyData.isList, fEq_int, fNe_int, fEq_str, fNe_str, fEq_pair, fNe_pair, fNe_str1, fEq_nil, fNe_nil, atI_0, atI_1, atI_2, ixN_0, ixN_1, ixN_2, Bool.not_true, Bool.not_false, ite_true, ite_false, reduceCtorEq, ↓reduceIte, exists_and_left, exists_const, and_assoc, or_false, false_or, Nat.zero_le, Int.reduceAdd, Int.reduceNeg, Int.reduceSub, Int.reduceMul, Int.reduceLE, Int.reduceLT, Int.cast_ofNat_Int, decide_true, decide_false, eq_self, Nat.reduceLeDiff, Int.reduceEq, encF]
      exact hK _ rfl
    rw [he3]
    simp only [restD_c, restD_n, keepD_d, keepD_n, keepD_o, wipeD_c, wipeD_n, List.getElem?_cons_zero, List.getElem?_cons_succ, List.set_cons_zero, List.set_cons_succ, dSeq, dNext, dRet, dRetN, dIfS, dNever, dAsg, dSetO, dPar, dPar3, dAug, dDrop, dApp, dSetIx, dVar, dC, PD.d2, PD.d1, dCons, dNil, dStar, dTup, dLstN, dLst, dNew, dAnd, dOr, dNot, dIf, dB, bAnd, bOr, bNot, fAdd_ii, fAdd_tt, fAdd_ll, fSub_ii, fMul_ii, fDiv_ii, fMod_ii, fPow_ii, fNeg_i, fLt_ii, fLe_ii, fGt_ii, fGe_ii, fOpI_ii, dIs, dCall, dCallM, dCallMN, lCall, dIxO, dIsN, dNotN, fIsN_i, fIsN_n, fIsN_t, fNotN_i, fNotN_n, fNotN_t, dSl, dNo, dSome, fSl_l, fSl_t, dChain, dChain3, cLen_l, cLen_t, cInt_i, cInt_b, cAbs_i, cMax2_ii, cMin2_ii, cTuple_l, cTuple_t, cList_l, cList_t, gSet, gNilD, gConsD, gTupD, iSeq, PD.iZip, iR1, iR2, dComp, dFor, dSortedSet, dRg1, dRg2, fIx_l, fIx_t, fRev_l, fRev_t, dMove, dBreak, dCont, startD, startM, List.map_cons, List.map_nil, List.length_cons, List.length_nil, List.cons_append, List.nil_append, List.getElem?_cons_zero, List.getElem?_cons_succ, List.set_cons_zero, List.set_cons_succ, Option.some.injEq, Sl.dt.injEq, Sl.ow.injEq, PyData.int.injEq, PyData.bool.injEq, PyData.tuple.injEq, PyData.list.injEq, PyData.str.injEq, exists_eq_left, exists_eq_left', exists_eq_right, true_and, and_true, List.cons.injEq, Ob.lst.injEq, Nat.sub_zero, Nat.reduceAdd, Nat.reduceSub, List.replicate_succ, List.replicate_zero, if_true, if_false, Bool.false_eq_true, if_false, PyData.isInt, PyData.isBool, PyData.isStr, PyData.isTuple, PyData.isList, fEq_int, fNe_int, fEq_str, fNe_str, fEq_pair, fNe_pair, fNe_str1, fEq_nil, fNe_nil, atI_0, atI_1, atI_2, ixN_0, ixN_1, ixN_2, Bool.not_true, Bool.not_false, ite_true, ite_false, reduceCtorEq, ↓reduceIte, exists_and_left, exists_const, and_assoc, or_false, false_or, Nat.zero_le, Int.reduceAdd, Int.reduceNeg, Int.reduceSub, Int.reduceMul, Int.reduceLE, Int.reduceLT, Int.cast_ofNat_Int, decide_true, decide_false, eq_self, Nat.reduceLeDiff, Int.reduceEq]
    have e5 : PyData.tuple ((ds.zip fs).map fun z => encF (sureOf z)) = encFs ((ds.zip fs).map sureOf) := by
      show _ = PyData.tuple _
      rw [List.map_map]
      rfl
    rw [e5]
    refine use_lows_of ⟨okf, hc, by decide, by decide⟩ ?_
    rintro _ ⟨ts, hts, hkt, rfl⟩
    have lt : ts.length ≤ ds.length := nodup_le (hts.imp fun h => Int.ne_of_lt h) fun k hk' => (hkt k).mp hk'
    refine ⟨_, .inr rfl, by rw [List.length_map]; omega, ?_⟩
    refine comp_all (fun t : Int => .tuple [.int t, .int (0 + lowAt fs ds t)]) (fun t => .int (0 + lowAt fs ds t)) ts rfl (fun t _ K hK => ?_) fun e4 he4 => ?_
    · simp only [restD_c, restD_n, keepD_d, keepD_n, keepD_o, wipeD_c, wipeD_n, List.getElem?_cons_zero, List.getElem?_cons_succ, List.set_cons_zero, List.set_cons_succ, dSeq, dNext, dRet, dRetN, dIfS, dNever, dAsg, dSetO, dPar, dPar3, dAug, dDrop, dApp, dSetIx, dVar, dC, PD.d2, PD.d1, dCons, dNil, dStar, dTup, dLstN, dLst, dNew, dAnd, dOr, dNot, dIf, dB, bAnd, bOr, bNot, fAdd_ii, fAdd_tt, fAdd_ll, fSub_ii, fMul_ii, fDiv_ii, fMod_ii, fPow_ii, fNeg_i, fLt_ii, fLe_ii, fGt_ii, fGe_ii, fOpI_ii, dIs, dCall, dCallM, dCallMN, lCall, dIxO, dIsN, dNotN, fIsN_i, fIsN_n, fIsN_t, fNotN_i, fNotN_n, fNotN_t, dSl, dNo, dSome, fSl_l, fSl_t, dChain, dChain3, cLen_l, cLen_t, cInt_i, cInt_b, cAbs_i, cMax2_ii, cMin2_ii, cTuple_l, cTuple_t, cList_l, cList_t, gSet, gNilD, gConsD, gTupD, iSeq, PD.iZip, iR1, iR2, dComp, dFor, dSortedSet, dRg1, dRg2, fIx_l, fIx_t, fRev_l, fRev_t, dMove, dBreak, dCont, startD, startM, List.map_cons, List.map_nil, List.length_cons, List.length_nil, List.cons_append, List.nil_append, List.getElem?_cons_zero, List.getElem?_cons_succ, List.set_cons_zero, List.set_cons_succ, Option.some.injEq, Sl.dt.injEq, Sl.ow.injEq, PyData.int.injEq, PyData.bool.injEq, PyData.tuple.injEq, PyData.list.injEq, PyData.str.injEq, exists_eq_left, exists_eq_left', exists_eq_right, true_and, and_true, List.cons.injEq, Ob.lst.injEq, Nat.sub_zero, Nat.reduceAdd, Nat.reduceSub, List.replicate_succ, List.replicate_zero, if_true, if_false, Bool.false_eq_true, if_false, PyData.isInt, PyData.isBool, PyData.isStr, PyData.isTuple, PyData.isList, fEq_int, fNe_int, fEq_str, fNe_str, fEq_pair, fNe_pair, fNe_str1, fEq_nil, fNe_nil, atI_0, atI_1, atI_2, ixN_0, ixN_1, ixN_2, Bool.not_true, Bool.not_false, ite_true, ite_false, reduceCtorEq, ↓reduceIte, exists_and_left, exists_const, and_assoc, or_false, false_or, Nat.zero_le, Int.reduceAdd, Int.reduceNeg, Int.reduceSub, Int.reduceMul, Int.reduceLE, Int.reduceLT, Int.cast_ofNat_Int, decide_true, decide_false, eq_self, Nat.reduceLeDiff, Int.reduceEq]
      exact hK _ rfl
    rw [he4]
    simp only [restD_c, restD_n, keepD_d, keepD_n, keepD_o, wipeD_c, wipeD_n, List.getElem?_cons_zero, List.getElem?_cons_succ, List.set_cons_zero, List.set_cons_succ, dSeq, dNext, dRet, dRetN, dIfS, dNever, dAsg, dSetO, dPar, dPar3, dAug, dDrop, dApp, dSetIx, dVar, dC, PD.d2, PD.d1, dCons, dNil, dStar, dTup, dLstN, dLst, dNew, dAnd, dOr, dNot, dIf, dB, bAnd, bOr, bNot, fAdd_ii, fAdd_tt, fAdd_ll, fSub_ii, fMul_ii, fDiv_ii, fMod_ii, fPow_ii, fNeg_i, fLt_ii, fLe_ii, fGt_ii, fGe_ii, fOpI_ii, dIs, dCall, dCallM, dCallMN, lCall, dIxO, dIsN, dNotN, fIsN_i, fIsN_n, fIsN_t, fNotN_i, fNotN_n, fNotN_t, dSl, dNo, dSome, fSl_l, fSl_t, dChain, dChain3, cLen_l, cLen_t, cInt_i, cInt_b, cAbs_i, cMax2_ii, cMin2_ii, cTuple_l, cTuple_t, cList_l, cList_t, gSet, gNilD, gConsD, gTupD, iSeq, PD.iZip, iR1, iR2, dComp, dFor, dSortedSet, dRg1, dRg2, fIx_l, fIx_t, fRev_l, fRev_t, dMove, dBreak, dCont, startD, startM, List.map_cons, List.map_nil, List.length_cons, List.length_nil, List.cons_append, List.nil_append, List.getElem?_cons_zero, List.getElem?_cons_succ, List.set_cons_zero, List.set_cons_succ, Option.some.injEq, Sl.dt.injEq, Sl.ow.injEq, PyData.int.injEq, PyData.bool.injEq, PyData.tuple.injEq, PyData.list.injEq, PyData.str.injEq, exists_eq_left, exists_eq_left', exists_eq_right, true_and, and_true, List.cons.injEq, Ob.lst.injEq, Nat.sub_zero, Nat.reduceAdd, Nat.reduceSub, List.replicate_succ, List.replicate_zero, if_true, if_false, Bool.false_eq_true, if_false, PyData.isInt, PyData.isBool, PyData.isStr, PyData.isTuple, PyData.isList, fEq_int, fNe_int, fEq_str, fNe_str, fEq_pair, fNe_pair, fNe_str1, fEq_nil, fNe_nil, atI_0, atI_1, atI_2, ixN_0, ixN_1, ixN_2, Bool.not_true, Bool.not_false, ite_true, ite_false, reduceCtorEq, ↓reduceIte, exists_and_left, exists_const, and_assoc, or_false, false_or, Nat.zero_le, Int.reduceAdd, Int.reduceNeg, Int.reduceSub, Int.reduceMul, Int.reduceLE, Int.reduceLT, Int.cast_ofNat_Int, decide_true, decide_false, eq_self, Nat.reduceLeDiff, Int.reduceEq, List.length_map]
    refine ⟨by omega, ?_⟩
    have e6 : PyData.list (.int 0 :: ts.map fun t => PyData.int (0 + lowAt fs ds t)) = .list ((0 :: ts.map fun t => 0 + lowAt fs ds t).map PyData.int) := by rw [List.map_cons, List.map_map]; rfl
    rw [e6]
    refine min_ints (List.cons_ne_nil _ _) fun low hlow hmin => ?_
    have isl : IsLow fs ds low := by
      have l0 : low ≤ 0 := hmin 0 (List.mem_cons_self ..)
      refine ⟨l0, low_lists l0 fun t ht => ?_, ?_⟩
      · have := hmin (0 + lowAt fs ds t) (List.mem_cons_of_mem _ (List.mem_map.mpr ⟨t, (hkt t).mpr ht, rfl⟩))
        omega
      · rcases List.mem_cons.mp hlow with h | h
        · exact .inl h
        · obtain ⟨t, _, e⟩ := List.mem_map.mp h
          exact .inr ⟨t, by omega⟩
    have low1 : -most ≤ low := low_mono (fun t => ⟨t, crs_worst hc t⟩) hM isl
    have low2 : low ≤ -least := low_mono (fun t => ⟨t, crs_best hc t⟩) isl hL
    simp only [restD_c, restD_n, keepD_d, keepD_n, keepD_o, wipeD_c, wipeD_n, List.getElem?_cons_zero, List.getElem?_cons_succ, List.set_cons_zero, List.set_cons_succ, dSeq, dNext, dRet, dRetN, dIfS, dNever, dAsg, dSetO, dPar, dPar3, dAug, dDrop, dApp, dSetIx, dVar, dC, PD.d2, PD.d1, dCons, dNil, dStar, dTup, dLstN, dLst, dNew, dAnd, dOr, dNot, dIf, dB, bAnd, bOr, bNot, fAdd_ii, fAdd_tt, fAdd_ll, fSub_ii, fMul_ii, fDiv_ii, fMod_ii, fPow_ii, fNeg_i, fLt_ii, fLe_ii, fGt_ii, fGe_ii, fOpI_ii, dIs, dCall, dCallM, dCallMN, lCall, dIxO, dIsN, dNotN, fIsN_i, fIsN_n, fIsN_t, fNotN_i, fNotN_n, fNotN_t, dSl, dNo, dSome, fSl_l, fSl_t, dChain, dChain3, cLen_l, cLen_t, cInt_i, cInt_b, cAbs_i, cMax2_ii, cMin2_ii, cTuple_l, cTuple_t, cList_l, cList_t, gSet, gNilD, gConsD, gTupD, iSeq, PD.iZip, iR1, iR2, dComp, dFor, dSortedSet, dRg1, dRg2, fIx_l, fIx_t, fRev_l, fRev_t, dMove, dBreak, dCont, startD, startM, List.map_cons, List.map_nil, List.length_cons, List.length_nil, List.cons_append, List.nil_append, List.getElem?_cons_zero, List.getElem?_cons_succ, List.set_cons_zero, List.set_cons_succ, Option.some.injEq, Sl.dt.injEq, Sl.ow.injEq, PyData.int.injEq, PyData.bool.injEq, PyData.tuple.injEq, PyData.list.injEq, PyData.str.injEq, exists_eq_left, exists_eq_left', exists_eq_right, true_and, and_true, List.cons.injEq, Ob.lst.injEq, Nat.sub_zero, Nat.reduceAdd, Nat.reduceSub, List.replicate_succ, List.replicate_zero, if_true, if_false, Bool.false_eq_true, if_false, PyData.isInt, PyData.isBool, PyData.isStr, PyData.isTuple, PyData.isList, fEq_int, fNe_int, fEq_str, fNe_str, fEq_pair, fNe_pair, fNe_str1, fEq_nil, fNe_nil, atI_0, atI_1, atI_2, ixN_0, ixN_1, ixN_2, Bool.not_true, Bool.not_false, ite_true, ite_false, reduceCtorEq, ↓reduceIte, exists_and_left, exists_const, and_assoc, or_false, false_or, Nat.zero_le, Int.reduceAdd, Int.reduceNeg, Int.reduceSub, Int.reduceMul, Int.reduceLE, Int.reduceLT, Int.cast_ofNat_Int, decide_true, decide_false, eq_self, Nat.reduceLeDiff, Int.reduceEq]
    have oks : FlsOk ((ds.zip fs).map sureOf) := ⟨by rw [List.length_map, List.length_zip]; omega, fun f hf => by
      obtain ⟨z, hz, rfl⟩ := List.mem_map.mp hf
      have hz' : (z.2, z.1) ∈ fs.zip ds := by
        obtain ⟨i, hi, e⟩ := List.getElem_of_mem hz
        rw [List.getElem_zip] at e
        subst e
        rw [List.length_zip] at hi
        exact List.mem_iff_getElem.mpr ⟨i, by rw [List.length_zip]; omega, List.getElem_zip⟩
      obtain ⟨z1, z2⟩ := hc.2 _ hz'
      obtain ⟨g1, g2, g3, g4, g5, g6, g7⟩ := hd z.2 (List.of_mem_zip hz).2
      simp only at z1 z2
      exact ⟨by unfold sureOf; simp only; omega, Int.le_refl _, by unfold sureOf; simp only; omega, by unfold sureOf; simp only; omega, by unfold sureOf; simp only; omega, g5⟩⟩
    refine use_cash_needed oks ?_
    rintro _ ⟨ms, hMs, rfl⟩
    obtain rfl : ms = -low := by have := low_same (low_sure worst_one nl) isl hMs; omega
    simp only [dSeq, dNext, dRet, dRetN, dIfS, dNever, dAsg, dSetO, dPar, dPar3, dAug, dDrop, dApp, dSetIx, dVar, dC, PD.d2, PD.d1, dCons, dNil, dStar, dTup, dLstN, dLst, dNew, dAnd, dOr, dNot, dIf, dB, bAnd, bOr, bNot, fAdd_ii, fAdd_tt, fAdd_ll, fSub_ii, fMul_ii, fDiv_ii, fMod_ii, fPow_ii, fNeg_i, fLt_ii, fLe_ii, fGt_ii, fGe_ii, fOpI_ii, dIs, dCall, dCallM, dCallMN, lCall, dIxO, dIsN, dNotN, fIsN_i, fIsN_n, fIsN_t, fNotN_i, fNotN_n, fNotN_t, dSl, dNo, dSome, fSl_l, fSl_t, dChain, dChain3, cLen_l, cLen_t, cInt_i, cInt_b, cAbs_i, cMax2_ii, cMin2_ii, cTuple_l, cTuple_t, cList_l, cList_t, gSet, gNilD, gConsD, gTupD, iSeq, PD.iZip, iR1, iR2, dComp, dFor, dSortedSet, dRg1, dRg2, fIx_l, fIx_t, fRev_l, fRev_t, dMove, dBreak, dCont, startD, startM, List.map_cons, List.map_nil, List.length_cons, List.length_nil, List.cons_append, List.nil_append, List.getElem?_cons_zero, List.getElem?_cons_succ, List.set_cons_zero, List.set_cons_succ, Option.some.injEq, Sl.dt.injEq, Sl.ow.injEq, PyData.int.injEq, PyData.bool.injEq, PyData.tuple.injEq, PyData.list.injEq, PyData.str.injEq, exists_eq_left, exists_eq_left', exists_eq_right, true_and, and_true, List.cons.injEq, Ob.lst.injEq, Nat.sub_zero, Nat.reduceAdd, Nat.reduceSub, List.replicate_succ, List.replicate_zero, if_true, if_false, Bool.false_eq_true, if_false, PyData.isInt, PyData.isBool, PyData.isStr, PyData.isTuple, PyData.isList, fEq_int, fNe_int, fEq_str, fNe_str, fEq_pair, fNe_pair, fNe_str1, fEq_nil, fNe_nil, atI_0, atI_1, atI_2, ixN_0, ixN_1, ixN_2, Bool.not_true, Bool.not_false, ite_true, ite_false, reduceCtorEq, ↓reduceIte, exists_and_left, exists_const, and_assoc, or_false, false_or, Nat.zero_le, Int.reduceAdd, Int.reduceNeg, Int.reduceSub, Int.reduceMul, Int.reduceLE, Int.reduceLT, Int.cast_ofNat_Int, decide_true, decide_false, eq_self, Nat.reduceLeDiff, Int.reduceEq]
    refine use_least_to_start oks ?_
    rintro _ ⟨ls, hLs, rfl⟩
    obtain rfl : ls = -low := by have := low_same (low_sure best_one nl) isl hLs; omega
    simp only [dSeq, dNext, dRet, dRetN, dIfS, dNever, dAsg, dSetO, dPar, dPar3, dAug, dDrop, dApp, dSetIx, dVar, dC, PD.d2, PD.d1, dCons, dNil, dStar, dTup, dLstN, dLst, dNew, dAnd, dOr, dNot, dIf, dB, bAnd, bOr, bNot, fAdd_ii, fAdd_tt, fAdd_ll, fSub_ii, fMul_ii, fDiv_ii, fMod_ii, fPow_ii, fNeg_i, fLt_ii, fLe_ii, fGt_ii, fGe_ii, fOpI_ii, dIs, dCall, dCallM, dCallMN, lCall, dIxO, dIsN, dNotN, fIsN_i, fIsN_n, fIsN_t, fNotN_i, fNotN_n, fNotN_t, dSl, dNo, dSome, fSl_l, fSl_t, dChain, dChain3, cLen_l, cLen_t, cInt_i, cInt_b, cAbs_i, cMax2_ii, cMin2_ii, cTuple_l, cTuple_t, cList_l, cList_t, gSet, gNilD, gConsD, gTupD, iSeq, PD.iZip, iR1, iR2, dComp, dFor, dSortedSet, dRg1, dRg2, fIx_l, fIx_t, fRev_l, fRev_t, dMove, dBreak, dCont, startD, startM, List.map_cons, List.map_nil, List.length_cons, List.length_nil, List.cons_append, List.nil_append, List.getElem?_cons_zero, List.getElem?_cons_succ, List.set_cons_zero, List.set_cons_succ, Option.some.injEq, Sl.dt.injEq, Sl.ow.injEq, PyData.int.injEq, PyData.bool.injEq, PyData.tuple.injEq, PyData.list.injEq, PyData.str.injEq, exists_eq_left, exists_eq_left', exists_eq_right, true_and, and_true, List.cons.injEq, Ob.lst.injEq, Nat.sub_zero, Nat.reduceAdd, Nat.reduceSub, List.replicate_succ, List.replicate_zero, if_true, if_false, Bool.false_eq_true, if_false, PyData.isInt, PyData.isBool, PyData.isStr, PyData.isTuple, PyData.isList, fEq_int, fNe_int, fEq_str, fNe_str, fEq_pair, fNe_pair, fNe_str1, fEq_nil, fNe_nil, atI_0, atI_1, atI_2, ixN_0, ixN_1, ixN_2, Bool.not_true, Bool.not_false, ite_true, ite_false, reduceCtorEq, ↓reduceIte, exists_and_left, exists_const, and_assoc, or_false, false_or, Nat.zero_le, Int.reduceAdd, Int.reduceNeg, Int.reduceSub, Int.reduceMul, Int.reduceLE, Int.reduceLT, Int.cast_ofNat_Int, decide_true, decide_false, eq_self, Nat.reduceLeDiff, Int.reduceEq]
    rw [decide_eq_true (show least ≤ -low by omega)]
    simp only [dSeq, dNext, dRet, dRetN, dIfS, dNever, dAsg, dSetO, dPar, dPar3, dAug, dDrop, dApp, dSetIx, dVar, dC, PD.d2, PD.d1, dCons, dNil, dStar, dTup, dLstN, dLst, dNew, dAnd, dOr, dNot, dIf, dB, bAnd, bOr, bNot, fAdd_ii, fAdd_tt, fAdd_ll, fSub_ii, fMul_ii, fDiv_ii, fMod_ii, fPow_ii, fNeg_i, fLt_ii, fLe_ii, fGt_ii, fGe_ii, fOpI_ii, dIs, dCall, dCallM, dCallMN, lCall, dIxO, dIsN, dNotN, fIsN_i, fIsN_n, fIsN_t, fNotN_i, fNotN_n, fNotN_t, dSl, dNo, dSome, fSl_l, fSl_t, dChain, dChain3, cLen_l, cLen_t, cInt_i, cInt_b, cAbs_i, cMax2_ii, cMin2_ii, cTuple_l, cTuple_t, cList_l, cList_t, gSet, gNilD, gConsD, gTupD, iSeq, PD.iZip, iR1, iR2, dComp, dFor, dSortedSet, dRg1, dRg2, fIx_l, fIx_t, fRev_l, fRev_t, dMove, dBreak, dCont, startD, startM, List.map_cons, List.map_nil, List.length_cons, List.length_nil, List.cons_append, List.nil_append, List.getElem?_cons_zero, List.getElem?_cons_succ, List.set_cons_zero, List.set_cons_succ, Option.some.injEq, Sl.dt.injEq, Sl.ow.injEq, PyData.int.injEq, PyData.bool.injEq, PyData.tuple.injEq, PyData.list.injEq, PyData.str.injEq, exists_eq_left, exists_eq_left', exists_eq_right, true_and, and_true, List.cons.injEq, Ob.lst.injEq, Nat.sub_zero, Nat.reduceAdd, Nat.reduceSub, List.replicate_succ, List.replicate_zero, if_true, if_false, Bool.false_eq_true, if_false, PyData.isInt, PyData.isBool, PyData.isStr, PyData.isTuple, PyData.isList, fEq_int, fNe_int, fEq_str, fNe_str, fEq_pair, fNe_pair, fNe_str1, fEq_nil, fNe_nil, atI_0, atI_1, atI_2, ixN_0, ixN_1, ixN_2, Bool.not_true, Bool.not_false, ite_true, ite_false, reduceCtorEq, ↓reduceIte, exists_and_left, exists_const, and_assoc, or_false, false_or, Nat.zero_le, Int.reduceAdd, Int.reduceNeg, Int.reduceSub, Int.reduceMul, Int.reduceLE, Int.reduceLT, Int.cast_ofNat_Int, decide_true, decide_false, eq_self, Nat.reduceLeDiff, Int.reduceEq]
    rw [decide_eq_true (show -low ≤ most by omega)]
    simp only [dSeq, dNext, dRet, dRetN, dIfS, dNever, dAsg, dSetO, dPar, dPar3, dAug, dDrop, dApp, dSetIx, dVar, dC, PD.d2, PD.d1, dCons, dNil, dStar, dTup, dLstN, dLst, dNew, dAnd, dOr, dNot, dIf, dB, bAnd, bOr, bNot, fAdd_ii, fAdd_tt, fAdd_ll, fSub_ii, fMul_ii, fDiv_ii, fMod_ii, fPow_ii, fNeg_i, fLt_ii, fLe_ii, fGt_ii, fGe_ii, fOpI_ii, dIs, dCall, dCallM, dCallMN, lCall, dIxO, dIsN, dNotN, fIsN_i, fIsN_n, fIsN_t, fNotN_i, fNotN_n, fNotN_t, dSl, dNo, dSome, fSl_l, fSl_t, dChain, dChain3, cLen_l, cLen_t, cInt_i, cInt_b, cAbs_i, cMax2_ii, cMin2_ii, cTuple_l, cTuple_t, cList_l, cList_t, gSet, gNilD, gConsD, gTupD, iSeq, PD.iZip, iR1, iR2, dComp, dFor, dSortedSet, dRg1, dRg2, fIx_l, fIx_t, fRev_l, fRev_t, dMove, dBreak, dCont, startD, startM, List.map_cons, List.map_nil, List.length_cons, List.length_nil, List.cons_append, List.nil_append, List.getElem?_cons_zero, List.getElem?_cons_succ, List.set_cons_zero, List.set_cons_succ, Option.some.injEq, Sl.dt.injEq, Sl.ow.injEq, PyData.int.injEq, PyData.bool.injEq, PyData.tuple.injEq, PyData.list.injEq, PyData.str.injEq, exists_eq_left, exists_eq_left', exists_eq_right, true_and, and_true, List.cons.injEq, Ob.lst.injEq, Nat.sub_zero, Nat.reduceAdd, Nat.reduceSub, List.replicate_succ, List.replicate_zero, if_true, if_false, Bool.false_eq_true, if_false, PyData.isInt, PyData.isBool, PyData.isStr, PyData.isTuple, PyData.isList, fEq_int, fNe_int, fEq_str, fNe_str, fEq_pair, fNe_pair, fNe_str1, fEq_nil, fNe_nil, atI_0, atI_1, atI_2, ixN_0, ixN_1, ixN_2, Bool.not_true, Bool.not_false, ite_true, ite_false, reduceCtorEq, ↓reduceIte, exists_and_left, exists_const, and_assoc, or_false, false_or, Nat.zero_le, Int.reduceAdd, Int.reduceNeg, Int.reduceSub, Int.reduceMul, Int.reduceLE, Int.reduceLT, Int.cast_ofNat_Int, decide_true, decide_false, eq_self, Nat.reduceLeDiff, Int.reduceEq]
    refine use_lows_of ⟨okf, hc, most0, by omega⟩ ?_
    rintro _ ⟨ts2, hts2, hkt2, rfl⟩
    have lt2 : ts2.length ≤ ds.length := nodup_le (hts2.imp fun h => Int.ne_of_lt h) fun k hk' => (hkt2 k).mp hk'
    refine ⟨_, .inr rfl, by rw [List.length_map]; omega, ?_⟩
    refine comp_all (fun t : Int => .tuple [.int t, .int (most + lowAt fs ds t)]) (fun t => .bool (decide (most + lowAt fs ds t < 0))) ts2 rfl (fun t _ K hK => ?_) fun e5 he5 => ?_
    · simp only [restD_c, restD_n, keepD_d, keepD_n, keepD_o, wipeD_c, wipeD_n, List.getElem?_cons_zero, List.getElem?_cons_succ, List.set_cons_zero, List.set_cons_succ, dSeq, dNext, dRet, dRetN, dIfS, dNever, dAsg, dSetO, dPar, dPar3, dAug, dDrop, dApp, dSetIx, dVar, dC, PD.d2, PD.d1, dCons, dNil, dStar, dTup, dLstN, dLst, dNew, dAnd, dOr, dNot, dIf, dB, bAnd, bOr, bNot, fAdd_ii, fAdd_tt, fAdd_ll, fSub_ii, fMul_ii, fDiv_ii, fMod_ii, fPow_ii, fNeg_i, fLt_ii, fLe_ii, fGt_ii, fGe_ii, fOpI_ii, dIs, dCall, dCallM, dCallMN, lCall, dIxO, dIsN, dNotN, fIsN_i, fIsN_n, fIsN_t, fNotN_i, fNotN_n, fNotN_t, dSl, dNo, dSome, fSl_l, fSl_t, dChain, dChain3, cLen_l, cLen_t, cInt_i, cInt_b, cAbs_i, cMax2_ii, cMin2_ii, cTuple_l, cTuple_t, cList_l, cList_t, gSet, gNilD, gConsD, gTupD, iSeq, PD.iZip, iR1, iR2, dComp, dFor, dSortedSet, dRg1, dRg2, fIx_l, fIx_t, fRev_l, fRev_t, dMove, dBreak, dCont, startD, startM, List.map_cons, List.map_nil, List.length_cons, List.length_nil, List.cons_append, List.nil_append, List.getElem?_cons_zero, List.getElem?_cons_succ, List.set_cons_zero, List.set_cons_succ, Option.some.injEq, Sl.dt.injEq, Sl.ow.injEq, PyData.int.injEq, PyData.bool.injEq, PyData.tuple.injEq, PyData.list.injEq, PyData.str.injEq, exists_eq_left, exists_eq_left', exists_eq_right, true_and, and_true, List.cons.injEq, Ob.lst.injEq, Nat.sub_zero, Nat.reduceAdd, Nat.reduceSub, List.replicate_succ, List.replicate_zero, if_true, if_false, Bool.false_eq_true, if_false, PyData.isInt, PyData.isBool, PyData.isStr, PyData.isTuple, PyData.isList, fEq_int, fNe_int, fEq_str, fNe_str, fEq_pair, fNe_pair, fNe_str1, fEq_nil, fNe_nil, atI_0, atI_1, atI_2, ixN_0, ixN_1, ixN_2, Bool.not_true, Bool.not_false, ite_true, ite_false, reduceCtorEq, ↓reduceIte, exists_and_left, exists_const, and_assoc, or_false, false_or, Nat.zero_le, Int.reduceAdd, Int.reduceNeg, Int.reduceSub, Int.reduceMul, Int.reduceLE, Int.reduceLT, Int.cast_ofNat_Int, decide_true, decide_false, eq_self, Nat.reduceLeDiff, Int.reduceEq]
      exact hK _ rfl
    rw [he5]
    have any0 : (ts2.map fun t => decide (most + lowAt fs ds t < 0)).any id = false := by
      rw [any_map, List.any_eq_false]
      intro t _ h
      have := of_decide_eq_true h
      have := isl.2.1 t
      omega
    refine cAny_of (by rw [List.map_map]; rfl) ?_
    rw [any0]
    simp only [restD_c, restD_n, keepD_d, keepD_n, keepD_o, wipeD_c, wipeD_n, List.getElem?_cons_zero, List.getElem?_cons_succ, List.set_cons_zero, List.set_cons_succ, dSeq, dNext, dRet, dRetN, dIfS, dNever, dAsg, dSetO, dPar, dPar3, dAug, dDrop, dApp, dSetIx, dVar, dC, PD.d2, PD.d1, dCons, dNil, dStar, dTup, dLstN, dLst, dNew, dAnd, dOr, dNot, dIf, dB, bAnd, bOr, bNot, fAdd_ii, fAdd_tt, fAdd_ll, fSub_ii, fMul_ii, fDiv_ii, fMod_ii, fPow_ii, fNeg_i, fLt_ii, fLe_ii, fGt_ii, fGe_ii, fOpI_ii, dIs, dCall, dCallM, dCallMN, lCall, dIxO, dIsN, dNotN, fIsN_i, fIsN_n, fIsN_t, fNotN_i, fNotN_n, fNotN_t, dSl, dNo, dSome, fSl_l, fSl_t, dChain, dChain3, cLen_l, cLen_t, cInt_i, cInt_b, cAbs_i, cMax2_ii, cMin2_ii, cTuple_l, cTuple_t, cList_l, cList_t, gSet, gNilD, gConsD, gTupD, iSeq, PD.iZip, iR1, iR2, dComp, dFor, dSortedSet, dRg1, dRg2, fIx_l, fIx_t, fRev_l, fRev_t, dMove, dBreak, dCont, startD, startM, List.map_cons, List.map_nil, List.length_cons, List.length_nil, List.cons_append, List.nil_append, List.getElem?_cons_zero, List.getElem?_cons_succ, List.set_cons_zero, List.set_cons_succ, Option.some.injEq, Sl.dt.injEq, Sl.ow.injEq, PyData.int.injEq, PyData.bool.injEq, PyData.tuple.injEq, PyData.list.injEq, PyData.str.injEq, exists_eq_left, exists_eq_left', exists_eq_right, true_and, and_true, List.cons.injEq, Ob.lst.injEq, Nat.sub_zero, Nat.reduceAdd, Nat.reduceSub, List.replicate_succ, List.replicate_zero, if_true, if_false, Bool.false_eq_true, if_false, PyData.isInt, PyData.isBool, PyData.isStr, PyData.isTuple, PyData.isList, fEq_int, fNe_int, fEq_str, fNe_str, fEq_pair, fNe_pair, fNe_str1, fEq_nil, fNe_nil, atI_0, atI_1, atI_2, ixN_0, ixN_1, ixN_2, Bool.not_true, Bool.not_false, ite_true, ite_false, reduceCtorEq, ↓reduceIte, exists_and_left, exists_const, and_assoc, or_false, false_or, Nat.zero_le, Int.reduceAdd, Int.reduceNeg, Int.reduceSub, Int.reduceMul, Int.reduceLE, Int.reduceLT, Int.cast_ofNat_Int, decide_true, decide_false, eq_self, Nat.reduceLeDiff, Int.reduceEq]
    refine ⟨by rw [List.length_map]; omega, ?_⟩
    refine comp_all encF (fun f => .int f.2.2) fs rfl (fun f hf K hK => ?_) fun e6 he6 => ?_
    · simp only [restD_c, restD_n, keepD_d, keepD_n, keepD_o, wipeD_c, wipeD_n, List.getElem?_cons_zero, List.getElem?_cons_succ, List.set_cons_zero, List.set_cons_succ, dSeq, dNext, dRet, dRetN, dIfS, dNever, dAsg, dSetO, dPar, dPar3, dAug, dDrop, dApp, dSetIx, dVar, dC, PD.d2, PD.d1, dCons, dNil, dStar, dTup, dLstN, dLst, dNew, dAnd, dOr, dNot, dIf, dB, bAnd, bOr, bNot, fAdd_ii, fAdd_tt, fAdd_ll, fSub_ii, fMul_ii, fDiv_ii, fMod_ii, fPow_ii, fNeg_i, fLt_ii, fLe_ii, fGt_ii, fGe_ii, fOpI_ii, dIs, dCall, dCallM, dCallMN, lCall, dIxO, dIsN, dNotN, fIsN_i, fIsN_n, fIsN_t, fNotN_i, fNotN_n, fNotN_t, dSl, dNo, dSome, fSl_l, fSl_t, dChain, dChain3, cLen_l, cLen_t, cInt_i, cInt_b, cAbs_i, cMax2_ii, cMin2_ii, cTuple_l, cTuple_t, cList_l, cList_t, gSet, gNilD, gConsD, gTupD, iSeq, PD.iZip, iR1, iR2, dComp, dFor, dSortedSet, dRg1, dRg2, fIx_l, fIx_t, fRev_l, fRev_t, dMove, dBreak, dCont, startD, startM, List.map_cons, List.map_nil, List.length_cons, List.length_nil, List.cons_append, List.nil_append, List.getElem?_cons_zero, List.getElem?_cons_succ, List.set_cons_zero, List.set_cons_succ, Option.some.injEq, Sl.dt.injEq, Sl.ow.injEq, PyData.int.injEq, PyData.bool.injEq, PyData.tuple.injEq, PyData.list.injEq, PyData.str.injEq, exists_eq_left, exists_eq_left', exists_eq_right, true_and, and_true, List.cons.injEq, Ob.lst.injEq, Nat.sub_zero, Nat.reduceAdd, Nat.reduceSub, List.replicate_succ, List.replicate_zero, if_true, if_false, Bool.false_eq_true, if_false, PyData.isInt, PyData.isBool, PyData.isStr, PyData.isTuple, PyData.isList, fEq_int, fNe_int, fEq_str, fNe_str, fEq_pair, fNe_pair, fNe_str1, fEq_nil, fNe_nil, atI_0, atI_1, atI_2, ixN_0, ixN_1, ixN_2, Bool.not_true, Bool.not_false, ite_true, ite_false, reduceCtorEq, ↓reduceIte, exists_and_left, exists_const, and_assoc, or_false, false_or, Nat.zero_le, Int.reduceAdd, Int.reduceNeg, Int.reduceSub, Int.reduceMul, Int.reduceLE, Int.reduceLT, Int.cast_ofNat_Int, decide_true, decide_false, eq_self, Nat.reduceLeDiff, Int.reduceEq, encF]
      exact hK _ rfl
    rw [he6]
    refine cSum_of (by rw [List.map_map]; rfl) ?_
    have lend := left_end (fs := fs) fun f hf => by have := (okf.2 f hf).2.2.1; omega
    simp only [restD_c, restD_n, keepD_d, keepD_n, keepD_o, wipeD_c, wipeD_n, List.getElem?_cons_zero, List.getElem?_cons_succ, List.set_cons_zero, List.set_cons_succ, dSeq, dNext, dRet, dRetN, dIfS, dNever, dAsg, dSetO, dPar, dPar3, dAug, dDrop, dApp, dSetIx, dVar, dC, PD.d2, PD.d1, dCons, dNil, dStar, dTup, dLstN, dLst, dNew, dAnd, dOr, dNot, dIf, dB, bAnd, bOr, bNot, fAdd_ii, fAdd_tt, fAdd_ll, fSub_ii, fMul_ii, fDiv_ii, fMod_ii, fPow_ii, fNeg_i, fLt_ii, fLe_ii, fGt_ii, fGe_ii, fOpI_ii, dIs, dCall, dCallM, dCallMN, lCall, dIxO, dIsN, dNotN, fIsN_i, fIsN_n, fIsN_t, fNotN_i, fNotN_n, fNotN_t, dSl, dNo, dSome, fSl_l, fSl_t, dChain, dChain3, cLen_l, cLen_t, cInt_i, cInt_b, cAbs_i, cMax2_ii, cMin2_ii, cTuple_l, cTuple_t, cList_l, cList_t, gSet, gNilD, gConsD, gTupD, iSeq, PD.iZip, iR1, iR2, dComp, dFor, dSortedSet, dRg1, dRg2, fIx_l, fIx_t, fRev_l, fRev_t, dMove, dBreak, dCont, startD, startM, List.map_cons, List.map_nil, List.length_cons, List.length_nil, List.cons_append, List.nil_append, List.getElem?_cons_zero, List.getElem?_cons_succ, List.set_cons_zero, List.set_cons_succ, Option.some.injEq, Sl.dt.injEq, Sl.ow.injEq, PyData.int.injEq, PyData.bool.injEq, PyData.tuple.injEq, PyData.list.injEq, PyData.str.injEq, exists_eq_left, exists_eq_left', exists_eq_right, true_and, and_true, List.cons.injEq, Ob.lst.injEq, Nat.sub_zero, Nat.reduceAdd, Nat.reduceSub, List.replicate_succ, List.replicate_zero, if_true, if_false, Bool.false_eq_true, if_false, PyData.isInt, PyData.isBool, PyData.isStr, PyData.isTuple, PyData.isList, fEq_int, fNe_int, fEq_str, fNe_str, fEq_pair, fNe_pair, fNe_str1, fEq_nil, fNe_nil, atI_0, atI_1, atI_2, ixN_0, ixN_1, ixN_2, Bool.not_true, Bool.not_false, ite_true, ite_false, reduceCtorEq, ↓reduceIte, exists_and_left, exists_const, and_assoc, or_false, false_or, Nat.zero_le, Int.reduceAdd, Int.reduceNeg, Int.reduceSub, Int.reduceMul, Int.reduceLE, Int.reduceLT, Int.cast_ofNat_Int, decide_true, decide_false, eq_self, Nat.reduceLeDiff, Int.reduceEq]
    have e7 : (10 : Int) ^ Int.toNat 4 = 10000 := rfl
    have e8 : (fs.map fun f => f.2.2).sum = endOf fs := rfl
    rw [e7, e8]
    refine ⟨by decide +kernel, ?_⟩
    refine use_surely_left ⟨okf, most0, by omega, by decide, by decide⟩ ?_
    rw [lend.1, lend.2]
    simp only [dSeq, dNext, dRet, dRetN, dIfS, dNever, dAsg, dSetO, dPar, dPar3, dAug, dDrop, dApp, dSetIx, dVar, dC, PD.d2, PD.d1, dCons, dNil, dStar, dTup, dLstN, dLst, dNew, dAnd, dOr, dNot, dIf, dB, bAnd, bOr, bNot, fAdd_ii, fAdd_tt, fAdd_ll, fSub_ii, fMul_ii, fDiv_ii, fMod_ii, fPow_ii, fNeg_i, fLt_ii, fLe_ii, fGt_ii, fGe_ii, fOpI_ii, dIs, dCall, dCallM, dCallMN, lCall, dIxO, dIsN, dNotN, fIsN_i, fIsN_n, fIsN_t, fNotN_i, fNotN_n, fNotN_t, dSl, dNo, dSome, fSl_l, fSl_t, dChain, dChain3, cLen_l, cLen_t, cInt_i, cInt_b, cAbs_i, cMax2_ii, cMin2_ii, cTuple_l, cTuple_t, cList_l, cList_t, gSet, gNilD, gConsD, gTupD, iSeq, PD.iZip, iR1, iR2, dComp, dFor, dSortedSet, dRg1, dRg2, fIx_l, fIx_t, fRev_l, fRev_t, dMove, dBreak, dCont, startD, startM, List.map_cons, List.map_nil, List.length_cons, List.length_nil, List.cons_append, List.nil_append, List.getElem?_cons_zero, List.getElem?_cons_succ, List.set_cons_zero, List.set_cons_succ, Option.some.injEq, Sl.dt.injEq, Sl.ow.injEq, PyData.int.injEq, PyData.bool.injEq, PyData.tuple.injEq, PyData.list.injEq, PyData.str.injEq, exists_eq_left, exists_eq_left', exists_eq_right, true_and, and_true, List.cons.injEq, Ob.lst.injEq, Nat.sub_zero, Nat.reduceAdd, Nat.reduceSub, List.replicate_succ, List.replicate_zero, if_true, if_false, Bool.false_eq_true, if_false, PyData.isInt, PyData.isBool, PyData.isStr, PyData.isTuple, PyData.isList, fEq_int, fNe_int, fEq_str, fNe_str, fEq_pair, fNe_pair, fNe_str1, fEq_nil, fNe_nil, atI_0, atI_1, atI_2, ixN_0, ixN_1, ixN_2, Bool.not_true, Bool.not_false, ite_true, ite_false, reduceCtorEq, ↓reduceIte, exists_and_left, exists_const, and_assoc, or_false, false_or, Nat.zero_le, Int.reduceAdd, Int.reduceNeg, Int.reduceSub, Int.reduceMul, Int.reduceLE, Int.reduceLT, Int.cast_ofNat_Int, decide_true, decide_false, eq_self, Nat.reduceLeDiff, Int.reduceEq]
    refine ⟨by rw [List.length_map]; omega, ?_⟩
    refine comp_all encF (fun f => encF (back f)) fs rfl (fun f hf K hK => ?_) fun e9 he9 => ?_
    · simp only [restD_c, restD_n, keepD_d, keepD_n, keepD_o, wipeD_c, wipeD_n, List.getElem?_cons_zero, List.getElem?_cons_succ, List.set_cons_zero, List.set_cons_succ, dSeq, dNext, dRet, dRetN, dIfS, dNever, dAsg, dSetO, dPar, dPar3, dAug, dDrop, dApp, dSetIx, dVar, dC, PD.d2, PD.d1, dCons, dNil, dStar, dTup, dLstN, dLst, dNew, dAnd, dOr, dNot, dIf, dB, bAnd, bOr, bNot, fAdd_ii, fAdd_tt, fAdd_ll, fSub_ii, fMul_ii, fDiv_ii, fMod_ii, fPow_ii, fNeg_i, fLt_ii, fLe_ii, fGt_ii, fGe_ii, fOpI_ii, dIs, dCall, dCallM, dCallMN, lCall, dIxO, dIsN, dNotN, fIsN_i, fIsN_n, fIsN_t, fNotN_i, fNotN_n, fNotN_t, dSl, dNo, dSome, fSl_l, fSl_t, dChain, dChain3, cLen_l, cLen_t, cInt_i, cInt_b, cAbs_i, cMax2_ii, cMin2_ii, cTuple_l, cTuple_t, cList_l, cList_t, gSet, gNilD, gConsD, gTupD, iSeq, PD.iZip, iR1, iR2, dComp, dFor, dSortedSet, dRg1, dRg2, fIx_l, fIx_t, fRev_l, fRev_t, dMove, dBreak, dCont, startD, startM, List.map_cons, List.map_nil, List.length_cons, List.length_nil, List.cons_append, List.nil_append, List.getElem?_cons_zero, List.getElem?_cons_succ, List.set_cons_zero, List.set_cons_succ, Option.some.injEq, Sl.dt.injEq, Sl.ow.injEq, PyData.int.injEq, PyData.bool.injEq, PyData.tuple.injEq, PyData.list.injEq, PyData.str.injEq, exists_eq_left, exists_eq_left', exists_eq_right, true_and, and_true, List.cons.injEq, Ob.lst.injEq, Nat.sub_zero, Nat.reduceAdd, Nat.reduceSub, List.replicate_succ, List.replicate_zero, if_true, if_false, Bool.false_eq_true, if_false, PyData.isInt, PyData.isBool, PyData.isStr, PyData.isTuple, PyData.isList, fEq_int, fNe_int, fEq_str, fNe_str, fEq_pair, fNe_pair, fNe_str1, fEq_nil, fNe_nil, atI_0, atI_1, atI_2, ixN_0, ixN_1, ixN_2, Bool.not_true, Bool.not_false, ite_true, ite_false, reduceCtorEq, ↓reduceIte, exists_and_left, exists_const, and_assoc, or_false, false_or, Nat.zero_le, Int.reduceAdd, Int.reduceNeg, Int.reduceSub, Int.reduceMul, Int.reduceLE, Int.reduceLT, Int.cast_ofNat_Int, decide_true, decide_false, eq_self, Nat.reduceLeDiff, Int.reduceEq, encF]
      exact hK _ rfl
    rw [he9]
    have e10 : PyData.tuple (fs.map fun f => encF (back f)) = encFs (fs.map back) := by
      show _ = PyData.tuple _
      rw [List.map_map]
      rfl
    simp only [restD_c, restD_n, keepD_d, keepD_n, keepD_o, wipeD_c, wipeD_n, List.getElem?_cons_zero, List.getElem?_cons_succ, List.set_cons_zero, List.set_cons_succ, dSeq, dNext, dRet, dRetN, dIfS, dNever, dAsg, dSetO, dPar, dPar3, dAug, dDrop, dApp, dSetIx, dVar, dC, PD.d2, PD.d1, dCons, dNil, dStar, dTup, dLstN, dLst, dNew, dAnd, dOr, dNot, dIf, dB, bAnd, bOr, bNot, fAdd_ii, fAdd_tt, fAdd_ll, fSub_ii, fMul_ii, fDiv_ii, fMod_ii, fPow_ii, fNeg_i, fLt_ii, fLe_ii, fGt_ii, fGe_ii, fOpI_ii, dIs, dCall, dCallM, dCallMN, lCall, dIxO, dIsN, dNotN, fIsN_i, fIsN_n, fIsN_t, fNotN_i, fNotN_n, fNotN_t, dSl, dNo, dSome, fSl_l, fSl_t, dChain, dChain3, cLen_l, cLen_t, cInt_i, cInt_b, cAbs_i, cMax2_ii, cMin2_ii, cTuple_l, cTuple_t, cList_l, cList_t, gSet, gNilD, gConsD, gTupD, iSeq, PD.iZip, iR1, iR2, dComp, dFor, dSortedSet, dRg1, dRg2, fIx_l, fIx_t, fRev_l, fRev_t, dMove, dBreak, dCont, startD, startM, List.map_cons, List.map_nil, List.length_cons, List.length_nil, List.cons_append, List.nil_append, List.getElem?_cons_zero, List.getElem?_cons_succ, List.set_cons_zero, List.set_cons_succ, Option.some.injEq, Sl.dt.injEq, Sl.ow.injEq, PyData.int.injEq, PyData.bool.injEq, PyData.tuple.injEq, PyData.list.injEq, PyData.str.injEq, exists_eq_left, exists_eq_left', exists_eq_right, true_and, and_true, List.cons.injEq, Ob.lst.injEq, Nat.sub_zero, Nat.reduceAdd, Nat.reduceSub, List.replicate_succ, List.replicate_zero, if_true, if_false, Bool.false_eq_true, if_false, PyData.isInt, PyData.isBool, PyData.isStr, PyData.isTuple, PyData.isList, fEq_int, fNe_int, fEq_str, fNe_str, fEq_pair, fNe_pair, fNe_str1, fEq_nil, fNe_nil, atI_0, atI_1, atI_2, ixN_0, ixN_1, ixN_2, Bool.not_true, Bool.not_false, ite_true, ite_false, reduceCtorEq, ↓reduceIte, exists_and_left, exists_const, and_assoc, or_false, false_or, Nat.zero_le, Int.reduceAdd, Int.reduceNeg, Int.reduceSub, Int.reduceMul, Int.reduceLE, Int.reduceLT, Int.cast_ofNat_Int, decide_true, decide_false, eq_self, Nat.reduceLeDiff, Int.reduceEq]
    rw [e10]
    have okb : FlsOk (fs.map back) := ⟨by rw [List.length_map]; omega, fun f hf => by
      obtain ⟨g, hg, rfl⟩ := List.mem_map.mp hf
      obtain ⟨g1, g2, g3, g4, g5, g6, g7⟩ := hd g hg
      exact ⟨by unfold back; simp only; omega, by unfold back; simp only; omega, by unfold back; simp only; omega, by unfold back; simp only; omega, by unfold back; simp only; omega, by unfold back; simp only; omega⟩⟩
    have hend : endOf (fs.map back) = -endOf fs := end_back fs
    have lendb := left_end (fs := fs.map back) fun f hf => by have := (okb.2 f hf).2.2.1; omega
    by_cases h0 : 0 ≤ endOf fs
    · rw [decide_eq_true h0]
      simp only [dSeq, dNext, dRet, dRetN, dIfS, dNever, dAsg, dSetO, dPar, dPar3, dAug, dDrop, dApp, dSetIx, dVar, dC, PD.d2, PD.d1, dCons, dNil, dStar, dTup, dLstN, dLst, dNew, dAnd, dOr, dNot, dIf, dB, bAnd, bOr, bNot, fAdd_ii, fAdd_tt, fAdd_ll, fSub_ii, fMul_ii, fDiv_ii, fMod_ii, fPow_ii, fNeg_i, fLt_ii, fLe_ii, fGt_ii, fGe_ii, fOpI_ii, dIs, dCall, dCallM, dCallMN, lCall, dIxO, dIsN, dNotN, fIsN_i, fIsN_n, fIsN_t, fNotN_i, fNotN_n, fNotN_t, dSl, dNo, dSome, fSl_l, fSl_t, dChain, dChain3, cLen_l, cLen_t, cInt_i, cInt_b, cAbs_i, cMax2_ii, cMin2_ii, cTuple_l, cTuple_t, cList_l, cList_t, gSet, gNilD, gConsD, gTupD, iSeq, PD.iZip, iR1, iR2, dComp, dFor, dSortedSet, dRg1, dRg2, fIx_l, fIx_t, fRev_l, fRev_t, dMove, dBreak, dCont, startD, startM, List.map_cons, List.map_nil, List.length_cons, List.length_nil, List.cons_append, List.nil_append, List.getElem?_cons_zero, List.getElem?_cons_succ, List.set_cons_zero, List.set_cons_succ, Option.some.injEq, Sl.dt.injEq, Sl.ow.injEq, PyData.int.injEq, PyData.bool.injEq, PyData.tuple.injEq, PyData.list.injEq, PyData.str.injEq, exists_eq_left, exists_eq_left', exists_eq_right, true_and, and_true, List.cons.injEq, Ob.lst.injEq, Nat.sub_zero, Nat.reduceAdd, Nat.reduceSub, List.replicate_succ, List.replicate_zero, if_true, if_false, Bool.false_eq_true, if_false, PyData.isInt, PyData.isBool, PyData.isStr, PyData.isTuple, PyData.isList, fEq_int, fNe_int, fEq_str, fNe_str, fEq_pair, fNe_pair, fNe_str1, fEq_nil, fNe_nil, atI_0, atI_1, atI_2, ixN_0, ixN_1, ixN_2, Bool.not_true, Bool.not_false, ite_true, ite_false, reduceCtorEq, ↓reduceIte, exists_and_left, exists_const, and_assoc, or_false, false_or, Nat.zero_le, Int.reduceAdd, Int.reduceNeg, Int.reduceSub, Int.reduceMul, Int.reduceLE, Int.reduceLT, Int.cast_ofNat_Int, decide_true, decide_false, eq_self, Nat.reduceLeDiff, Int.reduceEq]
      refine use_cash_needed okb ?_
      rintro _ ⟨mb, hMb, rfl⟩
      have hle : endOf fs ≤ mb := by
        have z1 := hMb.2.1 10001
        rw [low_end (fun f hf => by
          have z := okb.2 f hf
          obtain ⟨z1, z2, z3, _⟩ := z
          unfold worst
          split <;> omega), hend] at z1
        omega
      simp only [dSeq, dNext, dRet, dRetN, dIfS, dNever, dAsg, dSetO, dPar, dPar3, dAug, dDrop, dApp, dSetIx, dVar, dC, PD.d2, PD.d1, dCons, dNil, dStar, dTup, dLstN, dLst, dNew, dAnd, dOr, dNot, dIf, dB, bAnd, bOr, bNot, fAdd_ii, fAdd_tt, fAdd_ll, fSub_ii, fMul_ii, fDiv_ii, fMod_ii, fPow_ii, fNeg_i, fLt_ii, fLe_ii, fGt_ii, fGe_ii, fOpI_ii, dIs, dCall, dCallM, dCallMN, lCall, dIxO, dIsN, dNotN, fIsN_i, fIsN_n, fIsN_t, fNotN_i, fNotN_n, fNotN_t, dSl, dNo, dSome, fSl_l, fSl_t, dChain, dChain3, cLen_l, cLen_t, cInt_i, cInt_b, cAbs_i, cMax2_ii, cMin2_ii, cTuple_l, cTuple_t, cList_l, cList_t, gSet, gNilD, gConsD, gTupD, iSeq, PD.iZip, iR1, iR2, dComp, dFor, dSortedSet, dRg1, dRg2, fIx_l, fIx_t, fRev_l, fRev_t, dMove, dBreak, dCont, startD, startM, List.map_cons, List.map_nil, List.length_cons, List.length_nil, List.cons_append, List.nil_append, List.getElem?_cons_zero, List.getElem?_cons_succ, List.set_cons_zero, List.set_cons_succ, Option.some.injEq, Sl.dt.injEq, Sl.ow.injEq, PyData.int.injEq, PyData.bool.injEq, PyData.tuple.injEq, PyData.list.injEq, PyData.str.injEq, exists_eq_left, exists_eq_left', exists_eq_right, true_and, and_true, List.cons.injEq, Ob.lst.injEq, Nat.sub_zero, Nat.reduceAdd, Nat.reduceSub, List.replicate_succ, List.replicate_zero, if_true, if_false, Bool.false_eq_true, if_false, PyData.isInt, PyData.isBool, PyData.isStr, PyData.isTuple, PyData.isList, fEq_int, fNe_int, fEq_str, fNe_str, fEq_pair, fNe_pair, fNe_str1, fEq_nil, fNe_nil, atI_0, atI_1, atI_2, ixN_0, ixN_1, ixN_2, Bool.not_true, Bool.not_false, ite_true, ite_false, reduceCtorEq, ↓reduceIte, exists_and_left, exists_const, and_assoc, or_false, false_or, Nat.zero_le, Int.reduceAdd, Int.reduceNeg, Int.reduceSub, Int.reduceMul, Int.reduceLE, Int.reduceLT, Int.cast_ofNat_Int, decide_true, decide_false, eq_self, Nat.reduceLeDiff, Int.reduceEq]
      rw [decide_eq_false (show ¬ mb < endOf fs by omega)]
      simp only [dSeq, dNext, dRet, dRetN, dIfS, dNever, dAsg, dSetO, dPar, dPar3, dAug, dDrop, dApp, dSetIx, dVar, dC, PD.d2, PD.d1, dCons, dNil, dStar, dTup, dLstN, dLst, dNew, dAnd, dOr, dNot, dIf, dB, bAnd, bOr, bNot, fAdd_ii, fAdd_tt, fAdd_ll, fSub_ii, fMul_ii, fDiv_ii, fMod_ii, fPow_ii, fNeg_i, fLt_ii, fLe_ii, fGt_ii, fGe_ii, fOpI_ii, dIs, dCall, dCallM, dCallMN, lCall, dIxO, dIsN, dNotN, fIsN_i, fIsN_n, fIsN_t, fNotN_i, fNotN_n, fNotN_t, dSl, dNo, dSome, fSl_l, fSl_t, dChain, dChain3, cLen_l, cLen_t, cInt_i, cInt_b, cAbs_i, cMax2_ii, cMin2_ii, cTuple_l, cTuple_t, cList_l, cList_t, gSet, gNilD, gConsD, gTupD, iSeq, PD.iZip, iR1, iR2, dComp, dFor, dSortedSet, dRg1, dRg2, fIx_l, fIx_t, fRev_l, fRev_t, dMove, dBreak, dCont, startD, startM, List.map_cons, List.map_nil, List.length_cons, List.length_nil, List.cons_append, List.nil_append, List.getElem?_cons_zero, List.getElem?_cons_succ, List.set_cons_zero, List.set_cons_succ, Option.some.injEq, Sl.dt.injEq, Sl.ow.injEq, PyData.int.injEq, PyData.bool.injEq, PyData.tuple.injEq, PyData.list.injEq, PyData.str.injEq, exists_eq_left, exists_eq_left', exists_eq_right, true_and, and_true, List.cons.injEq, Ob.lst.injEq, Nat.sub_zero, Nat.reduceAdd, Nat.reduceSub, List.replicate_succ, List.replicate_zero, if_true, if_false, Bool.false_eq_true, if_false, PyData.isInt, PyData.isBool, PyData.isStr, PyData.isTuple, PyData.isList, fEq_int, fNe_int, fEq_str, fNe_str, fEq_pair, fNe_pair, fNe_str1, fEq_nil, fNe_nil, atI_0, atI_1, atI_2, ixN_0, ixN_1, ixN_2, Bool.not_true, Bool.not_false, ite_true, ite_false, reduceCtorEq, ↓reduceIte, exists_and_left, exists_const, and_assoc, or_false, false_or, Nat.zero_le, Int.reduceAdd, Int.reduceNeg, Int.reduceSub, Int.reduceMul, Int.reduceLE, Int.reduceLT, Int.cast_ofNat_Int, decide_true, decide_false, eq_self, Nat.reduceLeDiff, Int.reduceEq]
      refine ⟨by decide +kernel, use_surely_left ⟨okb, by decide, by decide, by decide, by decide⟩ ?_⟩
      rw [lendb.1, lendb.2, hend]
      simp only [dSeq, dNext, dRet, dRetN, dIfS, dNever, dAsg, dSetO, dPar, dPar3, dAug, dDrop, dApp, dSetIx, dVar, dC, PD.d2, PD.d1, dCons, dNil, dStar, dTup, dLstN, dLst, dNew, dAnd, dOr, dNot, dIf, dB, bAnd, bOr, bNot, fAdd_ii, fAdd_tt, fAdd_ll, fSub_ii, fMul_ii, fDiv_ii, fMod_ii, fPow_ii, fNeg_i, fLt_ii, fLe_ii, fGt_ii, fGe_ii, fOpI_ii, dIs, dCall, dCallM, dCallMN, lCall, dIxO, dIsN, dNotN, fIsN_i, fIsN_n, fIsN_t, fNotN_i, fNotN_n, fNotN_t, dSl, dNo, dSome, fSl_l, fSl_t, dChain, dChain3, cLen_l, cLen_t, cInt_i, cInt_b, cAbs_i, cMax2_ii, cMin2_ii, cTuple_l, cTuple_t, cList_l, cList_t, gSet, gNilD, gConsD, gTupD, iSeq, PD.iZip, iR1, iR2, dComp, dFor, dSortedSet, dRg1, dRg2, fIx_l, fIx_t, fRev_l, fRev_t, dMove, dBreak, dCont, startD, startM, List.map_cons, List.map_nil, List.length_cons, List.length_nil, List.cons_append, List.nil_append, List.getElem?_cons_zero, List.getElem?_cons_succ, List.set_cons_zero, List.set_cons_succ, Option.some.injEq, Sl.dt.injEq, Sl.ow.injEq, PyData.int.injEq, PyData.bool.injEq, PyData.tuple.injEq, PyData.list.injEq, PyData.str.injEq, exists_eq_left, exists_eq_left', exists_eq_right, true_and, and_true, List.cons.injEq, Ob.lst.injEq, Nat.sub_zero, Nat.reduceAdd, Nat.reduceSub, List.replicate_succ, List.replicate_zero, if_true, if_false, Bool.false_eq_true, if_false, PyData.isInt, PyData.isBool, PyData.isStr, PyData.isTuple, PyData.isList, fEq_int, fNe_int, fEq_str, fNe_str, fEq_pair, fNe_pair, fNe_str1, fEq_nil, fNe_nil, atI_0, atI_1, atI_2, ixN_0, ixN_1, ixN_2, Bool.not_true, Bool.not_false, ite_true, ite_false, reduceCtorEq, ↓reduceIte, exists_and_left, exists_const, and_assoc, or_false, false_or, Nat.zero_le, Int.reduceAdd, Int.reduceNeg, Int.reduceSub, Int.reduceMul, Int.reduceLE, Int.reduceLT, Int.cast_ofNat_Int, decide_true, decide_false, eq_self, Nat.reduceLeDiff, Int.reduceEq, Int.zero_add]
      refine use_never_short ⟨okf, most0, by omega, fun t => by have := hM.2.1 t; omega⟩ ?_
      simp only [dSeq, dNext, dRet, dRetN, dIfS, dNever, dAsg, dSetO, dPar, dPar3, dAug, dDrop, dApp, dSetIx, dVar, dC, PD.d2, PD.d1, dCons, dNil, dStar, dTup, dLstN, dLst, dNew, dAnd, dOr, dNot, dIf, dB, bAnd, bOr, bNot, fAdd_ii, fAdd_tt, fAdd_ll, fSub_ii, fMul_ii, fDiv_ii, fMod_ii, fPow_ii, fNeg_i, fLt_ii, fLe_ii, fGt_ii, fGe_ii, fOpI_ii, dIs, dCall, dCallM, dCallMN, lCall, dIxO, dIsN, dNotN, fIsN_i, fIsN_n, fIsN_t, fNotN_i, fNotN_n, fNotN_t, dSl, dNo, dSome, fSl_l, fSl_t, dChain, dChain3, cLen_l, cLen_t, cInt_i, cInt_b, cAbs_i, cMax2_ii, cMin2_ii, cTuple_l, cTuple_t, cList_l, cList_t, gSet, gNilD, gConsD, gTupD, iSeq, PD.iZip, iR1, iR2, dComp, dFor, dSortedSet, dRg1, dRg2, fIx_l, fIx_t, fRev_l, fRev_t, dMove, dBreak, dCont, startD, startM, List.map_cons, List.map_nil, List.length_cons, List.length_nil, List.cons_append, List.nil_append, List.getElem?_cons_zero, List.getElem?_cons_succ, List.set_cons_zero, List.set_cons_succ, Option.some.injEq, Sl.dt.injEq, Sl.ow.injEq, PyData.int.injEq, PyData.bool.injEq, PyData.tuple.injEq, PyData.list.injEq, PyData.str.injEq, exists_eq_left, exists_eq_left', exists_eq_right, true_and, and_true, List.cons.injEq, Ob.lst.injEq, Nat.sub_zero, Nat.reduceAdd, Nat.reduceSub, List.replicate_succ, List.replicate_zero, if_true, if_false, Bool.false_eq_true, if_false, PyData.isInt, PyData.isBool, PyData.isStr, PyData.isTuple, PyData.isList, fEq_int, fNe_int, fEq_str, fNe_str, fEq_pair, fNe_pair, fNe_str1, fEq_nil, fNe_nil, atI_0, atI_1, atI_2, ixN_0, ixN_1, ixN_2, Bool.not_true, Bool.not_false, ite_true, ite_false, reduceCtorEq, ↓reduceIte, exists_and_left, exists_const, and_assoc, or_false, false_or, Nat.zero_le, Int.reduceAdd, Int.reduceNeg, Int.reduceSub, Int.reduceMul, Int.reduceLE, Int.reduceLT, Int.cast_ofNat_Int, decide_true, decide_false, eq_self, Nat.reduceLeDiff, Int.reduceEq]
      refine use_can_do ⟨okf, least0, by omega, fun t => by have := hL.2.1 t; omega⟩ ?_
      simp only [dSeq, dNext, dRet, dRetN, dIfS, dNever, dAsg, dSetO, dPar, dPar3, dAug, dDrop, dApp, dSetIx, dVar, dC, PD.d2, PD.d1, dCons, dNil, dStar, dTup, dLstN, dLst, dNew, dAnd, dOr, dNot, dIf, dB, bAnd, bOr, bNot, fAdd_ii, fAdd_tt, fAdd_ll, fSub_ii, fMul_ii, fDiv_ii, fMod_ii, fPow_ii, fNeg_i, fLt_ii, fLe_ii, fGt_ii, fGe_ii, fOpI_ii, dIs, dCall, dCallM, dCallMN, lCall, dIxO, dIsN, dNotN, fIsN_i, fIsN_n, fIsN_t, fNotN_i, fNotN_n, fNotN_t, dSl, dNo, dSome, fSl_l, fSl_t, dChain, dChain3, cLen_l, cLen_t, cInt_i, cInt_b, cAbs_i, cMax2_ii, cMin2_ii, cTuple_l, cTuple_t, cList_l, cList_t, gSet, gNilD, gConsD, gTupD, iSeq, PD.iZip, iR1, iR2, dComp, dFor, dSortedSet, dRg1, dRg2, fIx_l, fIx_t, fRev_l, fRev_t, dMove, dBreak, dCont, startD, startM, List.map_cons, List.map_nil, List.length_cons, List.length_nil, List.cons_append, List.nil_append, List.getElem?_cons_zero, List.getElem?_cons_succ, List.set_cons_zero, List.set_cons_succ, Option.some.injEq, Sl.dt.injEq, Sl.ow.injEq, PyData.int.injEq, PyData.bool.injEq, PyData.tuple.injEq, PyData.list.injEq, PyData.str.injEq, exists_eq_left, exists_eq_left', exists_eq_right, true_and, and_true, List.cons.injEq, Ob.lst.injEq, Nat.sub_zero, Nat.reduceAdd, Nat.reduceSub, List.replicate_succ, List.replicate_zero, if_true, if_false, Bool.false_eq_true, if_false, PyData.isInt, PyData.isBool, PyData.isStr, PyData.isTuple, PyData.isList, fEq_int, fNe_int, fEq_str, fNe_str, fEq_pair, fNe_pair, fNe_str1, fEq_nil, fNe_nil, atI_0, atI_1, atI_2, ixN_0, ixN_1, ixN_2, Bool.not_true, Bool.not_false, ite_true, ite_false, reduceCtorEq, ↓reduceIte, exists_and_left, exists_const, and_assoc, or_false, false_or, Nat.zero_le, Int.reduceAdd, Int.reduceNeg, Int.reduceSub, Int.reduceMul, Int.reduceLE, Int.reduceLT, Int.cast_ofNat_Int, decide_true, decide_false, eq_self, Nat.reduceLeDiff, Int.reduceEq]
      exact hN _ ⟨m4, _, _, _, _, _, _, _, _, _, _, _, _, _, _, rfl, hp4.mono (by simp only [List.length_nil]; omega)⟩
    · rw [decide_eq_false h0]
      simp only [dSeq, dNext, dRet, dRetN, dIfS, dNever, dAsg, dSetO, dPar, dPar3, dAug, dDrop, dApp, dSetIx, dVar, dC, PD.d2, PD.d1, dCons, dNil, dStar, dTup, dLstN, dLst, dNew, dAnd, dOr, dNot, dIf, dB, bAnd, bOr, bNot, fAdd_ii, fAdd_tt, fAdd_ll, fSub_ii, fMul_ii, fDiv_ii, fMod_ii, fPow_ii, fNeg_i, fLt_ii, fLe_ii, fGt_ii, fGe_ii, fOpI_ii, dIs, dCall, dCallM, dCallMN, lCall, dIxO, dIsN, dNotN, fIsN_i, fIsN_n, fIsN_t, fNotN_i, fNotN_n, fNotN_t, dSl, dNo, dSome, fSl_l, fSl_t, dChain, dChain3, cLen_l, cLen_t, cInt_i, cInt_b, cAbs_i, cMax2_ii, cMin2_ii, cTuple_l, cTuple_t, cList_l, cList_t, gSet, gNilD, gConsD, gTupD, iSeq, PD.iZip, iR1, iR2, dComp, dFor, dSortedSet, dRg1, dRg2, fIx_l, fIx_t, fRev_l, fRev_t, dMove, dBreak, dCont, startD, startM, List.map_cons, List.map_nil, List.length_cons, List.length_nil, List.cons_append, List.nil_append, List.getElem?_cons_zero, List.getElem?_cons_succ, List.set_cons_zero, List.set_cons_succ, Option.some.injEq, Sl.dt.injEq, Sl.ow.injEq, PyData.int.injEq, PyData.bool.injEq, PyData.tuple.injEq, PyData.list.injEq, PyData.str.injEq, exists_eq_left, exists_eq_left', exists_eq_right, true_and, and_true, List.cons.injEq, Ob.lst.injEq, Nat.sub_zero, Nat.reduceAdd, Nat.reduceSub, List.replicate_succ, List.replicate_zero, if_true, if_false, Bool.false_eq_true, if_false, PyData.isInt, PyData.isBool, PyData.isStr, PyData.isTuple, PyData.isList, fEq_int, fNe_int, fEq_str, fNe_str, fEq_pair, fNe_pair, fNe_str1, fEq_nil, fNe_nil, atI_0, atI_1, atI_2, ixN_0, ixN_1, ixN_2, Bool.not_true, Bool.not_false, ite_true, ite_false, reduceCtorEq, ↓reduceIte, exists_and_left, exists_const, and_assoc, or_false, false_or, Nat.zero_le, Int.reduceAdd, Int.reduceNeg, Int.reduceSub, Int.reduceMul, Int.reduceLE, Int.reduceLT, Int.cast_ofNat_Int, decide_true, decide_false, eq_self, Nat.reduceLeDiff, Int.reduceEq]
      refine ⟨by decide +kernel, use_surely_left ⟨okb, by decide, by decide, by decide, by decide⟩ ?_⟩
      rw [lendb.1, lendb.2, hend]
      simp only [dSeq, dNext, dRet, dRetN, dIfS, dNever, dAsg, dSetO, dPar, dPar3, dAug, dDrop, dApp, dSetIx, dVar, dC, PD.d2, PD.d1, dCons, dNil, dStar, dTup, dLstN, dLst, dNew, dAnd, dOr, dNot, dIf, dB, bAnd, bOr, bNot, fAdd_ii, fAdd_tt, fAdd_ll, fSub_ii, fMul_ii, fDiv_ii, fMod_ii, fPow_ii, fNeg_i, fLt_ii, fLe_ii, fGt_ii, fGe_ii, fOpI_ii, dIs, dCall, dCallM, dCallMN, lCall, dIxO, dIsN, dNotN, fIsN_i, fIsN_n, fIsN_t, fNotN_i, fNotN_n, fNotN_t, dSl, dNo, dSome, fSl_l, fSl_t, dChain, dChain3, cLen_l, cLen_t, cInt_i, cInt_b, cAbs_i, cMax2_ii, cMin2_ii, cTuple_l, cTuple_t, cList_l, cList_t, gSet, gNilD, gConsD, gTupD, iSeq, PD.iZip, iR1, iR2, dComp, dFor, dSortedSet, dRg1, dRg2, fIx_l, fIx_t, fRev_l, fRev_t, dMove, dBreak, dCont, startD, startM, List.map_cons, List.map_nil, List.length_cons, List.length_nil, List.cons_append, List.nil_append, List.getElem?_cons_zero, List.getElem?_cons_succ, List.set_cons_zero, List.set_cons_succ, Option.some.injEq, Sl.dt.injEq, Sl.ow.injEq, PyData.int.injEq, PyData.bool.injEq, PyData.tuple.injEq, PyData.list.injEq, PyData.str.injEq, exists_eq_left, exists_eq_left', exists_eq_right, true_and, and_true, List.cons.injEq, Ob.lst.injEq, Nat.sub_zero, Nat.reduceAdd, Nat.reduceSub, List.replicate_succ, List.replicate_zero, if_true, if_false, Bool.false_eq_true, if_false, PyData.isInt, PyData.isBool, PyData.isStr, PyData.isTuple, PyData.isList, fEq_int, fNe_int, fEq_str, fNe_str, fEq_pair, fNe_pair, fNe_str1, fEq_nil, fNe_nil, atI_0, atI_1, atI_2, ixN_0, ixN_1, ixN_2, Bool.not_true, Bool.not_false, ite_true, ite_false, reduceCtorEq, ↓reduceIte, exists_and_left, exists_const, and_assoc, or_false, false_or, Nat.zero_le, Int.reduceAdd, Int.reduceNeg, Int.reduceSub, Int.reduceMul, Int.reduceLE, Int.reduceLT, Int.cast_ofNat_Int, decide_true, decide_false, eq_self, Nat.reduceLeDiff, Int.reduceEq, Int.zero_add]
      refine use_never_short ⟨okf, most0, by omega, fun t => by have := hM.2.1 t; omega⟩ ?_
      simp only [dSeq, dNext, dRet, dRetN, dIfS, dNever, dAsg, dSetO, dPar, dPar3, dAug, dDrop, dApp, dSetIx, dVar, dC, PD.d2, PD.d1, dCons, dNil, dStar, dTup, dLstN, dLst, dNew, dAnd, dOr, dNot, dIf, dB, bAnd, bOr, bNot, fAdd_ii, fAdd_tt, fAdd_ll, fSub_ii, fMul_ii, fDiv_ii, fMod_ii, fPow_ii, fNeg_i, fLt_ii, fLe_ii, fGt_ii, fGe_ii, fOpI_ii, dIs, dCall, dCallM, dCallMN, lCall, dIxO, dIsN, dNotN, fIsN_i, fIsN_n, fIsN_t, fNotN_i, fNotN_n, fNotN_t, dSl, dNo, dSome, fSl_l, fSl_t, dChain, dChain3, cLen_l, cLen_t, cInt_i, cInt_b, cAbs_i, cMax2_ii, cMin2_ii, cTuple_l, cTuple_t, cList_l, cList_t, gSet, gNilD, gConsD, gTupD, iSeq, PD.iZip, iR1, iR2, dComp, dFor, dSortedSet, dRg1, dRg2, fIx_l, fIx_t, fRev_l, fRev_t, dMove, dBreak, dCont, startD, startM, List.map_cons, List.map_nil, List.length_cons, List.length_nil, List.cons_append, List.nil_append, List.getElem?_cons_zero, List.getElem?_cons_succ, List.set_cons_zero, List.set_cons_succ, Option.some.injEq, Sl.dt.injEq, Sl.ow.injEq, PyData.int.injEq, PyData.bool.injEq, PyData.tuple.injEq, PyData.list.injEq, PyData.str.injEq, exists_eq_left, exists_eq_left', exists_eq_right, true_and, and_true, List.cons.injEq, Ob.lst.injEq, Nat.sub_zero, Nat.reduceAdd, Nat.reduceSub, List.replicate_succ, List.replicate_zero, if_true, if_false, Bool.false_eq_true, if_false, PyData.isInt, PyData.isBool, PyData.isStr, PyData.isTuple, PyData.isList, fEq_int, fNe_int, fEq_str, fNe_str, fEq_pair, fNe_pair, fNe_str1, fEq_nil, fNe_nil, atI_0, atI_1, atI_2, ixN_0, ixN_1, ixN_2, Bool.not_true, Bool.not_false, ite_true, ite_false, reduceCtorEq, ↓reduceIte, exists_and_left, exists_const, and_assoc, or_false, false_or, Nat.zero_le, Int.reduceAdd, Int.reduceNeg, Int.reduceSub, Int.reduceMul, Int.reduceLE, Int.reduceLT, Int.cast_ofNat_Int, decide_true, decide_false, eq_self, Nat.reduceLeDiff, Int.reduceEq]
      refine use_can_do ⟨okf, least0, by omega, fun t => by have := hL.2.1 t; omega⟩ ?_
      simp only [dSeq, dNext, dRet, dRetN, dIfS, dNever, dAsg, dSetO, dPar, dPar3, dAug, dDrop, dApp, dSetIx, dVar, dC, PD.d2, PD.d1, dCons, dNil, dStar, dTup, dLstN, dLst, dNew, dAnd, dOr, dNot, dIf, dB, bAnd, bOr, bNot, fAdd_ii, fAdd_tt, fAdd_ll, fSub_ii, fMul_ii, fDiv_ii, fMod_ii, fPow_ii, fNeg_i, fLt_ii, fLe_ii, fGt_ii, fGe_ii, fOpI_ii, dIs, dCall, dCallM, dCallMN, lCall, dIxO, dIsN, dNotN, fIsN_i, fIsN_n, fIsN_t, fNotN_i, fNotN_n, fNotN_t, dSl, dNo, dSome, fSl_l, fSl_t, dChain, dChain3, cLen_l, cLen_t, cInt_i, cInt_b, cAbs_i, cMax2_ii, cMin2_ii, cTuple_l, cTuple_t, cList_l, cList_t, gSet, gNilD, gConsD, gTupD, iSeq, PD.iZip, iR1, iR2, dComp, dFor, dSortedSet, dRg1, dRg2, fIx_l, fIx_t, fRev_l, fRev_t, dMove, dBreak, dCont, startD, startM, List.map_cons, List.map_nil, List.length_cons, List.length_nil, List.cons_append, List.nil_append, List.getElem?_cons_zero, List.getElem?_cons_succ, List.set_cons_zero, List.set_cons_succ, Option.some.injEq, Sl.dt.injEq, Sl.ow.injEq, PyData.int.injEq, PyData.bool.injEq, PyData.tuple.injEq, PyData.list.injEq, PyData.str.injEq, exists_eq_left, exists_eq_left', exists_eq_right, true_and, and_true, List.cons.injEq, Ob.lst.injEq, Nat.sub_zero, Nat.reduceAdd, Nat.reduceSub, List.replicate_succ, List.replicate_zero, if_true, if_false, Bool.false_eq_true, if_false, PyData.isInt, PyData.isBool, PyData.isStr, PyData.isTuple, PyData.isList, fEq_int, fNe_int, fEq_str, fNe_str, fEq_pair, fNe_pair, fNe_str1, fEq_nil, fNe_nil, atI_0, atI_1, atI_2, ixN_0, ixN_1, ixN_2, Bool.not_true, Bool.not_false, ite_true, ite_false, reduceCtorEq, ↓reduceIte, exists_and_left, exists_const, and_assoc, or_false, false_or, Nat.zero_le, Int.reduceAdd, Int.reduceNeg, Int.reduceSub, Int.reduceMul, Int.reduceLE, Int.reduceLT, Int.cast_ofNat_Int, decide_true, decide_false, eq_self, Nat.reduceLeDiff, Int.reduceEq]
      exact hN _ ⟨m4, _, _, _, _, _, _, _, _, _, _, _, _, _, _, rfl, hp4.mono (by simp only [List.length_nil]; omega)⟩
  · subst he
    simp only [dSeq, dNext, dRet, dRetN, dIfS, dNever, dAsg, dSetO, dPar, dPar3, dAug, dDrop, dApp, dSetIx, dVar, dC, PD.d2, PD.d1, dCons, dNil, dStar, dTup, dLstN, dLst, dNew, dAnd, dOr, dNot, dIf, dB, bAnd, bOr, bNot, fAdd_ii, fAdd_tt, fAdd_ll, fSub_ii, fMul_ii, fDiv_ii, fMod_ii, fPow_ii, fNeg_i, fLt_ii, fLe_ii, fGt_ii, fGe_ii, fOpI_ii, dIs, dCall, dCallM, dCallMN, lCall, dIxO, dIsN, dNotN, fIsN_i, fIsN_n, fIsN_t, fNotN_i, fNotN_n, fNotN_t, dSl, dNo, dSome, fSl_l, fSl_t, dChain, dChain3, cLen_l, cLen_t, cInt_i, cInt_b, cAbs_i, cMax2_ii, cMin2_ii, cTuple_l, cTuple_t, cList_l, cList_t, gSet, gNilD, gConsD, gTupD, iSeq, PD.iZip, iR1, iR2, dComp, dFor, dSortedSet, dRg1, dRg2, fIx_l, fIx_t, fRev_l, fRev_t, dMove, dBreak, dCont, startD, startM, List.map_cons, List.map_nil, List.length_cons, List.length_nil, List.cons_append, List.nil_append, List.getElem?_cons_zero, List.getElem?_cons_succ, List.set_cons_zero, List.set_cons_succ, Option.some.injEq, Sl.dt.injEq, Sl.ow.injEq, PyData.int.injEq, PyData.bool.injEq, PyData.tuple.injEq, PyData.list.injEq, PyData.str.injEq, exists_eq_left, exists_eq_left', exists_eq_right, true_and, and_true, List.cons.injEq, Ob.lst.injEq, Nat.sub_zero, Nat.reduceAdd, Nat.reduceSub, List.replicate_succ, List.replicate_zero, if_true, if_false, Bool.false_eq_true, if_false, PyData.isInt, PyData.isBool, PyData.isStr, PyData.isTuple, PyData.isList, fEq_int, fNe_int, fEq_str, fNe_str, fEq_pair, fNe_pair, fNe_str1, fEq_nil, fNe_nil, atI_0, atI_1, atI_2, ixN_0, ixN_1, ixN_2, Bool.not_true, Bool.not_false, ite_true, ite_false, reduceCtorEq, ↓reduceIte, exists_and_left, exists_const, and_assoc, or_false, false_or, Nat.zero_le, Int.reduceAdd, Int.reduceNeg, Int.reduceSub, Int.reduceMul, Int.reduceLE, Int.reduceLT, Int.cast_ofNat_Int, decide_true, decide_false, eq_self, Nat.reduceLeDiff, Int.reduceEq]
    have ok0 : FlsOk [] := ⟨by decide, by simp⟩
    have e0 : PyData.tuple [] = encFs [] := rfl
    have z0 : ∀ {g : Fl → Int} {m : Int}, IsLow [] (([] : List Fl).map g) (-m) → m = 0 := fun {g m} h => by
      obtain ⟨h1, _, h3⟩ := h
      rcases h3 with h3 | ⟨t, h3⟩
      · omega
      · have : lowAt [] (([] : List Fl).map g) t = 0 := rfl
        omega
    rw [e0]
    refine use_cash_needed ok0 ?_
    rintro _ ⟨m1, h1, rfl⟩
    obtain rfl := z0 h1
    simp only [dSeq, dNext, dRet, dRetN, dIfS, dNever, dAsg, dSetO, dPar, dPar3, dAug, dDrop, dApp, dSetIx, dVar, dC, PD.d2, PD.d1, dCons, dNil, dStar, dTup, dLstN, dLst, dNew, dAnd, dOr, dNot, dIf, dB, bAnd, bOr, bNot, fAdd_ii, fAdd_tt, fAdd_ll, fSub_ii, fMul_ii, fDiv_ii, fMod_ii, fPow_ii, fNeg_i, fLt_ii, fLe_ii, fGt_ii, fGe_ii, fOpI_ii, dIs, dCall, dCallM, dCallMN, lCall, dIxO, dIsN, dNotN, fIsN_i, fIsN_n, fIsN_t, fNotN_i, fNotN_n, fNotN_t, dSl, dNo, dSome, fSl_l, fSl_t, dChain, dChain3, cLen_l, cLen_t, cInt_i, cInt_b, cAbs_i, cMax2_ii, cMin2_ii, cTuple_l, cTuple_t, cList_l, cList_t, gSet, gNilD, gConsD, gTupD, iSeq, PD.iZip, iR1, iR2, dComp, dFor, dSortedSet, dRg1, dRg2, fIx_l, fIx_t, fRev_l, fRev_t, dMove, dBreak, dCont, startD, startM, List.map_cons, List.map_nil, List.length_cons, List.length_nil, List.cons_append, List.nil_append, List.getElem?_cons_zero, List.getElem?_cons_succ, List.set_cons_zero, List.set_cons_succ, Option.some.injEq, Sl.dt.injEq, Sl.ow.injEq, PyData.int.injEq, PyData.bool.injEq, PyData.tuple.injEq, PyData.list.injEq, PyData.str.injEq, exists_eq_left, exists_eq_left', exists_eq_right, true_and, and_true, List.cons.injEq, Ob.lst.injEq, Nat.sub_zero, Nat.reduceAdd, Nat.reduceSub, List.replicate_succ, List.replicate_zero, if_true, if_false, Bool.false_eq_true, if_false, PyData.isInt, PyData.isBool, PyData.isStr, PyData.isTuple, PyData.isList, fEq_int, fNe_int, fEq_str, fNe_str, fEq_pair, fNe_pair, fNe_str1, fEq_nil, fNe_nil, atI_0, atI_1, atI_2, ixN_0, ixN_1, ixN_2, Bool.not_true, Bool.not_false, ite_true, ite_false, reduceCtorEq, ↓reduceIte, exists_and_left, exists_const, and_assoc, or_false, false_or, Nat.zero_le, Int.reduceAdd, Int.reduceNeg, Int.reduceSub, Int.reduceMul, Int.reduceLE, Int.reduceLT, Int.cast_ofNat_Int, decide_true, decide_false, eq_self, Nat.reduceLeDiff, Int.reduceEq]
    refine use_least_to_start ok0 ?_
    rintro _ ⟨m2, h2, rfl⟩
    obtain rfl := z0 h2
    simp only [dSeq, dNext, dRet, dRetN, dIfS, dNever, dAsg, dSetO, dPar, dPar3, dAug, dDrop, dApp, dSetIx, dVar, dC, PD.d2, PD.d1, dCons, dNil, dStar, dTup, dLstN, dLst, dNew, dAnd, dOr, dNot, dIf, dB, bAnd, bOr, bNot, fAdd_ii, fAdd_tt, fAdd_ll, fSub_ii, fMul_ii, fDiv_ii, fMod_ii, fPow_ii, fNeg_i, fLt_ii, fLe_ii, fGt_ii, fGe_ii, fOpI_ii, dIs, dCall, dCallM, dCallMN, lCall, dIxO, dIsN, dNotN, fIsN_i, fIsN_n, fIsN_t, fNotN_i, fNotN_n, fNotN_t, dSl, dNo, dSome, fSl_l, fSl_t, dChain, dChain3, cLen_l, cLen_t, cInt_i, cInt_b, cAbs_i, cMax2_ii, cMin2_ii, cTuple_l, cTuple_t, cList_l, cList_t, gSet, gNilD, gConsD, gTupD, iSeq, PD.iZip, iR1, iR2, dComp, dFor, dSortedSet, dRg1, dRg2, fIx_l, fIx_t, fRev_l, fRev_t, dMove, dBreak, dCont, startD, startM, List.map_cons, List.map_nil, List.length_cons, List.length_nil, List.cons_append, List.nil_append, List.getElem?_cons_zero, List.getElem?_cons_succ, List.set_cons_zero, List.set_cons_succ, Option.some.injEq, Sl.dt.injEq, Sl.ow.injEq, PyData.int.injEq, PyData.bool.injEq, PyData.tuple.injEq, PyData.list.injEq, PyData.str.injEq, exists_eq_left, exists_eq_left', exists_eq_right, true_and, and_true, List.cons.injEq, Ob.lst.injEq, Nat.sub_zero, Nat.reduceAdd, Nat.reduceSub, List.replicate_succ, List.replicate_zero, if_true, if_false, Bool.false_eq_true, if_false, PyData.isInt, PyData.isBool, PyData.isStr, PyData.isTuple, PyData.isList, fEq_int, fNe_int, fEq_str, fNe_str, fEq_pair, fNe_pair, fNe_str1, fEq_nil, fNe_nil, atI_0, atI_1, atI_2, ixN_0, ixN_1, ixN_2, Bool.not_true, Bool.not_false, ite_true, ite_false, reduceCtorEq, ↓reduceIte, exists_and_left, exists_const, and_assoc, or_false, false_or, Nat.zero_le, Int.reduceAdd, Int.reduceNeg, Int.reduceSub, Int.reduceMul, Int.reduceLE, Int.reduceLT, Int.cast_ofNat_Int, decide_true, decide_false, eq_self, Nat.reduceLeDiff, Int.reduceEq]
    refine use_can_do ⟨ok0, by decide, by decide, fun t => Int.le_refl 0⟩ ?_
    have e1 : ∀ Q : D → Prop, Q (.bool true) → fEq (.tuple [.str "course", .tuple (([] : List Fl).map best |>.map PyData.int)]) (.tuple [.str "course", encFs []]) Q := fun Q h => ⟨.inl (by decide), h⟩
    exact e1 _ (q _ _ rfl)


def S_law : FC := SpC fun ds_ P_ => ∃ (ns : List Int), ds_ = [.list (ns.map PyData.int)] ∧ (True) ∧ P_ = fun d => d = .bool true
theorem up_law : UpC S_law := up_SpC
theorem use_law {ns : List Int} {Q : D → Prop} (pre : True) (h : Q (.bool true)) : S_law [.list (ns.map PyData.int)] Q := ⟨_, ⟨ns, rfl, pre, rfl⟩, fun d e => e ▸ h⟩
set_option maxHeartbeats 4000000 in
theorem ok_law (T : Tx mg) {f : Addr} {fd : FuncData} (F : Fun K "law" "law" s_law f fd) (h_law_cells : OkAt P w K mg base "_law_cells" p__law_cells 1 (spP K S_law_cells)) (h_law_right : OkAt P w K mg base "_law_right" p__law_right 7 (spM K S_law_right)) (h_law_pot : OkAt P w K mg base "_law_pot" p__law_pot 1 (spL K S_law_pot)) : FnOk P w K mg base CX0 8 f fd p_law (spP K S_law) := by
  have nd := sc_law.nd
  refine fn_okP F sc_law (by rintro ds Q ⟨P, ⟨ns, rfl, _, _⟩, _⟩; rfl) fun cdv A outer s H E hr => ⟨_, (ssd_one (sd_ret (ed_call (fun h => pe_callB (cr_all rfl) (by rfl) T.all PyProof.Rows.boot_all h) lk_all up_all (ad_cons (ed_new (ld_comp (own := [("place", 1)]) rfl nd (id_seq (ed_fnA h_law_cells up_law_cells (hr.mono (by decide)) (by rfl) (ad_cons (ed_var (pv 0)) (ad_cons ed_int ad_nil)))) (blkOk_by (N := N_law) (sc := defScope s_law) (by decide +kernel)) (by decide) (fun _ _ _ _ _ => (gd_name (pg_name (i := 1) nd rfl (by first | exact Or.inl rfl | exact Or.inr rfl)))) (fun _ _ _ _ _ => tsd_nil) (fun _ _ _ _ _ => (ed_fnMN h_law_right up_law_right hr (by rfl) (ld_fnL h_law_pot up_law_pot (hr.mono (by decide)) (by rfl) (ad_cons (ed_var (pv 0)) (ad_cons (ed_var (pv 1)) ad_nil))) ad_nil)) s)) ad_nil)))), fun ds Q h => ?_⟩
  obtain ⟨P, ⟨ns, rfl, pre, rfl⟩, q⟩ := h
  replace q := q _ rfl
  simp only [dSeq, dNext, dRet, dRetN, dIfS, dNever, dAsg, dSetO, dPar, dPar3, dAug, dDrop, dApp, dSetIx, dVar, dC, PD.d2, PD.d1, dCons, dNil, dStar, dTup, dLstN, dLst, dNew, dAnd, dOr, dNot, dIf, dB, bAnd, bOr, bNot, fAdd_ii, fAdd_tt, fAdd_ll, fSub_ii, fMul_ii, fDiv_ii, fMod_ii, fPow_ii, fNeg_i, fLt_ii, fLe_ii, fGt_ii, fGe_ii, fOpI_ii, dIs, dCall, dCallM, dCallMN, lCall, dIxO, dIsN, dNotN, fIsN_i, fIsN_n, fIsN_t, fNotN_i, fNotN_n, fNotN_t, dSl, dNo, dSome, fSl_l, fSl_t, dChain, dChain3, cLen_l, cLen_t, cInt_i, cInt_b, cAbs_i, cMax2_ii, cMin2_ii, cTuple_l, cTuple_t, cList_l, cList_t, gSet, gNilD, gConsD, gTupD, iSeq, PD.iZip, iR1, iR2, dComp, dFor, dSortedSet, dRg1, dRg2, fIx_l, fIx_t, fRev_l, fRev_t, dMove, dBreak, dCont, startD, startM, List.map_cons, List.map_nil, List.length_cons, List.length_nil, List.cons_append, List.nil_append, List.getElem?_cons_zero, List.getElem?_cons_succ, List.set_cons_zero, List.set_cons_succ, Option.some.injEq, Sl.dt.injEq, Sl.ow.injEq, PyData.int.injEq, PyData.bool.injEq, PyData.tuple.injEq, PyData.list.injEq, PyData.str.injEq, exists_eq_left, exists_eq_left', exists_eq_right, true_and, and_true, List.cons.injEq, Ob.lst.injEq, Nat.sub_zero, Nat.reduceAdd, Nat.reduceSub, List.replicate_succ, List.replicate_zero, if_true, if_false, Bool.false_eq_true, if_false, PyData.isInt, PyData.isBool, PyData.isStr, PyData.isTuple, PyData.isList, fEq_int, fNe_int, fEq_str, fNe_str, fEq_pair, fNe_pair, fNe_str1, fEq_nil, fNe_nil, atI_0, atI_1, atI_2, ixN_0, ixN_1, ixN_2, Bool.not_true, Bool.not_false, ite_true, ite_false, reduceCtorEq, ↓reduceIte, exists_and_left, exists_const, and_assoc, or_false, false_or, Nat.zero_le, Int.reduceAdd, Int.reduceNeg, Int.reduceSub, Int.reduceMul, Int.reduceLE, Int.reduceLT, Int.cast_ofNat_Int, decide_true, decide_false, eq_self, Nat.reduceLeDiff, Int.reduceEq]
  refine use_law_cells ⟨by decide, by decide⟩ ?_
  rintro _ ⟨n, n0, n1, rfl⟩
  refine ⟨_, .inl rfl, by rw [rangeD_len]; omega, ?_⟩
  refine comp_all PyData.int (fun _ => .bool true) ((List.range n).map fun (i : Nat) => (0 : Int) + (i : Int) * 1) rangeD_map (fun a ha K hK => ?_) fun e2 he2 => ?_
  · obtain ⟨i, hi, rfl⟩ := List.mem_map.mp ha
    have := List.mem_range.mp hi
    simp only [restD_c, restD_n, keepD_d, keepD_n, keepD_o, wipeD_c, wipeD_n, List.getElem?_cons_zero, List.getElem?_cons_succ, List.set_cons_zero, List.set_cons_succ, dSeq, dNext, dRet, dRetN, dIfS, dNever, dAsg, dSetO, dPar, dPar3, dAug, dDrop, dApp, dSetIx, dVar, dC, PD.d2, PD.d1, dCons, dNil, dStar, dTup, dLstN, dLst, dNew, dAnd, dOr, dNot, dIf, dB, bAnd, bOr, bNot, fAdd_ii, fAdd_tt, fAdd_ll, fSub_ii, fMul_ii, fDiv_ii, fMod_ii, fPow_ii, fNeg_i, fLt_ii, fLe_ii, fGt_ii, fGe_ii, fOpI_ii, dIs, dCall, dCallM, dCallMN, lCall, dIxO, dIsN, dNotN, fIsN_i, fIsN_n, fIsN_t, fNotN_i, fNotN_n, fNotN_t, dSl, dNo, dSome, fSl_l, fSl_t, dChain, dChain3, cLen_l, cLen_t, cInt_i, cInt_b, cAbs_i, cMax2_ii, cMin2_ii, cTuple_l, cTuple_t, cList_l, cList_t, gSet, gNilD, gConsD, gTupD, iSeq, PD.iZip, iR1, iR2, dComp, dFor, dSortedSet, dRg1, dRg2, fIx_l, fIx_t, fRev_l, fRev_t, dMove, dBreak, dCont, startD, startM, List.map_cons, List.map_nil, List.length_cons, List.length_nil, List.cons_append, List.nil_append, List.getElem?_cons_zero, List.getElem?_cons_succ, List.set_cons_zero, List.set_cons_succ, Option.some.injEq, Sl.dt.injEq, Sl.ow.injEq, PyData.int.injEq, PyData.bool.injEq, PyData.tuple.injEq, PyData.list.injEq, PyData.str.injEq, exists_eq_left, exists_eq_left', exists_eq_right, true_and, and_true, List.cons.injEq, Ob.lst.injEq, Nat.sub_zero, Nat.reduceAdd, Nat.reduceSub, List.replicate_succ, List.replicate_zero, if_true, if_false, Bool.false_eq_true, if_false, PyData.isInt, PyData.isBool, PyData.isStr, PyData.isTuple, PyData.isList, fEq_int, fNe_int, fEq_str, fNe_str, fEq_pair, fNe_pair, fNe_str1, fEq_nil, fNe_nil, atI_0, atI_1, atI_2, ixN_0, ixN_1, ixN_2, Bool.not_true, Bool.not_false, ite_true, ite_false, reduceCtorEq, ↓reduceIte, exists_and_left, exists_const, and_assoc, or_false, false_or, Nat.zero_le, Int.reduceAdd, Int.reduceNeg, Int.reduceSub, Int.reduceMul, Int.reduceLE, Int.reduceLT, Int.cast_ofNat_Int, decide_true, decide_false, eq_self, Nat.reduceLeDiff, Int.reduceEq]
    refine use_law_pot ⟨by omega, by omega⟩ fun d hd => ?_
    refine use_law_right (hd.mono (by decide)) ?_
    rintro _ m' rfl
    exact hK _ rfl
  · refine cAll_of (ns := ((List.range n).map fun (i : Nat) => (0 : Int) + (i : Int) * 1).map fun _ => true) (by rw [List.map_map, List.map_map, List.map_map]; rfl) ?_
    rw [all_map, List.all_eq_true.mpr fun _ _ => rfl]
    exact q

end
end K21

namespace K21
open PySem PySem.Spec PyProof.Rows L2 PD

theorem tx_int {K : PySem.W.Frag} {h : Heap} {mg : Str → Option Value} {n : Str} {i : Int} {t : Tok} (X : K.In h) (G : h.Ns mainGlobals mg) (e : PySem.W.nsIn K mainGlobals n = some (some (.int i t))) : ∃ t, mg n = some (.int i t) := ⟨t, PySem.W.mg_of X G e⟩
theorem tx_str {K : PySem.W.Frag} {h : Heap} {mg : Str → Option Value} {n : Str} {i : Str} {t : Tok} (X : K.In h) (G : h.Ns mainGlobals mg) (e : PySem.W.nsIn K mainGlobals n = some (some (.str i t))) : ∃ t, mg n = some (.str i t) := ⟨t, PySem.W.mg_of X G e⟩
theorem at_mk {K : PySem.W.Frag} {h : Heap} {mg : Str → Option Value} {x : Str} {st : Stmt} {ps : List Str} {f : Addr} {oc : Value} {od an : Option Addr} {osl : Array (Option Value)} {kV doc pm cdv ct : Value} (X : K.In h) (G : h.Ns mainGlobals mg)
    (a : PySem.W.nsIn K mainGlobals x = some (some (.ref f))) (l : K.lookup f = some ⟨oc, od, .func (PySem.W.fnOf x x (defArgs st) (defBody st) (defScope st) .none kV doc pm an cdv ct), osl⟩) (c : PySem.W.codeIn K cdv x = true) (k : PySem.W.keepIn K (.ref f) = true)
    (b : ∀ (kV doc pm : Value) (an : Option Addr) (cdv ct : Value) (us : List Value), us.length = ps.length → bindArgs (PySem.W.fnOf x x (defArgs st) (defBody st) (defScope st) .none kV doc pm an cdv ct) ⟨us, []⟩ = pure (ps.zip us)) : FunAt K mg x st ps :=
  ⟨f, _, fun_mk l c k, PySem.W.mg_of X G a, (fun_mk l c k).binds b⟩
theorem b_is_int : ∀ (kV doc pm : Value) (an : Option Addr) (cdv ct : Value) (us : List Value), us.length = p_is_int.length → bindArgs (PySem.W.fnOf "is_int" "is_int" (defArgs s_is_int) (defBody s_is_int) (defScope s_is_int) .none kV doc pm an cdv ct) ⟨us, []⟩ = pure (p_is_int.zip us) := fun _ _ _ _ _ _ us hl => match us, hl with | [_, _, _], _ => rfl
theorem b_are_ints : ∀ (kV doc pm : Value) (an : Option Addr) (cdv ct : Value) (us : List Value), us.length = p_are_ints.length → bindArgs (PySem.W.fnOf "are_ints" "are_ints" (defArgs s_are_ints) (defBody s_are_ints) (defScope s_are_ints) .none kV doc pm an cdv ct) ⟨us, []⟩ = pure (p_are_ints.zip us) := fun _ _ _ _ _ _ us hl => match us, hl with | [_, _, _], _ => rfl
theorem b_is_flow : ∀ (kV doc pm : Value) (an : Option Addr) (cdv ct : Value) (us : List Value), us.length = p_is_flow.length → bindArgs (PySem.W.fnOf "is_flow" "is_flow" (defArgs s_is_flow) (defBody s_is_flow) (defScope s_is_flow) .none kV doc pm an cdv ct) ⟨us, []⟩ = pure (p_is_flow.zip us) := fun _ _ _ _ _ _ us hl => match us, hl with | [_], _ => rfl
theorem b_are_flows : ∀ (kV doc pm : Value) (an : Option Addr) (cdv ct : Value) (us : List Value), us.length = p_are_flows.length → bindArgs (PySem.W.fnOf "are_flows" "are_flows" (defArgs s_are_flows) (defBody s_are_flows) (defScope s_are_flows) .none kV doc pm an cdv ct) ⟨us, []⟩ = pure (p_are_flows.zip us) := fun _ _ _ _ _ _ us hl => match us, hl with | [_], _ => rfl
theorem b_look_at_flows : ∀ (kV doc pm : Value) (an : Option Addr) (cdv ct : Value) (us : List Value), us.length = p_look_at_flows.length → bindArgs (PySem.W.fnOf "look_at_flows" "look_at_flows" (defArgs s_look_at_flows) (defBody s_look_at_flows) (defScope s_look_at_flows) .none kV doc pm an cdv ct) ⟨us, []⟩ = pure (p_look_at_flows.zip us) := fun _ _ _ _ _ _ us hl => match us, hl with | [_, _], _ => rfl
theorem b_is_course : ∀ (kV doc pm : Value) (an : Option Addr) (cdv ct : Value) (us : List Value), us.length = p_is_course.length → bindArgs (PySem.W.fnOf "is_course" "is_course" (defArgs s_is_course) (defBody s_is_course) (defScope s_is_course) .none kV doc pm an cdv ct) ⟨us, []⟩ = pure (p_is_course.zip us) := fun _ _ _ _ _ _ us hl => match us, hl with | [_, _], _ => rfl
theorem b_told_lows : ∀ (kV doc pm : Value) (an : Option Addr) (cdv ct : Value) (us : List Value), us.length = p_told_lows.length → bindArgs (PySem.W.fnOf "told_lows" "told_lows" (defArgs s_told_lows) (defBody s_told_lows) (defScope s_told_lows) .none kV doc pm an cdv ct) ⟨us, []⟩ = pure (p_told_lows.zip us) := fun _ _ _ _ _ _ us hl => match us, hl with | [_, _], _ => rfl
theorem b_lows_of : ∀ (kV doc pm : Value) (an : Option Addr) (cdv ct : Value) (us : List Value), us.length = p_lows_of.length → bindArgs (PySem.W.fnOf "lows_of" "lows_of" (defArgs s_lows_of) (defBody s_lows_of) (defScope s_lows_of) .none kV doc pm an cdv ct) ⟨us, []⟩ = pure (p_lows_of.zip us) := fun _ _ _ _ _ _ us hl => match us, hl with | [_, _, _], _ => rfl
theorem b_told_worst : ∀ (kV doc pm : Value) (an : Option Addr) (cdv ct : Value) (us : List Value), us.length = p_told_worst.length → bindArgs (PySem.W.fnOf "told_worst" "told_worst" (defArgs s_told_worst) (defBody s_told_worst) (defScope s_told_worst) .none kV doc pm an cdv ct) ⟨us, []⟩ = pure (p_told_worst.zip us) := fun _ _ _ _ _ _ us hl => match us, hl with | [_], _ => rfl
theorem b_told_least : ∀ (kV doc pm : Value) (an : Option Addr) (cdv ct : Value) (us : List Value), us.length = p_told_least.length → bindArgs (PySem.W.fnOf "told_least" "told_least" (defArgs s_told_least) (defBody s_told_least) (defScope s_told_least) .none kV doc pm an cdv ct) ⟨us, []⟩ = pure (p_told_least.zip us) := fun _ _ _ _ _ _ us hl => match us, hl with | [_], _ => rfl
theorem b_never_short : ∀ (kV doc pm : Value) (an : Option Addr) (cdv ct : Value) (us : List Value), us.length = p_never_short.length → bindArgs (PySem.W.fnOf "never_short" "never_short" (defArgs s_never_short) (defBody s_never_short) (defScope s_never_short) .none kV doc pm an cdv ct) ⟨us, []⟩ = pure (p_never_short.zip us) := fun _ _ _ _ _ _ us hl => match us, hl with | [_, _], _ => rfl
theorem b_cash_needed : ∀ (kV doc pm : Value) (an : Option Addr) (cdv ct : Value) (us : List Value), us.length = p_cash_needed.length → bindArgs (PySem.W.fnOf "cash_needed" "cash_needed" (defArgs s_cash_needed) (defBody s_cash_needed) (defScope s_cash_needed) .none kV doc pm an cdv ct) ⟨us, []⟩ = pure (p_cash_needed.zip us) := fun _ _ _ _ _ _ us hl => match us, hl with | [_], _ => rfl
theorem b_told_best : ∀ (kV doc pm : Value) (an : Option Addr) (cdv ct : Value) (us : List Value), us.length = p_told_best.length → bindArgs (PySem.W.fnOf "told_best" "told_best" (defArgs s_told_best) (defBody s_told_best) (defScope s_told_best) .none kV doc pm an cdv ct) ⟨us, []⟩ = pure (p_told_best.zip us) := fun _ _ _ _ _ _ us hl => match us, hl with | [_], _ => rfl
theorem b_can_do : ∀ (kV doc pm : Value) (an : Option Addr) (cdv ct : Value) (us : List Value), us.length = p_can_do.length → bindArgs (PySem.W.fnOf "can_do" "can_do" (defArgs s_can_do) (defBody s_can_do) (defScope s_can_do) .none kV doc pm an cdv ct) ⟨us, []⟩ = pure (p_can_do.zip us) := fun _ _ _ _ _ _ us hl => match us, hl with | [_, _], _ => rfl
theorem b_least_to_start : ∀ (kV doc pm : Value) (an : Option Addr) (cdv ct : Value) (us : List Value), us.length = p_least_to_start.length → bindArgs (PySem.W.fnOf "least_to_start" "least_to_start" (defArgs s_least_to_start) (defBody s_least_to_start) (defScope s_least_to_start) .none kV doc pm an cdv ct) ⟨us, []⟩ = pure (p_least_to_start.zip us) := fun _ _ _ _ _ _ us hl => match us, hl with | [_], _ => rfl
theorem b_surely_left : ∀ (kV doc pm : Value) (an : Option Addr) (cdv ct : Value) (us : List Value), us.length = p_surely_left.length → bindArgs (PySem.W.fnOf "surely_left" "surely_left" (defArgs s_surely_left) (defBody s_surely_left) (defScope s_surely_left) .none kV doc pm an cdv ct) ⟨us, []⟩ = pure (p_surely_left.zip us) := fun _ _ _ _ _ _ us hl => match us, hl with | [_, _, _], _ => rfl
theorem b_law_pot : ∀ (kV doc pm : Value) (an : Option Addr) (cdv ct : Value) (us : List Value), us.length = p__law_pot.length → bindArgs (PySem.W.fnOf "_law_pot" "_law_pot" (defArgs s__law_pot) (defBody s__law_pot) (defScope s__law_pot) .none kV doc pm an cdv ct) ⟨us, []⟩ = pure (p__law_pot.zip us) := fun _ _ _ _ _ _ us hl => match us, hl with | [_, _], _ => rfl
theorem b_law_take : ∀ (kV doc pm : Value) (an : Option Addr) (cdv ct : Value) (us : List Value), us.length = p__law_take.length → bindArgs (PySem.W.fnOf "_law_take" "_law_take" (defArgs s__law_take) (defBody s__law_take) (defScope s__law_take) .none kV doc pm an cdv ct) ⟨us, []⟩ = pure (p__law_take.zip us) := fun _ _ _ _ _ _ us hl => match us, hl with | [_, _], _ => rfl
theorem b_law_of : ∀ (kV doc pm : Value) (an : Option Addr) (cdv ct : Value) (us : List Value), us.length = p__law_of.length → bindArgs (PySem.W.fnOf "_law_of" "_law_of" (defArgs s__law_of) (defBody s__law_of) (defScope s__law_of) .none kV doc pm an cdv ct) ⟨us, []⟩ = pure (p__law_of.zip us) := fun _ _ _ _ _ _ us hl => match us, hl with | [_, _], _ => rfl
theorem b_law_cells : ∀ (kV doc pm : Value) (an : Option Addr) (cdv ct : Value) (us : List Value), us.length = p__law_cells.length → bindArgs (PySem.W.fnOf "_law_cells" "_law_cells" (defArgs s__law_cells) (defBody s__law_cells) (defScope s__law_cells) .none kV doc pm an cdv ct) ⟨us, []⟩ = pure (p__law_cells.zip us) := fun _ _ _ _ _ _ us hl => match us, hl with | [_, _], _ => rfl
theorem b_law_drawn : ∀ (kV doc pm : Value) (an : Option Addr) (cdv ct : Value) (us : List Value), us.length = p__law_drawn.length → bindArgs (PySem.W.fnOf "_law_drawn" "_law_drawn" (defArgs s__law_drawn) (defBody s__law_drawn) (defScope s__law_drawn) .none kV doc pm an cdv ct) ⟨us, []⟩ = pure (p__law_drawn.zip us) := fun _ _ _ _ _ _ us hl => match us, hl with | [_], _ => rfl
theorem b_law_narrowed : ∀ (kV doc pm : Value) (an : Option Addr) (cdv ct : Value) (us : List Value), us.length = p__law_narrowed.length → bindArgs (PySem.W.fnOf "_law_narrowed" "_law_narrowed" (defArgs s__law_narrowed) (defBody s__law_narrowed) (defScope s__law_narrowed) .none kV doc pm an cdv ct) ⟨us, []⟩ = pure (p__law_narrowed.zip us) := fun _ _ _ _ _ _ us hl => match us, hl with | [_, _], _ => rfl
theorem b_law_right : ∀ (kV doc pm : Value) (an : Option Addr) (cdv ct : Value) (us : List Value), us.length = p__law_right.length → bindArgs (PySem.W.fnOf "_law_right" "_law_right" (defArgs s__law_right) (defBody s__law_right) (defScope s__law_right) .none kV doc pm an cdv ct) ⟨us, []⟩ = pure (p__law_right.zip us) := fun _ _ _ _ _ _ us hl => match us, hl with | [_], _ => rfl

theorem all_mk {P : Program} {w : World} {K : PySem.W.Frag} {h : Heap} {mg : Str → Option Value} {fa f : Addr} {oc : Value} {od an : Option Addr} {osl : Array (Option Value)} {kV doc pm cdv ct : Value} (X : K.In h) (G : h.Ns mainGlobals mg) (hfa : mg "law" = some (.ref fa)) (T : Tx mg) (F_is_int : FunAt K mg "is_int" s_is_int p_is_int) (F_are_ints : FunAt K mg "are_ints" s_are_ints p_are_ints) (F_is_flow : FunAt K mg "is_flow" s_is_flow p_is_flow) (F_are_flows : FunAt K mg "are_flows" s_are_flows p_are_flows) (F_look_at_flows : FunAt K mg "look_at_flows" s_look_at_flows p_look_at_flows) (F_is_course : FunAt K mg "is_course" s_is_course p_is_course) (F_told_lows : FunAt K mg "told_lows" s_told_lows p_told_lows) (F_lows_of : FunAt K mg "lows_of" s_lows_of p_lows_of) (F_told_worst : FunAt K mg "told_worst" s_told_worst p_told_worst) (F_told_least : FunAt K mg "told_least" s_told_least p_told_least) (F_never_short : FunAt K mg "never_short" s_never_short p_never_short) (F_cash_needed : FunAt K mg "cash_needed" s_cash_needed p_cash_needed) (F_told_best : FunAt K mg "told_best" s_told_best p_told_best) (F_can_do : FunAt K mg "can_do" s_can_do p_can_do) (F_least_to_start : FunAt K mg "least_to_start" s_least_to_start p_least_to_start) (F_surely_left : FunAt K mg "surely_left" s_surely_left p_surely_left) (F_law_pot : FunAt K mg "_law_pot" s__law_pot p__law_pot) (F_law_take : FunAt K mg "_law_take" s__law_take p__law_take) (F_law_of : FunAt K mg "_law_of" s__law_of p__law_of) (F_law_cells : FunAt K mg "_law_cells" s__law_cells p__law_cells) (F_law_drawn : FunAt K mg "_law_drawn" s__law_drawn p__law_drawn) (F_law_narrowed : FunAt K mg "_law_narrowed" s__law_narrowed p__law_narrowed) (F_law_right : FunAt K mg "_law_right" s__law_right p__law_right)
    (al : PySem.W.nsIn K mainGlobals "law" = some (some (.ref f))) (ll : K.lookup f = some ⟨oc, od, .func (PySem.W.fnOf "law" "law" (defArgs s_law) (defBody s_law) (defScope s_law) .none kV doc pm an cdv ct), osl⟩) (cl : PySem.W.codeIn K cdv "law" = true) (kl : PySem.W.keepIn K (.ref f) = true) :
    ∃ fd : FuncData, (∀ (s : Shared) (u : Value), BindsTo s fd ⟨[u], []⟩ [("script", u)]) ∧ ∀ base : Heap, K.In base → base.Ns mainGlobals mg → FnOk P w K mg base CX0 8 fa fd ["script"] (spP K S_law) := by
  have e := hfa.symm.trans (PySem.W.mg_of X G al)
  cases e
  refine ⟨PySem.W.fnOf "law" "law" (defArgs s_law) (defBody s_law) (defScope s_law) .none kV doc pm an cdv ct, fun s u => .of_eq rfl, fun base _ _ => ?_⟩
  have F_law := fun_mk (st := s_law) ll cl kl
  have O_is_int := ok_is_int (P := P) (w := w) (base := base) T F_is_int 
  have O_told_lows := ok_told_lows (P := P) (w := w) (base := base) T F_told_lows 
  have O_told_worst := ok_told_worst (P := P) (w := w) (base := base) T F_told_worst 
  have O_told_best := ok_told_best (P := P) (w := w) (base := base) T F_told_best 
  have O_law_pot := ok_law_pot (P := P) (w := w) (base := base) T F_law_pot 
  have O_law_take := ok_law_take (P := P) (w := w) (base := base) T F_law_take 
  have O_law_cells := ok_law_cells (P := P) (w := w) (base := base) T F_law_cells 
  have O_are_ints := ok_are_ints (P := P) (w := w) (base := base) T F_are_ints O_is_int
  have O_told_least := ok_told_least (P := P) (w := w) (base := base) T F_told_least O_told_lows O_told_worst
  have O_law_of := ok_law_of (P := P) (w := w) (base := base) T F_law_of O_law_take
  have O_law_narrowed := ok_law_narrowed (P := P) (w := w) (base := base) T F_law_narrowed O_law_take
  have O_is_flow := ok_is_flow (P := P) (w := w) (base := base) T F_is_flow O_is_int O_are_ints
  have O_is_course := ok_is_course (P := P) (w := w) (base := base) T F_is_course O_are_ints
  have O_law_drawn := ok_law_drawn (P := P) (w := w) (base := base) T F_law_drawn O_law_take O_law_of
  have O_are_flows := ok_are_flows (P := P) (w := w) (base := base) T F_are_flows O_is_flow
  have O_look_at_flows := ok_look_at_flows (P := P) (w := w) (base := base) T F_look_at_flows O_are_flows O_is_int
  have O_lows_of := ok_lows_of (P := P) (w := w) (base := base) T F_lows_of O_told_lows O_is_course O_look_at_flows
  have O_never_short := ok_never_short (P := P) (w := w) (base := base) T F_never_short O_told_worst O_told_least O_look_at_flows
  have O_cash_needed := ok_cash_needed (P := P) (w := w) (base := base) T F_cash_needed O_told_least O_look_at_flows
  have O_can_do := ok_can_do (P := P) (w := w) (base := base) T F_can_do O_told_lows O_told_best O_look_at_flows
  have O_least_to_start := ok_least_to_start (P := P) (w := w) (base := base) T F_least_to_start O_told_lows O_told_best O_look_at_flows
  have O_surely_left := ok_surely_left (P := P) (w := w) (base := base) T F_surely_left O_is_int O_look_at_flows
  have O_law_right := ok_law_right (P := P) (w := w) (base := base) T F_law_right O_can_do O_least_to_start O_cash_needed O_never_short O_surely_left O_lows_of O_law_take O_law_narrowed O_law_drawn
  have O_law := ok_law (P := P) (w := w) (base := base) T F_law O_law_cells O_law_right O_law_pot
  exact O_law
theorem law_sp {w : World} {K : PySem.W.Frag} {H : Hp} {a : Addr} {ns : List Int} (hl : ns.length ≤ 63) (hS : SqL K H a (ns.map V.int)) : spP K S_law [.ref a] H (fun v _ => v = .bl true) fun _ _ _ => False :=
  ⟨H, [.list (ns.map PyData.int)], Ex.refl H, .cons (.lst hS (dpa_ints ns)) .nil, use_law trivial fun v F' H' _ d => by
    cases d
    rfl⟩
theorem walk_law {l : PySem.W.OpenLaw} {q : Program} {loose : List Str} {XP : (Str → Option Value) → Heap → Prop} {YP : World → Heap → Prop} {d : DefRec} {K : Params → PySem.W.Frag} (hn : l.most = some 63) (hdf : d.params.defaults = [])
    (hY : ∀ (w : World) (h : Heap), YP w h → (K w.params).In h)
    (F : ∀ (w : World) (mg : Str → Option Value) (fa : Addr) (h : Heap), (K w.params).In h → h.Ns mainGlobals mg → mg d.name = some (.ref fa) →
      ∃ fd : FuncData, (∀ (s : Shared) (u : Value), BindsTo s fd ⟨[u], []⟩ [("script", u)]) ∧ ∀ base : Heap, (K w.params).In base → base.Ns mainGlobals mg → FnOk l.prog w (K w.params) mg base CX0 8 fa fd ["script"] (spP (K w.params) S_law)) :
    PySem.W.WalkO q loose XP YP l.row.toRowW d [] (fun f vs => PySem.call f vs) :=
  L2.walk_of (n := 63) (k := 8) (x := "script") (CX := fun _ => CX0) (sp := fun w => spP (K w.params) S_law) hn (by decide) hdf ⟨rfl, by decide, by decide⟩ hY F (fun w H a ns hl _ hS => law_sp (w := w) hl hS) fun _ _ _ _ _ z => z
end K21

open PySem PySem.W PyProof.Rows
theorem PySem.Challenge.cw_eachtheirown_k21_whole_courses_turned_ab_holds : PySem.Challenge.rw_eachtheirown_k21_whole_courses_turned_ab.Holds := by
  w_on; o_law; k_head; (case hw => w_witness2)
  k_fill
  refine K21.walk_law (l := PySem.Challenge.rw_eachtheirown_k21_whole_courses_turned_ab) rfl rfl (fun w h Y => PySem.W.kIn_of Y) ?F
  case F =>
    intro w mg fa h KX G hmg
    refine' K21.all_mk KX G hmg ?T ?f0 ?f1 ?f2 ?f3 ?f4 ?f5 ?f6 ?f7 ?f8 ?f9 ?f10 ?f11 ?f12 ?f13 ?f14 ?f15 ?f16 ?f17 ?f18 ?f19 ?f20 ?f21 ?f22 ?al ?ll ?cl ?kl
    (case al => k_is); (case ll => k_is); (case cl => k_is); (case kl => k_is)
    case T =>
      refine' ⟨PySem.W.mg_none_of KX G ?n0, PySem.W.mg_none_of KX G ?n1, PySem.W.mg_none_of KX G ?n2, PySem.W.mg_none_of KX G ?n3, PySem.W.mg_none_of KX G ?n4, PySem.W.mg_none_of KX G ?n5, PySem.W.mg_none_of KX G ?n6, PySem.W.mg_none_of KX G ?n7, PySem.W.mg_none_of KX G ?n8, PySem.W.mg_none_of KX G ?n9, PySem.W.mg_none_of KX G ?n10, PySem.W.mg_none_of KX G ?n11, PySem.W.mg_none_of KX G ?n12, PySem.W.mg_none_of KX G ?n13, PySem.W.mg_none_of KX G ?n14, PySem.W.mg_none_of KX G ?n15, ?c0, ?c1, ?c2, ?c3, ?c4, ?c5⟩
      (case n0 => k_is)
      (case n1 => k_is)
      (case n2 => k_is)
      (case n3 => k_is)
      (case n4 => k_is)
      (case n5 => k_is)
      (case n6 => k_is)
      (case n7 => k_is)
      (case n8 => k_is)
      (case n9 => k_is)
      (case n10 => k_is)
      (case n11 => k_is)
      (case n12 => k_is)
      (case n13 => k_is)
      (case n14 => k_is)
      (case n15 => k_is)
      (case c0 => (refine' K21.tx_int KX G ?e; (case e => k_is)))
      (case c1 => (refine' K21.tx_int KX G ?e; (case e => k_is)))
      (case c2 => (refine' K21.tx_int KX G ?e; (case e => k_is)))
      (case c3 => (refine' K21.tx_str KX G ?e; (case e => k_is)))
      (case c4 => (refine' K21.tx_str KX G ?e; (case e => k_is)))
      (case c5 => (refine' K21.tx_str KX G ?e; (case e => k_is)))
    (case f0 => (refine' K21.at_mk KX G ?a ?l ?c ?k K21.b_is_int; (case a => k_is); (case l => k_is); (case c => k_is); (case k => k_is)))
    (case f1 => (refine' K21.at_mk KX G ?a ?l ?c ?k K21.b_are_ints; (case a => k_is); (case l => k_is); (case c => k_is); (case k => k_is)))
    (case f2 => (refine' K21.at_mk KX G ?a ?l ?c ?k K21.b_is_flow; (case a => k_is); (case l => k_is); (case c => k_is); (case k => k_is)))
    (case f3 => (refine' K21.at_mk KX G ?a ?l ?c ?k K21.b_are_flows; (case a => k_is); (case l => k_is); (case c => k_is); (case k => k_is)))
    (case f4 => (refine' K21.at_mk KX G ?a ?l ?c ?k K21.b_look_at_flows; (case a => k_is); (case l => k_is); (case c => k_is); (case k => k_is)))
    (case f5 => (refine' K21.at_mk KX G ?a ?l ?c ?k K21.b_is_course; (case a => k_is); (case l => k_is); (case c => k_is); (case k => k_is)))
    (case f6 => (refine' K21.at_mk KX G ?a ?l ?c ?k K21.b_told_lows; (case a => k_is); (case l => k_is); (case c => k_is); (case k => k_is)))
    (case f7 => (refine' K21.at_mk KX G ?a ?l ?c ?k K21.b_lows_of; (case a => k_is); (case l => k_is); (case c => k_is); (case k => k_is)))
    (case f8 => (refine' K21.at_mk KX G ?a ?l ?c ?k K21.b_told_worst; (case a => k_is); (case l => k_is); (case c => k_is); (case k => k_is)))
    (case f9 => (refine' K21.at_mk KX G ?a ?l ?c ?k K21.b_told_least; (case a => k_is); (case l => k_is); (case c => k_is); (case k => k_is)))
    (case f10 => (refine' K21.at_mk KX G ?a ?l ?c ?k K21.b_never_short; (case a => k_is); (case l => k_is); (case c => k_is); (case k => k_is)))
    (case f11 => (refine' K21.at_mk KX G ?a ?l ?c ?k K21.b_cash_needed; (case a => k_is); (case l => k_is); (case c => k_is); (case k => k_is)))
    (case f12 => (refine' K21.at_mk KX G ?a ?l ?c ?k K21.b_told_best; (case a => k_is); (case l => k_is); (case c => k_is); (case k => k_is)))
    (case f13 => (refine' K21.at_mk KX G ?a ?l ?c ?k K21.b_can_do; (case a => k_is); (case l => k_is); (case c => k_is); (case k => k_is)))
    (case f14 => (refine' K21.at_mk KX G ?a ?l ?c ?k K21.b_least_to_start; (case a => k_is); (case l => k_is); (case c => k_is); (case k => k_is)))
    (case f15 => (refine' K21.at_mk KX G ?a ?l ?c ?k K21.b_surely_left; (case a => k_is); (case l => k_is); (case c => k_is); (case k => k_is)))
    (case f16 => (refine' K21.at_mk KX G ?a ?l ?c ?k K21.b_law_pot; (case a => k_is); (case l => k_is); (case c => k_is); (case k => k_is)))
    (case f17 => (refine' K21.at_mk KX G ?a ?l ?c ?k K21.b_law_take; (case a => k_is); (case l => k_is); (case c => k_is); (case k => k_is)))
    (case f18 => (refine' K21.at_mk KX G ?a ?l ?c ?k K21.b_law_of; (case a => k_is); (case l => k_is); (case c => k_is); (case k => k_is)))
    (case f19 => (refine' K21.at_mk KX G ?a ?l ?c ?k K21.b_law_cells; (case a => k_is); (case l => k_is); (case c => k_is); (case k => k_is)))
    (case f20 => (refine' K21.at_mk KX G ?a ?l ?c ?k K21.b_law_drawn; (case a => k_is); (case l => k_is); (case c => k_is); (case k => k_is)))
    (case f21 => (refine' K21.at_mk KX G ?a ?l ?c ?k K21.b_law_narrowed; (case a => k_is); (case l => k_is); (case c => k_is); (case k => k_is)))
    (case f22 => (refine' K21.at_mk KX G ?a ?l ?c ?k K21.b_law_right; (case a => k_is); (case l => k_is); (case c => k_is); (case k => k_is)))
