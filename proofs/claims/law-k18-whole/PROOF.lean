import PyProof.Rows.All
import Wide.All
import OpenK.AllK
import Wide.FinOn
import HandS.ForMost
import HandS.Evl
import HandS.Walk
import HandS.TupAny
import HandS.Wide
import HandS.IsInst
import PyProof.Rows.ReprR
import HandS.ForExc
import KE.GoesMore
import KE.GoesEnum
import HandS.Dict
import HandS.Text
import HandS.Style
import HandS.ExcInit
import PyProof.Rows.CountFlat
import PyProof.StrOps2
import HandS.Set
import HandS.SetFor
import KE.SortData
import HandS.More
import HandS.ListItems
import HandS.ClsMeth
import HandS.Lambda
import PyProof.ReprLen
import HandS.ExcIs
import HandS.ExcField
import KE.KExcIs
import KE.KDflt
import HandS.EndTab
import KE.KNestM
import PySem.Challenge.RW_keptlines_k18_whole_tellings_and_numbers
section
set_option Elab.async false
set_option linter.all false
set_option maxRecDepth 100000
set_option maxHeartbeats 1000000
namespace DS
open PySem PySem.Spec PyProof.Rows L2
open Evl (Ex ex_l ex_t ex_rd)

/-! ### data -/
mutual
theorem dp_mono {K : PySem.W.Frag} {F F' : Hp} (e : Ex F F') : ∀ (d : PyData) (v : V), Dp K F v d → Dp K F' v d
  | .none, _, .non => .non
  | .bool _, _, .bl b => .bl b
  | .int _, _, .int i => .int i
  | .str _, _, .str x => .str x
  | .list ds, _, .lst h a => .lst (ex_l e h) (dpAll_mono e ds _ a)
  | .tuple ds, _, .tup h a => .tup (ex_t e h) (dpAll_mono e ds _ a)
theorem dpAll_mono {K : PySem.W.Frag} {F F' : Hp} (e : Ex F F') : ∀ (ds : List PyData) (vs : List V), DpAll K F vs ds → DpAll K F' vs ds
  | [], _, .nil => .nil
  | d :: ds, _, .cons h t => .cons (dp_mono e d _ h) (dpAll_mono e ds _ t)
end
end DS
namespace L2
open PySem PySem.Spec PyProof.Rows DS
open Evl (Ex ex_l ex_t ex_rd)
section
variable {K : PySem.W.Frag} {F F' H H' : Hp} {v : V} {vs : List V} {d x : PyData} {ds xs : List PyData}
theorem Dp.up (h : Dp K F v d) (e : Ex F F') : Dp K F' v d := dp_mono e d v h
theorem DpAll.up (h : DpAll K F vs ds) (e : Ex F F') : DpAll K F' vs ds := dpAll_mono e ds vs h
theorem DpAll.len : ∀ {vs : List V} {ds : List PyData}, DpAll K F vs ds → vs.length = ds.length
  | _, _, .nil => rfl
  | _, _, .cons _ t => by rw [List.length_cons, List.length_cons, DpAll.len t]
theorem DpAll.get : ∀ {vs : List V} {ds : List PyData} {i : Nat} {x : V}, DpAll K F vs ds → vs[i]? = some x → ∃ d, ds[i]? = some d ∧ Dp K F x d
  | [], _, _, _, _, at_ => absurd (List.getElem?_nil.symm.trans at_) (fun z => nomatch z)
  | _ :: _, _ :: _, 0, _, .cons this _, at_ => by
    cases List.getElem?_cons_zero.symm.trans at_
    exact ⟨_, List.getElem?_cons_zero, this⟩
  | _ :: _, _ :: _, _ + 1, _, .cons _ rest, at_ => by
    rw [List.getElem?_cons_succ] at at_ ⊢
    exact DpAll.get rest at_
theorem DpAll.get' : ∀ {vs : List V} {ds : List PyData} {i : Nat} {d : PyData}, DpAll K F vs ds → ds[i]? = some d → ∃ x, vs[i]? = some x ∧ Dp K F x d
  | _, [], _, _, _, at_ => absurd (List.getElem?_nil.symm.trans at_) (fun z => nomatch z)
  | _ :: _, _ :: _, 0, _, .cons this _, at_ => by
    cases List.getElem?_cons_zero.symm.trans at_
    exact ⟨_, List.getElem?_cons_zero, this⟩
  | _ :: _, _ :: _, _ + 1, _, .cons _ rest, at_ => by
    rw [List.getElem?_cons_succ] at at_ ⊢
    exact DpAll.get' rest at_
theorem DpAll.app : ∀ {vs ws : List V} {ds es : List PyData}, DpAll K F vs ds → DpAll K F ws es → DpAll K F (vs ++ ws) (ds ++ es)
  | _, _, _, _, .nil, s => s
  | _, _, _, _, .cons r t, s => .cons r (DpAll.app t s)
theorem DpAll.take : ∀ {vs : List V} {ds : List PyData} (n : Nat), DpAll K F vs ds → DpAll K F (vs.take n) (ds.take n)
  | _, _, 0, _ => .nil
  | _, _, _ + 1, .nil => .nil
  | _, _, n + 1, .cons r t => .cons r (DpAll.take n t)
theorem DpAll.drop : ∀ {vs : List V} {ds : List PyData} (n : Nat), DpAll K F vs ds → DpAll K F (vs.drop n) (ds.drop n)
  | _, _, 0, r => r
  | _, _, _ + 1, .nil => .nil
  | _, _, n + 1, .cons _ t => DpAll.drop n t
theorem DpAll.rev : ∀ {vs : List V} {ds : List PyData}, DpAll K F vs ds → DpAll K F vs.reverse ds.reverse
  | _, _, .nil => .nil
  | _, _, .cons r t => by rw [List.reverse_cons, List.reverse_cons]; exact DpAll.app (DpAll.rev t) (.cons r .nil)
theorem Dp.bool_eq {b : Bool} (h : Dp K F v (.bool b)) : v = .bl b := by cases h; rfl
theorem Dp.int_eq {i : Int} (h : Dp K F v (.int i)) : v = .int i := by cases h; rfl
theorem Dp.str_eq {x : Str} (h : Dp K F v (.str x)) : v = .str x := by cases h; rfl
theorem Dp.none_eq (h : Dp K F v .none) : v = .non := by cases h; rfl
theorem Dp.tup_eq (h : Dp K F v (.tuple ds)) : ∃ a vs, v = .ref a ∧ SqT K F a vs ∧ DpAll K F vs ds := by
  cases h with
  | tup h1 h2 => exact ⟨_, _, rfl, h1, h2⟩
theorem Dp.lst_eq (h : Dp K F v (.list ds)) : ∃ a vs, v = .ref a ∧ SqL K F a vs ∧ DpAll K F vs ds := by
  cases h with
  | lst h1 h2 => exact ⟨_, _, rfl, h1, h2⟩
theorem Dp.is_none (h : Dp K F v d) : decide (v = .non) = (match d with | .none => true | _ => false) := by
  cases h <;> simp
theorem DpAll.nil_of (h : DpAll K F vs []) : vs = [] := by cases h; rfl
theorem DpAll.cons_of (h : DpAll K F vs (d :: ds)) : ∃ v r, vs = v :: r ∧ Dp K F v d ∧ DpAll K F r ds := by
  cases h with
  | cons h1 h2 => exact ⟨_, _, rfl, h1, h2⟩
end

end L2
namespace DS
open PySem PySem.Spec PyProof.Rows L2
open Evl (Ex ex_l ex_t ex_rd)
/-! ### what a piece of code may change -/
/-- an object told of by a law of its own -/
def IsX (o : HO) : Prop := ∃ φ, o = .ext φ
structure Own where
  S : Addr → Prop
  J : Hp → Prop
  W : Addr → Prop
  stay : ∀ {H H' : Hp}, J H → (∀ a o, (S a ∨ IsX o) → H a = some o → H' a = some o) → J H'
  dom : ∀ {H : Hp} {a : Addr}, J H → S a → H a ≠ none
def Own.no : Own := ⟨fun _ => False, fun _ => True, fun _ => True, fun _ _ => trivial, fun _ h => h.elim⟩

/-- the heap has grown: F the frozen part, H all -/
structure Grow (O : Own) (F H F' H' : Hp) : Prop where
  f : Ex F F'
  h : ∀ a o, ¬ O.S a → H a = some o → H' a = some o
  s : Ex F' H'
  n : ∀ a, F a = none → F' a ≠ none → H a = none
  t : ∀ a, H a ≠ none → H' a ≠ none
section
variable {O : Own} {F H F' H' F'' H'' : Hp}
theorem Grow.refl (s : Ex F H) : Grow O F H F H := ⟨Ex.refl F, fun _ _ _ h => h, s, fun a h h' => absurd h h', fun _ h => h⟩
theorem Grow.trans (a : Grow O F H F' H') (b : Grow O F' H' F'' H'') : Grow O F H F'' H'' :=
  ⟨a.f.trans b.f, fun x o hs h => b.h x o hs (a.h x o hs h), b.s, fun x h1 h2 => by
    cases e : F' x with
    | some o => exact a.n x h1 (by rw [e]; exact fun z => nomatch z)
    | none =>
      have e2 := b.n x e h2
      cases e3 : H x with
      | none => rfl
      | some o => exact absurd e2 (a.t x (by rw [e3]; exact fun z => nomatch z)),
   fun x h => b.t x (a.t x h)⟩
/-- a new frozen object -/
theorem Grow.new {p : Addr} {o : HO} (s : Ex F H) (hp : H p = none) : Grow O F H (upd F p o) (upd H p o) := by
  have hF : F p = none := by
    cases e : F p with
    | none => rfl
    | some u => rw [s p u e] at hp; cases hp
  refine ⟨Ex.new hF, fun a u _ h => Ex.new hp a u h, fun a u h => ?_, fun a h1 h2 => ?_, fun a h => ?_⟩
  · by_cases e : a = p
    · subst e; rw [upd_same] at h ⊢; exact h
    · rw [upd_ne e] at h ⊢; exact s a u h
  · by_cases e : a = p
    · subst e; exact hp
    · rw [upd_ne e] at h2; exact absurd h1 h2
  · by_cases e : a = p
    · subst e; rw [upd_same]; exact fun z => nomatch z
    · rw [upd_ne e]; exact h
/-- a new object that is not frozen -/
theorem Grow.own {p : Addr} {o : HO} (s : Ex F H) (hp : H p = none) : Grow O F H F (upd H p o) := by
  refine ⟨Ex.refl F, fun a u _ h => Ex.new hp a u h, fun a u h => Ex.new hp a u (s a u h), fun a h1 h2 => absurd h1 h2, fun a h => ?_⟩
  by_cases e : a = p
  · subst e; exact absurd hp h
  · rw [upd_ne e]; exact h
theorem Grow.free {p : Addr} (g : Grow O F H F' H') (h : H' p = none) : H p = none := by
  cases e : H p with
  | none => rfl
  | some u => exact absurd h (g.t p (by rw [e]; exact fun z => nomatch z))
/-- what the code around may change, where the code within changes nothing -/
theorem Grow.lift (g : Grow Own.no F H F' H') : Grow O F H F' H' := ⟨g.f, fun a o _ h => g.h a o (fun z => z) h, g.s, g.n, g.t⟩
theorem Grow.j (g : Grow Own.no F H F' H') (j : O.J H) : O.J H' := O.stay j fun a o _ h => g.h a o (fun z => z) h
theorem own_new {p : Addr} {o : HO} (j : O.J H) (hp : H p = none) : O.J (upd H p o) := O.stay j fun a u _ h => Ex.new hp a u h
end

/-! ### slots -/
/-- a slot: unknown; data; a list of one's own; a dict of one's own; a value -/
inductive Sl where
  | u | d (x : PyData) | l (xs : List PyData) | m (kvs : List (Key × V)) | v (x : V)
def Sl.own : Sl → Bool
  | .l _ => true
  | .m _ => true
  | _ => false
def SlOk (K : PySem.W.Frag) (O : Own) (F H : Hp) : Sl → Option V → Prop
  | .u, _ => True
  | .d x, o => ∃ v, o = some v ∧ Dp K F v x
  | .l xs, o => ∃ p vs, o = some (.ref p) ∧ F p = none ∧ ¬ O.S p ∧ H p = some (.lst vs) ∧ DpAll K F vs xs ∧ O.W p
  | .m kvs, o => ∃ p, o = some (.ref p) ∧ F p = none ∧ ¬ O.S p ∧ H p = some (.dK kvs) ∧ O.W p
  | .v x, o => o = some x
structure StOk (K : PySem.W.Frag) (O : Own) (F : Hp) (σ : L2.St) (H : Hp) (ds : List Sl) : Prop where
  ex : Ex F H
  sf : ∀ a, O.S a → F a = none
  j : O.J H
  len : σ.length = ds.length
  sl : ∀ (i : Nat) (s : Sl) (o : Option V), ds[i]? = some s → σ[i]? = some o → SlOk K O F H s o
  sep : ∀ (i j : Nat) (s t : Sl) (p : Addr), i ≠ j → ds[i]? = some s → s.own = true → ds[j]? = some t → t.own = true → σ[i]? = some (some (.ref p)) → σ[j]? = some (some (.ref p)) → False
section
variable {K : PySem.W.Frag} {O : Own} {F H F' H' : Hp} {σ : L2.St} {ds : List Sl} {i : Nat}
theorem SlOk.grow {s : Sl} {o : Option V} (h : SlOk K O F H s o) (g : Grow O F H F' H') : SlOk K O F' H' s o := by
  cases s with
  | u => trivial
  | d x => obtain ⟨v, e, d⟩ := h; exact ⟨v, e, d.up g.f⟩
  | l xs =>
    obtain ⟨p, vs, e, f, ns, hp, d, w⟩ := h
    refine ⟨p, vs, e, ?_, ns, g.h p _ ns hp, d.up g.f, w⟩
    cases q : F' p with
    | none => rfl
    | some u => have := g.n p f (by rw [q]; exact fun z => nomatch z); rw [hp] at this; cases this
  | m kvs =>
    obtain ⟨p, e, f, ns, hp, w⟩ := h
    refine ⟨p, e, ?_, ns, g.h p _ ns hp, w⟩
    cases q : F' p with
    | none => rfl
    | some u => have := g.n p f (by rw [q]; exact fun z => nomatch z); rw [hp] at this; cases this
  | v x => exact h
theorem StOk.grow (h : StOk K O F σ H ds) (g : Grow O F H F' H') (j : O.J H') : StOk K O F' σ H' ds :=
  ⟨g.s, fun a s => by
    cases q : F' a with
    | none => rfl
    | some u => exact absurd (g.n a (h.sf a s) (by rw [q]; exact fun z => nomatch z)) (O.dom h.j s), j, h.len, fun i s o e1 e2 => (h.sl i s o e1 e2).grow g, h.sep⟩
/-- the same reach, another promise -/
structure Sm (O O' : Own) : Prop where
  s : O'.S = O.S
  w : O'.W = O.W
theorem Sm.refl (O : Own) : Sm O O := ⟨rfl, rfl⟩
theorem Sm.trans {O O' O'' : Own} (a : Sm O O') (b : Sm O' O'') : Sm O O'' := ⟨b.s.trans a.s, b.w.trans a.w⟩
theorem Grow.sm {O' : Own} (m : Sm O O') (g : Grow O' F H F' H') : Grow O F H F' H' := ⟨g.f, fun a o n => g.h a o (by rw [m.s]; exact n), g.s, g.n, g.t⟩
theorem Grow.ms {O' : Own} (m : Sm O O') (g : Grow O F H F' H') : Grow O' F H F' H' := ⟨g.f, fun a o n => g.h a o (by rw [← m.s]; exact n), g.s, g.n, g.t⟩
theorem SlOk.sm {O' : Own} (m : Sm O O') {s : Sl} {o : Option V} (h : SlOk K O F H s o) : SlOk K O' F H s o := by
  cases s with
  | u => exact h
  | d x => exact h
  | v x => exact h
  | l xs =>
    obtain ⟨p, vs, e, f, ns, hp, d, w⟩ := h
    exact ⟨p, vs, e, f, by rw [m.s]; exact ns, hp, d, by rw [m.w]; exact w⟩
  | m kvs =>
    obtain ⟨p, e, f, ns, hp, w⟩ := h
    exact ⟨p, e, f, by rw [m.s]; exact ns, hp, by rw [m.w]; exact w⟩
theorem StOk.sm {O' : Own} (h : StOk K O F σ H ds) (m : Sm O O') (j : O'.J H) : StOk K O' F σ H ds :=
  ⟨h.ex, fun a s => h.sf a (by rw [← m.s]; exact s), j, h.len, fun i s o e1 e2 => (h.sl i s o e1 e2).sm m, h.sep⟩
theorem StOk.growH {O' : Own} (h : StOk K O F σ H ds) (m : Sm O O') (g : Grow O F H F' H') (j : O'.J H') : StOk K O' F' σ H' ds :=
  ⟨g.s, fun a s => by
    have s : O.S a := by rw [← m.s]; exact s
    cases q : F' a with
    | none => rfl
    | some u => exact absurd (g.n a (h.sf a s) (by rw [q]; exact fun z => nomatch z)) (O.dom h.j s), j, h.len, fun i s o e1 e2 => ((h.sl i s o e1 e2).grow g).sm m, h.sep⟩
theorem StOk.at_ (h : StOk K O F σ H ds) {s : Sl} (e : ds[i]? = some s) : ∃ o, σ[i]? = some o ∧ SlOk K O F H s o := by
  have hl : i < σ.length := by rw [h.len]; exact (List.getElem?_eq_some_iff.mp e).1
  exact ⟨σ[i], List.getElem?_eq_getElem hl, h.sl i s _ e (List.getElem?_eq_getElem hl)⟩
theorem StOk.dat (h : StOk K O F σ H ds) {x : PyData} (e : ds[i]? = some (.d x)) : ∃ v, σ[i]? = some (some v) ∧ Dp K F v x := by
  obtain ⟨o, e1, v, rfl, d⟩ := h.at_ e
  exact ⟨v, e1, d⟩
theorem StOk.lst (h : StOk K O F σ H ds) {xs : List PyData} (e : ds[i]? = some (.l xs)) : ∃ p vs, σ[i]? = some (some (.ref p)) ∧ F p = none ∧ ¬ O.S p ∧ H p = some (.lst vs) ∧ DpAll K F vs xs ∧ O.W p := by
  obtain ⟨o, e1, p, vs, rfl, r⟩ := h.at_ e
  exact ⟨p, vs, e1, r⟩
theorem StOk.dic (h : StOk K O F σ H ds) {kvs : List (Key × V)} (e : ds[i]? = some (.m kvs)) : ∃ p, σ[i]? = some (some (.ref p)) ∧ F p = none ∧ ¬ O.S p ∧ H p = some (.dK kvs) ∧ O.W p := by
  obtain ⟨o, e1, p, rfl, r⟩ := h.at_ e
  exact ⟨p, e1, r⟩
theorem StOk.val (h : StOk K O F σ H ds) {x : V} (e : ds[i]? = some (.v x)) : σ[i]? = some (some x) := by
  obtain ⟨o, e1, r⟩ := h.at_ e
  rw [e1, r]
/-- a slot is stored -/
theorem StOk.set {s : Sl} {v : V} (h : StOk K O F σ H ds) (hs : SlOk K O F H s (some v)) (hn : s.own = true → ∀ p, v = .ref p → ∀ (j : Nat) (t : Sl), ds[j]? = some t → t.own = true → σ[j]? = some (some (.ref p)) → j = i) : StOk K O F (σ.set i (some v)) H (ds.set i s) := by
  refine ⟨h.ex, h.sf, h.j, by rw [List.length_set, List.length_set, h.len], fun j t o e1 e2 => ?_, fun j k t t' p hjk e1 o1 e2 o2 e3 e4 => ?_⟩
  · by_cases e : i = j
    · subst e
      have hl : i < ds.length := by
        have := (List.getElem?_eq_some_iff.mp e1).1
        rw [List.length_set] at this; exact this
      rw [List.getElem?_set_self hl] at e1
      rw [List.getElem?_set_self (by rw [h.len]; exact hl)] at e2
      cases e1; cases e2; exact hs
    · rw [List.getElem?_set_ne e] at e1 e2
      exact h.sl j t o e1 e2
  · by_cases e : i = j
    · subst e
      have hl : i < ds.length := by
        have := (List.getElem?_eq_some_iff.mp e1).1
        rw [List.length_set] at this; exact this
      rw [List.getElem?_set_self hl] at e1
      rw [List.getElem?_set_self (by rw [h.len]; exact hl)] at e3
      rw [List.getElem?_set_ne hjk] at e2 e4
      cases e1; cases e3
      exact hjk (hn o1 p rfl k t' e2 o2 e4).symm
    · by_cases e' : i = k
      · subst e'
        have hl : i < ds.length := by
          have := (List.getElem?_eq_some_iff.mp e2).1
          rw [List.length_set] at this; exact this
        rw [List.getElem?_set_self hl] at e2
        rw [List.getElem?_set_self (by rw [h.len]; exact hl)] at e4
        rw [List.getElem?_set_ne e] at e1 e3
        cases e2; cases e4
        exact hjk (hn o2 p rfl j t e1 o1 e3)
      · rw [List.getElem?_set_ne e] at e1 e3
        rw [List.getElem?_set_ne e'] at e2 e4
        exact h.sep j k t t' p hjk e1 o1 e2 o2 e3 e4
theorem StOk.setD {x : PyData} {v : V} (h : StOk K O F σ H ds) (d : Dp K F v x) : StOk K O F (σ.set i (some v)) H (ds.set i (.d x)) := h.set (s := .d x) ⟨v, rfl, d⟩ (fun z => nomatch z)
theorem StOk.setV {v : V} (h : StOk K O F σ H ds) : StOk K O F (σ.set i (some v)) H (ds.set i (.v v)) := h.set (s := .v v) rfl (fun z => nomatch z)
theorem StOk.setU {v : V} (h : StOk K O F σ H ds) : StOk K O F (σ.set i (some v)) H (ds.set i .u) := h.set (s := .u) True.intro (fun z => nomatch z)
/-- an owned object at p that no slot holds -/
theorem StOk.setO {s : Sl} {p : Addr} (h : StOk K O F σ H ds) (hs : SlOk K O F H s (some (.ref p))) (hn : ∀ (j : Nat) (t : Sl), ds[j]? = some t → t.own = true → σ[j]? = some (some (.ref p)) → False) : StOk K O F (σ.set i (some (.ref p))) H (ds.set i s) :=
  h.set hs fun _ q e j t e1 e2 e3 => by cases e; exact (hn j t e1 e2 e3).elim
/-- what a slot owns stands in the heap -/
theorem StOk.ownX (h : StOk K O F σ H ds) {s : Sl} {p : Addr} (e : ds[i]? = some s) (o : s.own = true) (q : σ[i]? = some (some (.ref p))) {u : HO} (hu : H p = some u) : ¬ IsX u := by
  have := h.sl i s _ e q
  cases s with
  | u => cases o
  | d _ => cases o
  | v _ => cases o
  | l xs => obtain ⟨p', vs, e', f, ns, hp, _, w⟩ := this; cases e'; rw [hu] at hp; cases hp; rintro ⟨_, z⟩; cases z
  | m kvs => obtain ⟨p', e', f, ns, hp, w⟩ := this; cases e'; rw [hu] at hp; cases hp; rintro ⟨_, z⟩; cases z
theorem StOk.ownAt (h : StOk K O F σ H ds) {s : Sl} {p : Addr} (e : ds[i]? = some s) (o : s.own = true) (q : σ[i]? = some (some (.ref p))) : H p ≠ none ∧ F p = none ∧ ¬ O.S p ∧ O.W p := by
  have := h.sl i s _ e q
  cases s with
  | u => cases o
  | d _ => cases o
  | v _ => cases o
  | l xs => obtain ⟨p', vs, e', f, ns, hp, _, w⟩ := this; cases e'; exact ⟨(by rw [hp]; exact fun z => nomatch z), f, ns, w⟩
  | m kvs => obtain ⟨p', e', f, ns, hp, w⟩ := this; cases e'; exact ⟨(by rw [hp]; exact fun z => nomatch z), f, ns, w⟩
/-- the object of an owned slot is written -/
theorem StOk.write {s t : Sl} {p : Addr} {o : HO} (h : StOk K O F σ H ds) (e : ds[i]? = some s) (os : s.own = true) (q : σ[i]? = some (some (.ref p))) (ht : SlOk K O F (upd H p o) t (some (.ref p))) (tt : t.own = true) : StOk K O F σ (upd H p o) (ds.set i t) := by
  obtain ⟨h1, h2, h3, h4⟩ := h.ownAt e os q
  have hl : i < ds.length := (List.getElem?_eq_some_iff.mp e).1
  refine ⟨fun a u ha => ?_, h.sf, O.stay h.j fun a u sa ha => ?_, by rw [List.length_set, h.len], fun j r w e1 e2 => ?_, fun j k r r' a hjk e1 o1 e2 o2 e3 e4 => ?_⟩
  · have hne : a ≠ p := fun z => by rw [z, h2] at ha; cases ha
    rw [upd_ne hne]; exact h.ex a u ha
  · have hne : a ≠ p := fun z => sa.elim (fun sa => h3 (z ▸ sa)) fun sx => h.ownX e os q (z ▸ ha) sx
    rw [upd_ne hne]; exact ha
  · by_cases z : i = j
    · subst z
      rw [List.getElem?_set_self hl] at e1
      rw [q] at e2; cases e1; cases e2; exact ht
    · rw [List.getElem?_set_ne z] at e1
      have hb := h.sl j r w e1 e2
      cases r with
      | u => trivial
      | d x => exact hb
      | v x => exact hb
      | l xs =>
        obtain ⟨a, vs, rfl, f, ns, hp, d⟩ := hb
        have hne : a ≠ p := fun y => h.sep i j s (.l xs) p z e os e1 rfl q (by rw [← y]; exact e2)
        exact ⟨a, vs, rfl, f, ns, by rw [upd_ne hne]; exact hp, d⟩
      | m kvs =>
        obtain ⟨a, rfl, f, ns, hp, w⟩ := hb
        have hne : a ≠ p := fun y => h.sep i j s (.m kvs) p z e os e1 rfl q (by rw [← y]; exact e2)
        exact ⟨a, rfl, f, ns, by rw [upd_ne hne]; exact hp, w⟩
  · by_cases z : i = j
    · subst z
      rw [List.getElem?_set_self hl] at e1
      rw [List.getElem?_set_ne hjk] at e2
      exact h.sep i k s r' a hjk e os e2 o2 e3 e4
    · by_cases z' : i = k
      · subst z'
        rw [List.getElem?_set_ne z] at e1
        rw [List.getElem?_set_self hl] at e2
        exact h.sep j i r s a hjk e1 o1 e os e3 e4
      · rw [List.getElem?_set_ne z] at e1
        rw [List.getElem?_set_ne z'] at e2
        exact h.sep j k r r' a hjk e1 o1 e2 o2 e3 e4
/-- an owned list is frozen (its slot holds data from then on) -/
theorem StOk.freeze {xs : List PyData} (h : StOk K O F σ H ds) (e : ds[i]? = some (.l xs)) : ∃ p vs, σ[i]? = some (some (.ref p)) ∧ F p = none ∧ H p = some (.lst vs) ∧ O.W p ∧ DpAll K (upd F p (.lst vs)) vs xs ∧ StOk K O (upd F p (.lst vs)) σ H (ds.set i (.d (.list xs))) := by
  obtain ⟨p, vs, q, f, ns, hp, d, w⟩ := h.lst e
  have hl : i < ds.length := (List.getElem?_eq_some_iff.mp e).1
  have ff : Ex F (upd F p (.lst vs)) := Ex.new f
  have d' := d.up ff
  have at_ : ∀ j r, i ≠ j → ds[j]? = some r → r.own = true → ∀ a, σ[j]? = some (some (.ref a)) → a ≠ p := fun j r z e1 o1 a e2 y => h.sep i j (.l xs) r p z e rfl e1 o1 q (by rw [← y]; exact e2)
  refine ⟨p, vs, q, f, hp, w, d', fun a u ha => ?_, fun a sa => ?_, h.j, by rw [List.length_set, h.len], fun j r w e1 e2 => ?_, fun j k r r' a hjk e1 o1 e2 o2 e3 e4 => ?_⟩
  · by_cases y : a = p
    · subst y; rw [upd_same] at ha; cases ha; exact hp
    · rw [upd_ne y] at ha; exact h.ex a u ha
  · have hne : a ≠ p := fun z => ns (z ▸ sa)
    rw [upd_ne hne]; exact h.sf a sa
  · by_cases z : i = j
    · subst z
      rw [List.getElem?_set_self hl] at e1
      rw [q] at e2; cases e1; cases e2
      exact ⟨.ref p, rfl, .lst (.inl (.inl upd_same)) d'⟩
    · rw [List.getElem?_set_ne z] at e1
      have hb := h.sl j r w e1 e2
      cases r with
      | u => trivial
      | d x => obtain ⟨v, e', dd⟩ := hb; exact ⟨v, e', dd.up ff⟩
      | v x => exact hb
      | l ys =>
        obtain ⟨a, ws, rfl, f', ns', hp', dd, w'⟩ := hb
        exact ⟨a, ws, rfl, by rw [upd_ne (at_ j _ z e1 rfl a e2)]; exact f', ns', hp', dd.up ff, w'⟩
      | m kvs =>
        obtain ⟨a, rfl, f', ns', hp', w'⟩ := hb
        exact ⟨a, rfl, by rw [upd_ne (at_ j _ z e1 rfl a e2)]; exact f', ns', hp', w'⟩
  · by_cases z : i = j
    · subst z
      rw [List.getElem?_set_self hl] at e1
      cases e1; cases o1
    · by_cases z' : i = k
      · subst z'
        rw [List.getElem?_set_self hl] at e2
        cases e2; cases o2
      · rw [List.getElem?_set_ne z] at e1
        rw [List.getElem?_set_ne z'] at e2
        exact h.sep j k r r' a hjk e1 o1 e2 o2 e3 e4
end
end DS
end
section
set_option Elab.async false
set_option linter.all false
set_option maxRecDepth 100000
set_option maxHeartbeats 1000000
namespace DS
open PySem PySem.Spec PyProof.Rows L2
open Evl (Ex ex_l ex_t ex_rd)

theorem pe_mono {X : Cx} {e : Expr} {t t' : TE} (h : PE X e t) (i : ∀ σ H Q, t' σ H Q → t σ H Q) : PE X e t' := ⟨fun pins s σ H Q I q => h.run pins s σ H Q I (i σ H Q q)⟩
theorem pt_mono {X : Cx} {e : Expr} {t t' : TT} (h : PT X e t) (i : ∀ σ H Q, t' σ H Q → t σ H Q) : PT X e t' := ⟨fun pins s σ H Q I q => h.run pins s σ H Q I (i σ H Q q)⟩
theorem pw_mono {X : Cx} {e : Expr} {t t' : TT} (h : PW X e t) (i : ∀ σ H Q, t' σ H Q → t σ H Q) : PW X e t' := ⟨fun wh pins s σ H Q I q => h.run wh pins s σ H Q I (i σ H Q q)⟩
theorem pa_mono {X : Cx} {es : List Expr} {t t' : TA} (h : PA X es t) (i : ∀ σ H Q, t' σ H Q → t σ H Q) : PA X es t' := ⟨fun pos pins s σ H Q I q => h.run pos pins s σ H Q I (i σ H Q q)⟩
theorem ps_mono {X : Cx} {st : Stmt} {t t' : TS} (h : PS X st t) (i : ∀ D σ H, t' D σ H → t D σ H) : PS X st t' := ⟨fun pins s σ H D I q => h.run pins s σ H D I (i D σ H q)⟩
theorem pss_mono {X : Cx} {st : List Stmt} {t t' : TS} (h : PSs X st t) (i : ∀ D σ H, t' D σ H → t D σ H) : PSs X st t' := ⟨fun pins s σ H D I q => h.run pins s σ H D I (i D σ H q)⟩

/-! ### judgements -/
/-- what is told of a result: the heap ahead, the frozen part and the heap behind, the value -/
abbrev Rs := Hp → Hp → Hp → V → Prop
def tG (K : PySem.W.Frag) (O : Own) (ds : List Sl) (R : Rs) : TE := fun σ H Q => ∃ F, StOk K O F σ H ds ∧ ∀ v F' H', Grow O F H F' H' → O.J H' → R H F' H' v → Q v H'
/-- data -/
def rD (K : PySem.W.Frag) (x : PyData) : Rs := fun _ F' _ v => Dp K F' v x
/-- some data -/
def rP (K : PySem.W.Frag) (P : PyData → Prop) : Rs := fun _ F' _ v => ∃ x, Dp K F' v x ∧ P x
/-- a list or a tuple that may be read now -/
def rL (K : PySem.W.Frag) (xs : List PyData) : Rs := fun _ F' H' v => ∃ p vs, v = .ref p ∧ (SqL K H' p vs ∨ SqT K H' p vs) ∧ DpAll K F' vs xs
/-- a new list of one's own -/
def rO (K : PySem.W.Frag) (xs : List PyData) : Rs := fun H F' H' v => ∃ p vs, v = .ref p ∧ H p = none ∧ F' p = none ∧ H' p = some (.lst vs) ∧ DpAll K F' vs xs
/-- a new dict of one's own -/
def rM (kvs : List (Key × V)) : Rs := fun H F' H' v => ∃ p, v = .ref p ∧ H p = none ∧ F' p = none ∧ H' p = some (.dK kvs)
def rV (w : V) : Rs := fun _ _ _ v => v = w
abbrev DG (X : Cx) (O : Own) (ds : List Sl) (e : Expr) (R : Rs) : Prop := PE X e (tG X.K O ds R)
abbrev DX (X : Cx) (O : Own) (ds : List Sl) (e : Expr) (x : PyData) : Prop := DG X O ds e (rD X.K x)
abbrev DP (X : Cx) (O : Own) (ds : List Sl) (e : Expr) (P : PyData → Prop) : Prop := DG X O ds e (rP X.K P)
abbrev DL (X : Cx) (O : Own) (ds : List Sl) (e : Expr) (xs : List PyData) : Prop := DG X O ds e (rL X.K xs)
abbrev DO (X : Cx) (O : Own) (ds : List Sl) (e : Expr) (xs : List PyData) : Prop := DG X O ds e (rO X.K xs)
abbrev DM (X : Cx) (O : Own) (ds : List Sl) (e : Expr) (kvs : List (Key × V)) : Prop := DG X O ds e (rM kvs)
/-- a test -/
def tT (K : PySem.W.Frag) (O : Own) (ds : List Sl) (b : Bool) : TT := fun σ H Q => ∃ F, StOk K O F σ H ds ∧ ∀ F' H', Grow O F H F' H' → O.J H' → Q b H'
def tTP (K : PySem.W.Frag) (O : Own) (ds : List Sl) (P : Bool → Prop) : TT := fun σ H Q => ∃ F, StOk K O F σ H ds ∧ ∀ b F' H', Grow O F H F' H' → O.J H' → P b → Q b H'
abbrev DT (X : Cx) (O : Own) (ds : List Sl) (e : Expr) (b : Bool) : Prop := PT X e (tT X.K O ds b)
abbrev DTw (X : Cx) (O : Own) (ds : List Sl) (e : Expr) (b : Bool) : Prop := PW X e (tT X.K O ds b)
/-- arguments -/
def tAr (K : PySem.W.Frag) (O : Own) (ds : List Sl) (xs : List PyData) : TA := fun σ H Q => ∃ F, StOk K O F σ H ds ∧ ∀ vs F' H', Grow O F H F' H' → O.J H' → DpAll K F' vs xs → Q vs H'
abbrev DA (X : Cx) (O : Own) (ds : List Sl) (es : List Expr) (xs : List PyData) : Prop := PA X es (tAr X.K O ds xs)

section
variable {X : Cx} {O : Own} {ds : List Sl} {e a b c : Expr} {es : List Expr} {x y z : PyData} {xs ys : List PyData} {R R' : Rs} {pos : Pos}
theorem dg_imp (h : DG X O ds e R) (i : ∀ H F' H' v, R H F' H' v → R' H F' H' v) : DG X O ds e R' :=
  pe_mono h fun σ H Q ⟨F, st, q⟩ => ⟨F, st, fun v F' H' g j r => q v F' H' g j (i _ _ _ _ r)⟩
theorem dx_is (h : DX X O ds e x) (i : x = y) : DX X O ds e y := i ▸ h
theorem dp_of (h : DX X O ds e x) {P : PyData → Prop} (p : P x) : DP X O ds e P := dg_imp h fun _ _ _ _ r => ⟨x, r, p⟩
theorem dp_imp {P P' : PyData → Prop} (h : DP X O ds e P) (i : ∀ x, P x → P' x) : DP X O ds e P' := dg_imp h fun _ _ _ _ ⟨x, r, p⟩ => ⟨x, r, i x p⟩

/-! ### names, constants -/
theorem dx_var (i : Nat) {nm : Str} (hd : ds[i]? = some (.d x) := by rfl) (hN : X.N[i]? = some nm := by rfl) (hv : Vis X.env.scope nm := by first | exact Or.inl rfl | exact Or.inr (Or.inl rfl) | exact Or.inr (Or.inr rfl))
    (h1 : (nm == ("__debug__" : Str)) = false := by decide) (h2 : (nm == ("__classdict__" : Str)) = false := by decide) : DX X O ds (.Name nm pos) x :=
  pe_mono (pe_var hN hv h1 h2) fun σ H Q ⟨F, st, q⟩ => by
    obtain ⟨v, e1, d⟩ := st.dat hd
    exact ⟨v, e1, q v F H (Grow.refl st.ex) st.j d⟩
theorem dl_var (i : Nat) {nm : Str} (hd : ds[i]? = some (.l xs) := by rfl) (hN : X.N[i]? = some nm := by rfl) (hv : Vis X.env.scope nm := by first | exact Or.inl rfl | exact Or.inr (Or.inl rfl) | exact Or.inr (Or.inr rfl))
    (h1 : (nm == ("__debug__" : Str)) = false := by decide) (h2 : (nm == ("__classdict__" : Str)) = false := by decide) : DL X O ds (.Name nm pos) xs :=
  pe_mono (pe_var hN hv h1 h2) fun σ H Q ⟨F, st, q⟩ => by
    obtain ⟨p, vs, e1, f, ns, hp, d, w⟩ := st.lst hd
    exact ⟨.ref p, e1, q _ F H (Grow.refl st.ex) st.j ⟨p, vs, rfl, .inl (SqL.of hp), d⟩⟩
theorem dv_var (i : Nat) {nm : Str} {w : V} (hd : ds[i]? = some (.v w) := by rfl) (hN : X.N[i]? = some nm := by rfl) (hv : Vis X.env.scope nm := by first | exact Or.inl rfl | exact Or.inr (Or.inl rfl) | exact Or.inr (Or.inr rfl))
    (h1 : (nm == ("__debug__" : Str)) = false := by decide) (h2 : (nm == ("__classdict__" : Str)) = false := by decide) : DG X O ds (.Name nm pos) (rV w) :=
  pe_mono (pe_var hN hv h1 h2) fun σ H Q ⟨F, st, q⟩ => ⟨w, st.val hd, q _ F H (Grow.refl st.ex) st.j rfl⟩
theorem dx_c {v : V} (h : PE X e (tC v)) (hx : ∀ F, Dp X.K F v x) : DX X O ds e x :=
  pe_mono h fun σ H Q ⟨F, st, q⟩ => q v F H (Grow.refl st.ex) st.j (hx F)
theorem dx_int {i : Int} {j : Nat} : DX X O ds (.Constant (.int i) j pos) (.int i) := dx_c pe_int fun _ => .int i
theorem dx_bl {i : Bool} {j : Nat} : DX X O ds (.Constant (.bool i) j pos) (.bool i) := dx_c pe_bl fun _ => .bl i
theorem dx_str {i : Str} {j : Nat} : DX X O ds (.Constant (.str i) j pos) (.str i) := dx_c pe_str fun _ => .str i
theorem dx_non {j : Nat} : DX X O ds (.Constant .none j pos) .none := dx_c pe_non fun _ => .non
theorem dl_of (h : DX X O ds e (.list xs)) : DL X O ds e xs :=
  pe_mono h fun σ H Q ⟨F, st, q⟩ => ⟨F, st, fun v F' H' g j r => by
    obtain ⟨p, vs, rfl, h1, h2⟩ := r.lst_eq
    exact q _ F' H' g j ⟨p, vs, rfl, .inl (ex_l g.s h1), h2⟩⟩
theorem dl_ofT (h : DX X O ds e (.tuple xs)) : DL X O ds e xs :=
  pe_mono h fun σ H Q ⟨F, st, q⟩ => ⟨F, st, fun v F' H' g j r => by
    obtain ⟨p, vs, rfl, h1, h2⟩ := r.tup_eq
    exact q _ F' H' g j ⟨p, vs, rfl, .inr (ex_t g.s h1), h2⟩⟩

/-! ### arguments, displays -/
theorem da_nil : DA X O ds [] [] := pa_mono pa_nil fun σ H Q ⟨F, st, q⟩ => q [] F H (Grow.refl st.ex) st.j .nil
theorem da_cons (ha : DX X O ds e x) (hr : DA X O ds es xs) (hs : starEach (e :: es) X.env = (false, eval e X.env) :: starEach es X.env := by rfl) : DA X O ds (e :: es) (x :: xs) :=
  pa_mono (pa_cons ha hr hs) fun σ H Q ⟨F, st, q⟩ => ⟨F, st, fun v F1 H1 g1 j1 d1 => ⟨F1, st.grow g1 j1, fun vs F2 H2 g2 j2 d2 => q _ F2 H2 (g1.trans g2) j2 (.cons (d1.up g2.f) d2)⟩⟩
theorem da_one (ha : DX X O ds e x) (hs : starEach [e] X.env = (false, eval e X.env) :: starEach [] X.env := by rfl) : DA X O ds [e] [x] := da_cons ha da_nil hs
theorem dx_tup {k : Nat} (h : DA X O ds es xs) (hl : xs.length ≤ 100000 := by first | decide | simp) : DX X O ds (.Tuple es k pos) (.tuple xs) :=
  pe_mono (pe_tup h) fun σ H Q ⟨F, st, q⟩ => ⟨F, st, fun vs F1 H1 g1 j1 d1 => ⟨Evl.sz_of (by rw [d1.len]; exact hl), fun p hp => by
    have g2 := Grow.new (O := O) (o := .tup vs) g1.s hp
    exact q _ _ _ (g1.trans g2) (own_new j1 hp) (.tup (SqT.of upd_same) (d1.up g2.f))⟩⟩
theorem do_lst (h : DA X O ds es xs) (hl : xs.length ≤ 100000 := by first | decide | simp) : DO X O ds (.List es pos) xs :=
  pe_mono (pe_lst h) fun σ H Q ⟨F, st, q⟩ => ⟨F, st, fun vs F1 H1 g1 j1 d1 => ⟨Evl.sz_of (by rw [d1.len]; exact hl), fun p hp => by
    have g2 := Grow.own (O := O) (o := .lst vs) g1.s hp
    refine q _ _ _ (g1.trans g2) (own_new j1 hp) ⟨p, vs, rfl, g1.free hp, ?_, upd_same, d1⟩
    cases e : F1 p with
    | none => rfl
    | some u => rw [g1.s p u e] at hp; cases hp⟩⟩
/-- a new list is frozen at once -/
theorem dx_ofO (h : DO X O ds e xs) : DX X O ds e (.list xs) :=
  pe_mono h fun σ H Q ⟨F, st, q⟩ => ⟨F, st, fun v F1 H1 g1 j1 r => by
    obtain ⟨p, vs, rfl, h1, h2, h3, h4⟩ := r
    have e1 : Ex F1 (upd F1 p (.lst vs)) := Ex.new h2
    refine q _ (upd F1 p (.lst vs)) H1 ⟨g1.f.trans e1, g1.h, fun a o ha => ?_, fun a n1 n2 => ?_, g1.t⟩ j1 (.lst (SqL.of upd_same) (h4.up e1))
    · by_cases z : a = p
      · subst z; rw [upd_same] at ha; cases ha; exact h3
      · rw [upd_ne z] at ha; exact g1.s a o ha
    · by_cases z : a = p
      · subst z; exact h1
      · rw [upd_ne z] at n2; exact g1.n a n1 n2⟩
theorem dx_lst (h : DA X O ds es xs) (hl : xs.length ≤ 100000 := by first | decide | simp) : DX X O ds (.List es pos) (.list xs) := dx_ofO (do_lst h hl)

/-! ### operators by data -/
/-- r, of data x and y, gives the data z -/
def Op2 (K : PySem.W.Frag) (r : R2) (x y z : PyData) : Prop := ∀ (F H : Hp) (v w : V) (Q : VK), Ex F H → Dp K F v x → Dp K F w y → (∀ u F' H', Grow Own.no F H F' H' → Dp K F' u z → Q u H') → r v w H Q
theorem op2_pure {K : PySem.W.Frag} {r : R2} (h : ∀ (F H : Hp) (v w : V) (Q : VK), Ex F H → Dp K F v x → Dp K F w y → (∀ u, Dp K F u z → Q u H) → r v w H Q) : Op2 K r x y z :=
  fun F H v w Q e d1 d2 q => h F H v w Q e d1 d2 fun u d => q u F H (Grow.refl e) d
theorem dx_op {op : Operator} {r : R2} (ho : OpR X (binaryOp op) r) (ha : DX X O ds a x) (hb : DX X O ds b y) (hr : Op2 X.K r x y z) : DX X O ds (.BinOp a op b pos) z :=
  pe_mono (pe_op ho ha hb) fun σ H Q ⟨F, st, q⟩ => ⟨F, st, fun v F1 H1 g1 j1 d1 => ⟨F1, st.grow g1 j1, fun w F2 H2 g2 j2 d2 => hr F2 H2 v w Q g2.s (d1.up g2.f) d2 fun u F3 H3 g3 d3 =>
    q u F3 H3 ((g1.trans g2).trans g3.lift) (g3.j j2) d3⟩⟩
theorem dx_cmp {op : CmpOp} {r : R2} (ho : OpR X (compareOp op) r) (ha : DX X O ds a x) (hb : DX X O ds b y) (hr : Op2 X.K r x y z) (hm : behindInMarks op b = false := by first | rfl | exact nomark _) : DX X O ds (.Compare a [op] [b] pos) z :=
  pe_mono (pe_cmpR ho ha hb hm) fun σ H Q ⟨F, st, q⟩ => ⟨F, st, fun v F1 H1 g1 j1 d1 => ⟨F1, st.grow g1 j1, fun w F2 H2 g2 j2 d2 => hr F2 H2 v w Q g2.s (d1.up g2.f) d2 fun u F3 H3 g3 d3 =>
    q u F3 H3 ((g1.trans g2).trans g3.lift) (g3.j j2) d3⟩⟩
theorem dx_ix {r : R2} (ho : IxR X r) (ha : DX X O ds a x) (hb : DX X O ds b y) (hr : Op2 X.K r x y z) (hs : PlainIx b := by intro _ _; rfl) : DX X O ds (.Subscript a b pos) z :=
  pe_mono (pe_ix ho ha hb hs) fun σ H Q ⟨F, st, q⟩ => ⟨F, st, fun v F1 H1 g1 j1 d1 => ⟨F1, st.grow g1 j1, fun w F2 H2 g2 j2 d2 => hr F2 H2 v w Q g2.s (d1.up g2.f) d2 fun u F3 H3 g3 d3 =>
    q u F3 H3 ((g1.trans g2).trans g3.lift) (g3.j j2) d3⟩⟩
theorem op2_II {K : PySem.W.Frag} {g : Int → Int → V} {h : Int → Int → PyData} {i j : Int} (hg : ∀ F, Dp K F (g i j) (h i j)) : Op2 K (rI0 g) (.int i) (.int j) (h i j) :=
  op2_pure fun F H v w Q e d1 d2 q => ⟨i, j, d1.int_eq, d2.int_eq, q _ (hg F)⟩
theorem op2_IIc {K : PySem.W.Frag} {C : Int → Int → Prop} {g : Int → Int → V} {h : Int → Int → PyData} {i j : Int} (hc : C i j) (hg : ∀ F, Dp K F (g i j) (h i j)) : Op2 K (rI C g) (.int i) (.int j) (h i j) :=
  op2_pure fun F H v w Q e d1 d2 q => ⟨i, j, d1.int_eq, d2.int_eq, hc, q _ (hg F)⟩
theorem dx_add {i j : Int} (ha : DX X O ds a (.int i)) (hb : DX X O ds b (.int j)) : DX X O ds (.BinOp a .Add b pos) (.int (i + j)) := dx_op op_add ha hb (op2_II (h := fun i j => .int (i + j)) fun _ => .int _)
theorem dx_sub {i j : Int} (ha : DX X O ds a (.int i)) (hb : DX X O ds b (.int j)) : DX X O ds (.BinOp a .Sub b pos) (.int (i - j)) := dx_op op_sub ha hb (op2_II (h := fun i j => .int (i - j)) fun _ => .int _)
theorem dx_mod {i j : Int} (ha : DX X O ds a (.int i)) (hb : DX X O ds b (.int j)) (hj : 0 < j := by decide) : DX X O ds (.BinOp a .Mod b pos) (.int (i % j)) := dx_op op_mod ha hb (op2_IIc (h := fun i j => .int (i % j)) hj fun _ => .int _)
theorem dx_lt {i j : Int} (ha : DX X O ds a (.int i)) (hb : DX X O ds b (.int j)) : DX X O ds (.Compare a [.Lt] [b] pos) (.bool (decide (i < j))) := dx_cmp op_lt ha hb (op2_II (h := fun i j => .bool (decide (i < j))) fun _ => .bl _)
theorem dx_le {i j : Int} (ha : DX X O ds a (.int i)) (hb : DX X O ds b (.int j)) : DX X O ds (.Compare a [.LtE] [b] pos) (.bool (decide (i ≤ j))) := dx_cmp op_le ha hb (op2_II (h := fun i j => .bool (decide (i ≤ j))) fun _ => .bl _)
theorem dx_gt {i j : Int} (ha : DX X O ds a (.int i)) (hb : DX X O ds b (.int j)) : DX X O ds (.Compare a [.Gt] [b] pos) (.bool (decide (j < i))) := dx_cmp op_gt ha hb (op2_II (h := fun i j => .bool (decide (j < i))) fun _ => .bl _)
theorem dx_ge {i j : Int} (ha : DX X O ds a (.int i)) (hb : DX X O ds b (.int j)) : DX X O ds (.Compare a [.GtE] [b] pos) (.bool (decide (j ≤ i))) := dx_cmp op_ge ha hb (op2_II (h := fun i j => .bool (decide (j ≤ i))) fun _ => .bl _)
theorem op2_eq {K : PySem.W.Frag} (h1 : SeqAt.shaped x = true) (h2 : SeqAt.shaped y = true) : Op2 K (rEqD K) x y (.bool (PyData.eqv x y)) := op2_pure fun F H v w Q e d1 d2 q => ⟨x, y, d1.up e, d2.up e, h1, h2, q _ (.bl _)⟩
theorem op2_ne {K : PySem.W.Frag} (h1 : SeqAt.shaped x = true) (h2 : SeqAt.shaped y = true) : Op2 K (rNeD K) x y (.bool (!PyData.eqv x y)) := op2_pure fun F H v w Q e d1 d2 q => ⟨x, y, d1.up e, d2.up e, h1, h2, q _ (.bl _)⟩
theorem dx_eq (hu : X.A.units + 64 < cLine) (ha : DX X O ds a x) (hb : DX X O ds b y) (h1 : SeqAt.shaped x = true) (h2 : SeqAt.shaped y = true) : DX X O ds (.Compare a [.Eq] [b] pos) (.bool (PyData.eqv x y)) := dx_cmp (op_eqD hu) ha hb (op2_eq h1 h2)
theorem dx_ne (hu : X.A.units + 64 < cLine) (ha : DX X O ds a x) (hb : DX X O ds b y) (h1 : SeqAt.shaped x = true) (h2 : SeqAt.shaped y = true) : DX X O ds (.Compare a [.NotEq] [b] pos) (.bool (!PyData.eqv x y)) := dx_cmp (op_neD hu) ha hb (op2_ne h1 h2)
/-- two texts, two ints, two bools .. compared -/
theorem op2_eqS {K : PySem.W.Frag} {i j : Str} : Op2 K rEq (.str i) (.str j) (.bool (decide (i = j))) := op2_pure fun F H v w Q e d1 d2 q => by
  rw [d1.str_eq, d2.str_eq]
  refine ⟨rfl, ?_⟩
  rw [dec_str]
  have : decide (i = j) = (i == j) := by rw [Bool.beq_eq_decide_eq]
  rw [← this]; exact q _ (.bl _)
theorem op2_neS {K : PySem.W.Frag} {i j : Str} : Op2 K rNe (.str i) (.str j) (.bool (!decide (i = j))) := op2_pure fun F H v w Q e d1 d2 q => by
  rw [d1.str_eq, d2.str_eq]
  refine ⟨rfl, ?_⟩
  rw [dec_str]
  have : decide (i = j) = (i == j) := by rw [Bool.beq_eq_decide_eq]
  rw [← this]; exact q _ (.bl _)
theorem op2_eqI {K : PySem.W.Frag} {i j : Int} : Op2 K rEq (.int i) (.int j) (.bool (decide (i = j))) := op2_pure fun F H v w Q e d1 d2 q => by
  rw [d1.int_eq, d2.int_eq]
  refine ⟨rfl, ?_⟩
  rw [dec_int]
  have : decide (i = j) = (i == j) := by rw [Bool.beq_eq_decide_eq]
  rw [← this]; exact q _ (.bl _)
theorem op2_neI {K : PySem.W.Frag} {i j : Int} : Op2 K rNe (.int i) (.int j) (.bool (!decide (i = j))) := op2_pure fun F H v w Q e d1 d2 q => by
  rw [d1.int_eq, d2.int_eq]
  refine ⟨rfl, ?_⟩
  rw [dec_int]
  have : decide (i = j) = (i == j) := by rw [Bool.beq_eq_decide_eq]
  rw [← this]; exact q _ (.bl _)
theorem op2_neB {K : PySem.W.Frag} {i j : Bool} : Op2 K rNe (.bool i) (.bool j) (.bool (!decide (i = j))) := op2_pure fun F H v w Q e d1 d2 q => by
  rw [d1.bool_eq, d2.bool_eq]
  refine ⟨rfl, ?_⟩
  rw [dec_bl]
  have : decide (i = j) = (i == j) := by rw [Bool.beq_eq_decide_eq]
  rw [← this]; exact q _ (.bl _)
theorem op2_eqB {K : PySem.W.Frag} {i j : Bool} : Op2 K rEq (.bool i) (.bool j) (.bool (decide (i = j))) := op2_pure fun F H v w Q e d1 d2 q => by
  rw [d1.bool_eq, d2.bool_eq]
  refine ⟨rfl, ?_⟩
  rw [dec_bl]
  have : decide (i = j) = (i == j) := by rw [Bool.beq_eq_decide_eq]
  rw [← this]; exact q _ (.bl _)
theorem dx_eqS {i j : Str} (ha : DX X O ds a (.str i)) (hb : DX X O ds b (.str j)) : DX X O ds (.Compare a [.Eq] [b] pos) (.bool (decide (i = j))) := dx_cmp op_eq ha hb op2_eqS
theorem dx_neS {i j : Str} (ha : DX X O ds a (.str i)) (hb : DX X O ds b (.str j)) : DX X O ds (.Compare a [.NotEq] [b] pos) (.bool (!decide (i = j))) := dx_cmp op_ne ha hb op2_neS
theorem dx_eqI {i j : Int} (ha : DX X O ds a (.int i)) (hb : DX X O ds b (.int j)) : DX X O ds (.Compare a [.Eq] [b] pos) (.bool (decide (i = j))) := dx_cmp op_eq ha hb op2_eqI
theorem dx_neI {i j : Int} (ha : DX X O ds a (.int i)) (hb : DX X O ds b (.int j)) : DX X O ds (.Compare a [.NotEq] [b] pos) (.bool (!decide (i = j))) := dx_cmp op_ne ha hb op2_neI
theorem dx_eqB {i j : Bool} (ha : DX X O ds a (.bool i)) (hb : DX X O ds b (.bool j)) : DX X O ds (.Compare a [.Eq] [b] pos) (.bool (decide (i = j))) := dx_cmp op_eq ha hb op2_eqB
theorem dx_neB {i j : Bool} (ha : DX X O ds a (.bool i)) (hb : DX X O ds b (.bool j)) : DX X O ds (.Compare a [.NotEq] [b] pos) (.bool (!decide (i = j))) := dx_cmp op_ne ha hb op2_neB
/-- is None -/
def isNone : PyData → Bool
  | .none => true
  | _ => false
theorem dx_isN (ha : DX X O ds a x) {j : Nat} {p : Pos} : DX X O ds (.Compare a [.Is] [.Constant .none j p] pos) (.bool (isNone x)) := dx_cmp op_isN ha dx_non (op2_pure fun F H v w Q e d1 d2 q => by
  refine ⟨d2.none_eq, ?_⟩
  rw [d1.is_none]
  exact q _ (by cases x <;> exact .bl _))
theorem dx_notN (ha : DX X O ds a x) {j : Nat} {p : Pos} : DX X O ds (.Compare a [.IsNot] [.Constant .none j p] pos) (.bool (!isNone x)) := dx_cmp op_notN ha dx_non (op2_pure fun F H v w Q e d1 d2 q => by
  refine ⟨d2.none_eq, ?_⟩
  rw [d1.is_none]
  exact q _ (by cases x <;> exact .bl _))
theorem dx_addS {i j : Str} (ha : DX X O ds a (.str i)) (hb : DX X O ds b (.str j)) (hl : i.length + j.length ≤ 100000) : DX X O ds (.BinOp a .Add b pos) (.str (i ++ j)) :=
  dx_op op_add_str ha hb (op2_pure fun F H v w Q e d1 d2 q => ⟨i, j, d1.str_eq, d2.str_eq, Evl.sz_of hl, q _ (.str _)⟩)
/-- a sign in a text -/
theorem dx_inS {c : Nat} {z : Str} (ha : DX X O ds a (.str ⟨#[c]⟩)) (hb : DX X O ds b (.str z)) (hm : behindInMarks .In b = false := by rfl) : DX X O ds (.Compare a [.In] [b] pos) (.bool (decide (c ∈ z.cps.toList))) :=
  dx_cmp op_in_sign ha hb (op2_pure fun F H v w Q e d1 d2 q => ⟨c, z, d1.str_eq, d2.str_eq, q _ (.bl _)⟩) hm
theorem dx_notInS {c : Nat} {z : Str} (ha : DX X O ds a (.str ⟨#[c]⟩)) (hb : DX X O ds b (.str z)) (hm : behindInMarks .NotIn b = false := by rfl) : DX X O ds (.Compare a [.NotIn] [b] pos) (.bool (!decide (c ∈ z.cps.toList))) :=
  dx_cmp op_notIn_sign ha hb (op2_pure fun F H v w Q e d1 d2 q => ⟨c, z, d1.str_eq, d2.str_eq, q _ (.bl _)⟩) hm
end
end DS
end
section
set_option Elab.async false
set_option linter.all false
set_option maxRecDepth 100000
set_option maxHeartbeats 1000000
namespace DS
open PySem PySem.Spec PyProof.Rows L2
open Evl (Ex ex_l ex_t ex_rd)

theorem grow_no_j {O : Own} {F H F' H' : Hp} (g : Grow Own.no F H F' H') (j : O.J H) : O.J H' := g.j j
theorem dpAll_strs {K : PySem.W.Frag} {F : Hp} : ∀ {ss : List Str} {vs : List V}, DpAll K F vs (ss.map PyData.str) → vs = ss.map V.str
  | [], _, .nil => rfl
  | s :: ss, _, .cons h t => by rw [h.str_eq, dpAll_strs t] <;> rfl
theorem dpAll_bools {K : PySem.W.Frag} {F : Hp} : ∀ {ss : List Bool} {vs : List V}, DpAll K F vs (ss.map PyData.bool) → vs = ss.map V.bl
  | [], _, .nil => rfl
  | s :: ss, _, .cons h t => by rw [h.bool_eq, dpAll_bools t] <;> rfl
theorem dpAll_ints {K : PySem.W.Frag} {F : Hp} : ∀ {ss : List Int} {vs : List V}, DpAll K F vs (ss.map PyData.int) → vs = ss.map V.int
  | [], _, .nil => rfl
  | s :: ss, _, .cons h t => by rw [h.int_eq, dpAll_ints t] <;> rfl
theorem inV_strs {s : Str} : ∀ {ss : List Str}, inV (.str s) (ss.map V.str) = decide (s ∈ ss)
  | [] => by simp [inV]
  | t :: ss => by
    have ih := inV_strs (s := s) (ss := ss)
    unfold inV at ih ⊢
    rw [List.map_cons, List.any_cons, ih]
    by_cases e : t = s
    · subst e
      simp [eqV]
    · have e' : s ≠ t := fun z => e z.symm
      have : eqV (.str t) (.str s) = false := by
        simp [eqV, e]
      rw [this]
      simp [e']
theorem flat_strs : ∀ {ss : List Str}, (ss.map V.str).all flatV = true
  | [] => rfl
  | _ :: ss => by rw [List.map_cons, List.all_cons, flat_strs (ss := ss)] <;> rfl

section
variable {X : Cx} {O : Own} {ds : List Sl} {e a b c : Expr} {es : List Expr} {x y z : PyData} {xs ys : List PyData} {R R' : Rs} {pos p p1 p2 apos : Pos}

/-! ### built-in functions by data -/
def Cal (K : PySem.W.Frag) (r : List V → Hp → VK → Prop) (xs : List PyData) (z : PyData) : Prop := ∀ (F H : Hp) (vs : List V) (Q : VK), Ex F H → DpAll K F vs xs → (∀ u F' H', Grow Own.no F H F' H' → Dp K F' u z → Q u H') → r vs H Q
theorem cal_pure {K : PySem.W.Frag} {r : List V → Hp → VK → Prop} (h : ∀ (F H : Hp) (vs : List V) (Q : VK), Ex F H → DpAll K F vs xs → (∀ u, Dp K F u z → Q u H) → r vs H Q) : Cal K r xs z :=
  fun F H vs Q e d q => h F H vs Q e d fun u d' => q u F H (Grow.refl e) d'
theorem dx_tcb {nm : Str} {r : List V → Hp → VK → Prop} {t : TA → TE} (h : PE X (.Call (.Name nm p) (e :: es) [] pos) (tCB r (tAr X.K O ds xs))) (hr : Cal X.K r xs z) : DX X O ds (.Call (.Name nm p) (e :: es) [] pos) z :=
  pe_mono h fun σ H Q ⟨F, st, q⟩ => ⟨F, st, fun vs F1 H1 g1 j1 d1 => hr F1 H1 vs Q g1.s d1 fun u F2 H2 g2 d2 => q u F2 H2 (g1.trans g2.lift) (g2.j j1) d2⟩
theorem dx_callB {nm : Str} {id : String} {r : List V → Hp → VK → Prop} (hc : CallR X (.builtin id) r) (hm : X.mg nm = none) (hv : bootBuiltins nm = some (.builtin id)) (ha : DA X O ds (e :: es) xs) (hr : Cal X.K r xs z) (hg : Gl X nm := by rfl)
    (hn : nm ≠ "__name__" := by decide) (hdb : (nm == ("__debug__" : Str)) = false := by decide) (he : starEach (e :: es) X.env = (false, eval e X.env) :: starEach es X.env := by rfl) (hpl : (backTo pos (starEach es X.env)).any (·.1) = false := by rfl) :
    DX X O ds (.Call (.Name nm p) (e :: es) [] pos) z := dx_tcb (t := fun t => tCB r t) (pe_callB hc hg hm hv ha hn hdb he hpl) hr
theorem dx_callTy {nm : Str} {id : String} {r : List V → Hp → VK → Prop} (hc : CallR X (.type id) r) (hm : X.mg nm = none) (hv : bootBuiltins nm = some (.type id)) (ha : DA X O ds (e :: es) xs) (hr : Cal X.K r xs z) (hg : Gl X nm := by rfl)
    (hn : nm ≠ "__name__" := by decide) (hdb : (nm == ("__debug__" : Str)) = false := by decide) (he : starEach (e :: es) X.env = (false, eval e X.env) :: starEach es X.env := by rfl) (hpl : (backTo pos (starEach es X.env)).any (·.1) = false := by rfl) :
    DX X O ds (.Call (.Name nm p) (e :: es) [] pos) z := dx_tcb (t := fun t => tCB r t) (pe_callTy hc hg hm hv ha hn hdb he hpl) hr

/-! ### one argument by its result -/
def tA1 (te : TE) : TA := tCons te tNil
theorem pa1 {t : TE} (h : PE X e t) (hs : starEach [e] X.env = (false, eval e X.env) :: starEach [] X.env := by rfl) : PA X [e] (tA1 t) := pa_cons h pa_nil hs
/-- f(e), by what is told of e -/
theorem dg_call1 {nm : Str} {id : String} {r : List V → Hp → VK → Prop} (hc : CallR X (.builtin id) r) (hm : X.mg nm = none) (hv : bootBuiltins nm = some (.builtin id)) (ha : DG X O ds e R)
    (hr : ∀ F0 H0 F H v (Q : VK), Grow O F0 H0 F H → O.J H → R H0 F H v → (∀ u F' H', Grow Own.no F H F' H' → R' H0 F' H' u → Q u H') → r [v] H Q) (hg : Gl X nm := by rfl)
    (hn : nm ≠ "__name__" := by decide) (hdb : (nm == ("__debug__" : Str)) = false := by decide) (he : starEach [e] X.env = (false, eval e X.env) :: starEach [] X.env := by rfl) :
    DG X O ds (.Call (.Name nm p) [e] [] pos) R' :=
  pe_mono (pe_callB hc hg hm hv (pa1 ha he) hn hdb he rfl) fun σ H Q ⟨F, st, q⟩ => ⟨F, st, fun v F1 H1 g1 j1 r1 => hr F H F1 H1 v Q g1 j1 r1 fun u F2 H2 g2 r2 => q u F2 H2 (g1.trans g2.lift) (g2.j j1) r2⟩
theorem dg_callT1 {nm : Str} {id : String} {r : List V → Hp → VK → Prop} (hc : CallR X (.type id) r) (hm : X.mg nm = none) (hv : bootBuiltins nm = some (.type id)) (ha : DG X O ds e R)
    (hr : ∀ F0 H0 F H v (Q : VK), Grow O F0 H0 F H → O.J H → R H0 F H v → (∀ u F' H', Grow Own.no F H F' H' → R' H0 F' H' u → Q u H') → r [v] H Q) (hg : Gl X nm := by rfl)
    (hn : nm ≠ "__name__" := by decide) (hdb : (nm == ("__debug__" : Str)) = false := by decide) (he : starEach [e] X.env = (false, eval e X.env) :: starEach [] X.env := by rfl) :
    DG X O ds (.Call (.Name nm p) [e] [] pos) R' :=
  pe_mono (pe_callTy hc hg hm hv (pa1 ha he) hn hdb he rfl) fun σ H Q ⟨F, st, q⟩ => ⟨F, st, fun v F1 H1 g1 j1 r1 => hr F H F1 H1 v Q g1 j1 r1 fun u F2 H2 g2 r2 => q u F2 H2 (g1.trans g2.lift) (g2.j j1) r2⟩

/-! ### len, list, tuple, all -/
theorem dx_len (hm : X.mg "len" = none) (ha : DL X O ds e xs) (hg : Gl X "len" := by rfl) (he : starEach [e] X.env = (false, eval e X.env) :: starEach [] X.env := by rfl) : DX X O ds (.Call (.Name "len" p) [e] [] pos) (.int (xs.length : Int)) :=
  dg_call1 call_len_seq hm PySem.boot_len ha (fun F0 H0 F H v Q g j r q => by
    obtain ⟨a, vs, rfl, h1, h2⟩ := r
    refine ⟨a, vs, rfl, h1, ?_⟩
    rw [h2.len]
    exact q _ F H (Grow.refl g.s) (.int _)) hg (by decide) (by decide) he
theorem dx_lenS {s : Str} (hm : X.mg "len" = none) (ha : DX X O ds e (.str s)) (hl : s.length ≤ 100000) (hg : Gl X "len" := by rfl) (he : starEach [e] X.env = (false, eval e X.env) :: starEach [] X.env := by rfl) : DX X O ds (.Call (.Name "len" p) [e] [] pos) (.int (s.length : Int)) :=
  dg_call1 call_len_str hm PySem.boot_len ha (fun F0 H0 F H v Q g j r q => ⟨s, by rw [Dp.str_eq r], Evl.sz_of hl, q _ F H (Grow.refl g.s) (.int _)⟩) hg (by decide) (by decide) he
theorem do_list (hm : X.mg "list" = none) (ha : DL X O ds e xs) (hg : Gl X "list" := by rfl) (he : starEach [e] X.env = (false, eval e X.env) :: starEach [] X.env := by rfl) : DO X O ds (.Call (.Name "list" p) [e] [] pos) xs :=
  dg_callT1 call_list_of hm PyProof.Rows.boot_list ha (fun F0 H0 F H v Q g j r q => by
    obtain ⟨a, vs, rfl, h1, h2⟩ := r
    refine ⟨a, vs, rfl, h1, fun l hl => ?_⟩
    refine q _ F _ (Grow.own g.s hl) ⟨l, vs, rfl, g.free hl, ?_, upd_same, h2⟩
    cases e : F l with
    | none => rfl
    | some u => rw [g.s l u e] at hl; cases hl) hg (by decide) (by decide) he
theorem dx_tuple (hm : X.mg "tuple" = none) (ha : DL X O ds e xs) (hf : ∀ F0 H0 F H v, Grow O F0 H0 F H → rL X.K xs H0 F H v → (∃ p vs, v = .ref p ∧ SqL X.K H p vs ∧ DpAll X.K F vs xs) ∨ Dp X.K F v (.tuple xs)) (hg : Gl X "tuple" := by rfl) (he : starEach [e] X.env = (false, eval e X.env) :: starEach [] X.env := by rfl) : DX X O ds (.Call (.Name "tuple" p) [e] [] pos) (.tuple xs) :=
  dg_callT1 call_tuple_of hm PyProof.Rows.boot_tuple ha (fun F0 H0 F H v Q g j r q => by
    rcases hf F0 H0 F H v g r with ⟨a, vs, rfl, h1, h2⟩ | h
    · refine ⟨a, vs, rfl, .inl ⟨h1, fun l hl => ?_⟩⟩
      have g2 := Grow.new (O := Own.no) (o := .tup vs) g.s hl
      exact q _ _ _ g2 (.tup (SqT.of upd_same) (h2.up g2.f))
    · obtain ⟨a, vs, rfl, h1, h2⟩ := Dp.tup_eq h
      exact ⟨a, vs, rfl, .inr ⟨ex_t g.s h1, q _ F H (Grow.refl g.s) h⟩⟩) hg (by decide) (by decide) he

/-- a list that may be read now -/
def rLs (K : PySem.W.Frag) (xs : List PyData) : Rs := fun _ F' H' v => ∃ p vs, v = .ref p ∧ SqL K H' p vs ∧ DpAll K F' vs xs
/-- a list tracked now, that is not the state's -/
def rLt (K : PySem.W.Frag) (O : Own) (xs : List PyData) : Rs := fun _ F' H' v => ∃ p vs, v = .ref p ∧ ¬ O.S p ∧ H' p = some (.lst vs) ∧ DpAll K F' vs xs
abbrev DLs (X : Cx) (O : Own) (ds : List Sl) (e : Expr) (xs : List PyData) : Prop := DG X O ds e (rLs X.K xs)
abbrev DLt (X : Cx) (O : Own) (ds : List Sl) (e : Expr) (xs : List PyData) : Prop := DG X O ds e (rLt X.K O xs)
theorem dl_ofLs (h : DLs X O ds e xs) : DL X O ds e xs := dg_imp h fun _ _ _ _ ⟨p, vs, e, h1, h2⟩ => ⟨p, vs, e, .inl h1, h2⟩
theorem dls_ofLt (h : DLt X O ds e xs) : DLs X O ds e xs := dg_imp h fun _ _ _ _ ⟨p, vs, e, n, h1, h2⟩ => ⟨p, vs, e, SqL.of h1, h2⟩
theorem dls_of (h : DX X O ds e (.list xs)) : DLs X O ds e xs :=
  pe_mono h fun σ H Q ⟨F, st, q⟩ => ⟨F, st, fun v F' H' g j r => by
    obtain ⟨p, vs, rfl, h1, h2⟩ := r.lst_eq
    exact q _ F' H' g j ⟨p, vs, rfl, ex_l g.s h1, h2⟩⟩
theorem dlt_ofO (h : DO X O ds e xs) : DLt X O ds e xs :=
  pe_mono h fun σ H Q ⟨F, st, q⟩ => ⟨F, st, fun v F' H' g j r => by
    obtain ⟨p, vs, rfl, h1, h2, h3, h4⟩ := r
    exact q _ F' H' g j ⟨p, vs, rfl, fun s => O.dom st.j s h1, h3, h4⟩⟩
theorem dls_ofO (h : DO X O ds e xs) : DLs X O ds e xs := dls_ofLt (dlt_ofO h)
theorem dl_ofO (h : DO X O ds e xs) : DL X O ds e xs := dl_ofLs (dls_ofO h)
theorem dlt_var (i : Nat) {nm : Str} (hd : ds[i]? = some (.l xs) := by rfl) (hN : X.N[i]? = some nm := by rfl) (hv : Vis X.env.scope nm := by first | exact Or.inl rfl | exact Or.inr (Or.inl rfl) | exact Or.inr (Or.inr rfl))
    (h1 : (nm == ("__debug__" : Str)) = false := by decide) (h2 : (nm == ("__classdict__" : Str)) = false := by decide) : DLt X O ds (.Name nm pos) xs :=
  pe_mono (pe_var hN hv h1 h2) fun σ H Q ⟨F, st, q⟩ => by
    obtain ⟨p, vs, e1, f, ns, hp, d, w⟩ := st.lst hd
    exact ⟨.ref p, e1, q _ F H (Grow.refl st.ex) st.j ⟨p, vs, rfl, ns, hp, d⟩⟩
theorem dx_tupleL (hm : X.mg "tuple" = none) (ha : DLs X O ds e xs) (hg : Gl X "tuple" := by rfl) (he : starEach [e] X.env = (false, eval e X.env) :: starEach [] X.env := by rfl) : DX X O ds (.Call (.Name "tuple" p) [e] [] pos) (.tuple xs) :=
  dg_callT1 call_tuple_of hm PyProof.Rows.boot_tuple ha (fun F0 H0 F H v Q g j r q => by
    obtain ⟨a, vs, rfl, h1, h2⟩ := r
    refine ⟨a, vs, rfl, .inl ⟨h1, fun l hl => ?_⟩⟩
    have g2 := Grow.new (O := Own.no) (o := .tup vs) g.s hl
    exact q _ _ _ g2 (.tup (SqT.of upd_same) (h2.up g2.f))) hg (by decide) (by decide) he
theorem dx_all {bs : List Bool} (hc : X.calm = true) (hm : X.mg "all" = none) (ha : DLs X O ds e (bs.map PyData.bool)) (hg : Gl X "all" := by rfl) (he : starEach [e] X.env = (false, eval e X.env) :: starEach [] X.env := by rfl) : DX X O ds (.Call (.Name "all" p) [e] [] pos) (.bool (bs.all id)) :=
  dg_call1 (cr_all hc) hm PyProof.Rows.boot_all ha (fun F0 H0 F H v Q g j r q => by
    obtain ⟨a, vs, rfl, h1, h2⟩ := r
    rw [dpAll_bools h2] at h1
    exact ⟨a, bs, rfl, h1, q _ F H (Grow.refl g.s) (.bl _)⟩) hg (by decide) (by decide) he

/-! ### isinstance with a built-in type -/
def tyName : PyData → String
  | .none => "NoneType"
  | .bool _ => "bool"
  | .int _ => "int"
  | .str _ => "str"
  | .list _ => "list"
  | .tuple _ => "tuple"
  | .dict _ => "dict"
theorem tyX_of {K : PySem.W.Frag} {F H : Hp} {v : V} (e : Ex F H) (h : Dp K F v x) : TyX K H v (.type (tyName x)) := by
  cases h with
  | non => exact .base .non
  | bl b => exact .base (.bl b)
  | int i => exact .base (.int i)
  | str s => exact .base (.str s)
  | lst h1 h2 =>
    rcases h1 with (h1 | ⟨o, h1⟩) | ⟨o, its, n, h1, h2, _⟩
    · exact .base (.lst (e _ _ h1))
    · exact .base (.frz (e _ _ h1))
    · exact .kList h1 h2
  | tup h1 h2 =>
    rcases h1 with (h1 | ⟨o, h1⟩) | ⟨o, its, n, h1, h2, _⟩
    · exact .base (.tup (e _ _ h1))
    · exact .fTuple (e _ _ h1)
    · exact .kTuple h1 h2
theorem dx_isi {T : String} {nT : Str} {k : Bool} (hm : X.mg "isinstance" = none) (hT : X.mg nT = none) (hv : bootBuiltins nT = some (.type T)) (ha : DX X O ds a x) (hk : kitB (tyName x) T = some k)
    (hg : Gl X "isinstance" := by rfl) (hgT : Gl X nT := by rfl) (hn : nT ≠ "__name__" := by decide) (hdb : (nT == ("__debug__" : Str)) = false := by decide)
    (h1 : starEach [a, .Name nT p1] X.env = (false, eval a X.env) :: starEach [.Name nT p1] X.env := by rfl) (h2 : starEach [.Name nT p1] X.env = (false, eval (.Name nT p1) X.env) :: starEach [] X.env := by rfl)
    (hpl : (backTo pos (starEach [.Name nT p1] X.env)).any (·.1) = false := by rfl) : DX X O ds (.Call (.Name "isinstance" p) [a, .Name nT p1] [] pos) (.bool k) :=
  pe_mono (pe_callB call_isi hg hm PyProof.Rows.boot_isinstance (pa_cons ha (pa_cons (pe_bltn (v := .ty T) hgT hT hv rfl hn hdb) pa_nil h2) h1) (by decide) (by decide) h1 hpl) fun σ H Q ⟨F, st, q⟩ =>
    ⟨F, st, fun v F1 H1 g1 j1 d1 => ⟨v, .ty T, .type (tyName x), .type T, k, rfl, .ty T, tyX_of g1.s d1, kit_ty hk, q _ F1 H1 g1 j1 (.bl k)⟩⟩
def isTup : PyData → Bool
  | .tuple _ => true
  | _ => false
def isStr : PyData → Bool
  | .str _ => true
  | _ => false
def isBool : PyData → Bool
  | .bool _ => true
  | _ => false
theorem kit_tup : ∀ x : PyData, kitB (tyName x) "tuple" = some (isTup x)
  | .none => by show kitB "NoneType" "tuple" = some false; decide +kernel
  | .bool _ => by show kitB "bool" "tuple" = some false; decide +kernel
  | .int _ => by show kitB "int" "tuple" = some false; decide +kernel
  | .str _ => by show kitB "str" "tuple" = some false; decide +kernel
  | .list _ => by show kitB "list" "tuple" = some false; decide +kernel
  | .tuple _ => by show kitB "tuple" "tuple" = some true; decide +kernel
  | .dict _ => by show kitB "dict" "tuple" = some false; decide +kernel
theorem kit_str : ∀ x : PyData, kitB (tyName x) "str" = some (isStr x)
  | .none => by show kitB "NoneType" "str" = some false; decide +kernel
  | .bool _ => by show kitB "bool" "str" = some false; decide +kernel
  | .int _ => by show kitB "int" "str" = some false; decide +kernel
  | .str _ => by show kitB "str" "str" = some true; decide +kernel
  | .list _ => by show kitB "list" "str" = some false; decide +kernel
  | .tuple _ => by show kitB "tuple" "str" = some false; decide +kernel
  | .dict _ => by show kitB "dict" "str" = some false; decide +kernel
theorem kit_bool : ∀ x : PyData, kitB (tyName x) "bool" = some (isBool x)
  | .none => by show kitB "NoneType" "bool" = some false; decide +kernel
  | .bool _ => by show kitB "bool" "bool" = some true; decide +kernel
  | .int _ => by show kitB "int" "bool" = some false; decide +kernel
  | .str _ => by show kitB "str" "bool" = some false; decide +kernel
  | .list _ => by show kitB "list" "bool" = some false; decide +kernel
  | .tuple _ => by show kitB "tuple" "bool" = some false; decide +kernel
  | .dict _ => by show kitB "dict" "bool" = some false; decide +kernel

/-! ### subscripts, slices -/
theorem dx_ixT {i : Int} (ha : DX X O ds a (.tuple xs)) (hb : DX X O ds b (.int i)) (h : atI xs i = some z) (hs : PlainIx b := by intro _ _; rfl) : DX X O ds (.Subscript a b pos) z :=
  dx_ix ix_tup ha hb (op2_pure fun F H v w Q e d1 d2 q => by
    obtain ⟨p, vs, rfl, h1, h2⟩ := d1.tup_eq
    rw [d2.int_eq]
    unfold atI at h
    cases hx : ixN xs.length i with
    | none => rw [hx] at h; cases h
    | some j =>
      rw [hx] at h
      obtain ⟨u, hu, du⟩ := h2.get' (show xs[j]? = some z from h)
      exact ⟨p, vs, i, u, rfl, rfl, ex_t e h1, by unfold atI; rw [h2.len, hx]; exact hu, q u du⟩) hs
theorem dx_ixL {i : Int} (ha : DLs X O ds a xs) (hb : DX X O ds b (.int i)) (h : atI xs i = some z) (hb' : ∀ F0 H0 F H p vs, Grow O F0 H0 F H → SqL X.K H0 p vs → SqL X.K H p vs := by intro F0 H0 F H p vs g h; exact ex_l (fun a o ha => g.h a o (fun z => z) ha) h) (hs : PlainIx b := by intro _ _; rfl) : DX X O ds (.Subscript a b pos) z :=
  pe_mono (pe_ix ix_list ha hb hs) fun σ H Q ⟨F, st, q⟩ => ⟨F, st, fun v F1 H1 g1 j1 r1 => ⟨F1, st.grow g1 j1, fun w F2 H2 g2 j2 d2 => by
    obtain ⟨p, vs, rfl, h1, h2⟩ := r1
    rw [Dp.int_eq d2]
    unfold atI at h
    cases hx : ixN xs.length i with
    | none => rw [hx] at h; cases h
    | some j =>
      rw [hx] at h
      obtain ⟨u, hu, du⟩ := h2.get' (show xs[j]? = some z from h)
      exact ⟨p, vs, i, u, rfl, rfl, hb' _ _ _ _ _ _ g2 h1, by unfold atI; rw [h2.len, hx]; exact hu, q u F2 H2 (g1.trans g2) j2 (du.up g2.f)⟩⟩⟩
theorem dx_ixS {i : Int} {s : Str} {k : Nat} (ha : DX X O ds a (.str s)) (hb : DX X O ds b (.int i)) (h : atI s.cps.toList i = some k) (hl : s.length ≤ 100000) (hs : PlainIx b := by intro _ _; rfl) : DX X O ds (.Subscript a b pos) (.str ⟨#[k]⟩) :=
  dx_ix ix_str ha hb (op2_pure fun F H v w Q e d1 d2 q => ⟨s, i, k, d1.str_eq, d2.int_eq, Evl.sz_of hl, h, q _ (.str _)⟩) hs
end
end DS
end
section
set_option Elab.async false
set_option linter.all false
set_option maxRecDepth 100000
set_option maxHeartbeats 1000000
namespace DS
open PySem PySem.Spec PyProof.Rows L2
open Evl (Ex ex_l ex_t ex_rd)

/-- a cut of a row of data -/
def cutD (xs : List PyData) (lo hi : Option Int) : List PyData := (xs.drop (HT.sIx xs.length 0 lo)).take (HT.sIx xs.length xs.length hi - HT.sIx xs.length 0 lo)
theorem cut_dp {K : PySem.W.Frag} {F : Hp} {vs : List V} {xs : List PyData} (h : DpAll K F vs xs) (lo hi : Option Int) : DpAll K F (cutV vs lo hi) (cutD xs lo hi) := by
  unfold cutV cutD
  rw [h.len]
  exact (h.drop _).take _
theorem cutD_whole {xs : List PyData} {lo hi : Option Int} (h : HT.sIx xs.length 0 lo = 0 ∧ HT.sIx xs.length xs.length hi = xs.length) : cutD xs lo hi = xs := by
  unfold cutD
  rw [h.1, h.2, List.drop_zero, Nat.sub_zero, List.take_length]
theorem cutD_len (xs : List PyData) (lo hi : Option Int) : (cutD xs lo hi).length ≤ xs.length := by
  unfold cutD
  rw [List.length_take, List.length_drop]
  omega

section
variable {X : Cx} {O : Own} {ds : List Sl} {e a b c : Expr} {es : List Expr} {x y z : PyData} {xs ys : List PyData} {R R' : Rs} {pos p p1 p2 apos : Pos}

/-! ### parts of a slice -/
def tPt (K : PySem.W.Frag) (O : Own) (ds : List Sl) (o : Option Int) : TO := fun σ H Q => ∃ F, StOk K O F σ H ds ∧ ∀ F' H', Grow O F H F' H' → O.J H' → Q o H'
abbrev DPt (X : Cx) (O : Own) (ds : List Sl) (e : Option Expr) (o : Option Int) : Prop := PO X e (tPt X.K O ds o)
theorem po_mono {e : Option Expr} {t t' : TO} (h : PO X e t) (i : ∀ σ H Q, t' σ H Q → t σ H Q) : PO X e t' := ⟨fun pins s σ H Q I q => h.run pins s σ H Q I (i σ H Q q)⟩
theorem pt_no : DPt X O ds none none := po_mono po_none fun σ H Q ⟨F, st, q⟩ => q F H (Grow.refl st.ex) st.j
theorem pt_at {i : Int} (h : DX X O ds e (.int i)) : DPt X O ds (some e) (some i) := po_mono (po_some h) fun σ H Q ⟨F, st, q⟩ => ⟨F, st, fun v F1 H1 g1 j1 d1 => ⟨i, Dp.int_eq d1, q F1 H1 g1 j1⟩⟩
variable {lo hi : Option Expr} {l u : Option Int}
theorem dx_cutS {s : Str} (he : DX X O ds e (.str s)) (h1 : DPt X O ds lo l) (h2 : DPt X O ds hi u) (hl : s.length ≤ 100000) : DX X O ds (.Subscript e (.Slice lo hi none p2) pos) (.str (cutS s l u)) :=
  pe_mono (pe_slice sl_str he h1 h2) fun σ H Q ⟨F, st, q⟩ => ⟨F, st, fun v F1 H1 g1 j1 d1 => ⟨F1, st.grow g1 j1, fun F2 H2 g2 j2 => ⟨F2, (st.grow g1 j1).grow g2 j2, fun F3 H3 g3 j3 =>
    ⟨s, Dp.str_eq d1, Evl.sz_of hl, q _ F3 H3 ((g1.trans g2).trans g3) j3 (.str _)⟩⟩⟩⟩
theorem dx_cutT (he : DX X O ds e (.tuple xs)) (h1 : DPt X O ds lo l) (h2 : DPt X O ds hi u) : DX X O ds (.Subscript e (.Slice lo hi none p2) pos) (.tuple (cutD xs l u)) :=
  pe_mono (pe_slice sl_tupA he h1 h2) fun σ H Q ⟨F, st, q⟩ => ⟨F, st, fun v F1 H1 g1 j1 d1 => ⟨F1, st.grow g1 j1, fun F2 H2 g2 j2 => ⟨F2, (st.grow g1 j1).grow g2 j2, fun F3 H3 g3 j3 => by
    obtain ⟨a, vs, rfl, s1, s2⟩ := Dp.tup_eq d1
    have s1' : SqT X.K F3 a vs := ex_t (g2.f.trans g3.f) s1
    have s2' : DpAll X.K F3 vs xs := s2.up (g2.f.trans g3.f)
    have g := (g1.trans g2).trans g3
    refine ⟨a, vs, rfl, ex_t g3.s s1', fun hw => ?_, fun hw p hp => ?_⟩
    · rw [s2'.len] at hw
      exact q _ F3 H3 g j3 (by rw [cutD_whole hw]; exact .tup s1' s2')
    · have g4 := Grow.new (O := O) (o := .tup (cutV vs l u)) g3.s hp
      exact q _ _ _ (g.trans g4) (own_new j3 hp) (.tup (SqT.of upd_same) ((cut_dp s2' l u).up g4.f))⟩⟩⟩
theorem do_cutL (he : DLt X O ds e xs) (h1 : DPt X O ds lo l) (h2 : DPt X O ds hi u) : DO X O ds (.Subscript e (.Slice lo hi none p2) pos) (cutD xs l u) :=
  pe_mono (pe_slice sl_list he h1 h2) fun σ H Q ⟨F, st, q⟩ => ⟨F, st, fun v F1 H1 g1 j1 r1 => ⟨F1, st.grow g1 j1, fun F2 H2 g2 j2 => ⟨F2, (st.grow g1 j1).grow g2 j2, fun F3 H3 g3 j3 => by
    obtain ⟨a, vs, rfl, n1, s1, s2⟩ := r1
    have g := (g1.trans g2).trans g3
    refine ⟨a, vs, rfl, SqL.of (g3.h _ _ n1 (g2.h _ _ n1 s1)), fun p hp => ?_⟩
    have g4 := Grow.own (O := O) (o := .lst (cutV vs l u)) g3.s hp
    refine q _ _ _ (g.trans g4) (own_new j3 hp) ⟨p, _, rfl, g.free hp, ?_, upd_same, cut_dp (s2.up (g2.f.trans g3.f)) l u⟩
    cases e : F3 p with
    | none => rfl
    | some u => rw [g3.s p u e] at hp; cases hp⟩⟩⟩
/-- a list of data as it lies frozen -/
theorem do_cutLs (he : DX X O ds e (.list xs)) (h1 : DPt X O ds lo l) (h2 : DPt X O ds hi u) : DO X O ds (.Subscript e (.Slice lo hi none p2) pos) (cutD xs l u) :=
  pe_mono (pe_slice sl_list he h1 h2) fun σ H Q ⟨F, st, q⟩ => ⟨F, st, fun v F1 H1 g1 j1 d1 => ⟨F1, st.grow g1 j1, fun F2 H2 g2 j2 => ⟨F2, (st.grow g1 j1).grow g2 j2, fun F3 H3 g3 j3 => by
    obtain ⟨a, vs, rfl, s1, s2⟩ := Dp.lst_eq d1
    have g := (g1.trans g2).trans g3
    refine ⟨a, vs, rfl, ex_l g3.s (ex_l (g2.f.trans g3.f) s1), fun p hp => ?_⟩
    have g4 := Grow.own (O := O) (o := .lst (cutV vs l u)) g3.s hp
    refine q _ _ _ (g.trans g4) (own_new j3 hp) ⟨p, _, rfl, g.free hp, ?_, upd_same, cut_dp (s2.up (g2.f.trans g3.f)) l u⟩
    cases e : F3 p with
    | none => rfl
    | some u => rw [g3.s p u e] at hp; cases hp⟩⟩⟩

/-! ### tuple + tuple, list + list, list * int -/
theorem dx_catT (ha : DX X O ds a (.tuple xs)) (hb : DX X O ds b (.tuple ys)) (hl : xs.length + ys.length ≤ 100000) : DX X O ds (.BinOp a .Add b pos) (.tuple (xs ++ ys)) :=
  dx_op op_catA ha hb fun F H v w Q e d1 d2 q => by
    obtain ⟨a, vs, rfl, s1, s2⟩ := d1.tup_eq
    obtain ⟨b, ws, rfl, t1, t2⟩ := d2.tup_eq
    refine ⟨a, b, vs, ws, rfl, rfl, ex_t e s1, ex_t e t1, Evl.sz_of (by rw [s2.len, t2.len]; exact hl), fun z => ?_, fun _ z => ?_, fun _ _ p hp => ?_⟩
    · subst z
      cases s2
      exact q _ F H (Grow.refl e) (.tup t1 t2)
    · subst z
      cases t2
      exact q _ F H (Grow.refl e) (by rw [List.append_nil]; exact .tup s1 s2)
    · have g := Grow.new (O := Own.no) (o := .tup (vs ++ ws)) e hp
      exact q _ _ _ g (.tup (SqT.of upd_same) ((s2.up g.f).app (t2.up g.f)))
theorem do_cat (ha : DLt X O ds a xs) (hb : DLt X O ds b ys) (hl : xs.length + ys.length ≤ 100000) : DO X O ds (.BinOp a .Add b pos) (xs ++ ys) :=
  pe_mono (pe_op op_cat ha hb) fun σ H Q ⟨F, st, q⟩ => ⟨F, st, fun v F1 H1 g1 j1 r1 => ⟨F1, st.grow g1 j1, fun w F2 H2 g2 j2 r2 => by
    obtain ⟨a, vs, rfl, n1, s1, s2⟩ := r1
    obtain ⟨b, ws, rfl, n2, t1, t2⟩ := r2
    have g := g1.trans g2
    refine ⟨a, b, vs, ws, rfl, rfl, g2.h _ _ n1 s1, t1, Evl.sz_of (by rw [s2.len, t2.len]; exact hl), fun p hp => ?_⟩
    have g4 := Grow.own (O := O) (o := .lst (vs ++ ws)) g2.s hp
    refine q _ _ _ (g.trans g4) (own_new j2 hp) ⟨p, _, rfl, g.free hp, ?_, upd_same, (s2.up g2.f).app t2⟩
    cases e : F2 p with
    | none => rfl
    | some u => rw [g2.s p u e] at hp; cases hp⟩⟩
theorem rep_dp {K : PySem.W.Frag} {F : Hp} {vs : List V} (h : DpAll K F vs xs) : ∀ n : Nat, DpAll K F (List.replicate n vs).flatten (List.replicate n xs).flatten
  | 0 => .nil
  | n + 1 => by rw [List.replicate_succ, List.replicate_succ, List.flatten_cons, List.flatten_cons]; exact h.app (rep_dp h n)
theorem do_rep {k : Int} (ha : DLt X O ds a xs) (hb : DX X O ds b (.int k)) (h0 : 0 ≤ k) (hl : k ≤ 1000) (hx : xs.length ≤ 1000) : DO X O ds (.BinOp a .Mult b pos) (List.replicate k.toNat xs).flatten :=
  pe_mono (pe_op op_rep ha hb) fun σ H Q ⟨F, st, q⟩ => ⟨F, st, fun v F1 H1 g1 j1 r1 => ⟨F1, st.grow g1 j1, fun w F2 H2 g2 j2 d2 => by
    obtain ⟨a, vs, rfl, n1, s1, s2⟩ := r1
    have g := g1.trans g2
    have hz : vs.length * k.toNat ≤ sizeLine := by
      rw [s2.len]
      have h1 : k.toNat ≤ 1000 := by omega
      have h2 : xs.length * k.toNat ≤ 1000 * 1000 := Nat.mul_le_mul hx h1
      exact Nat.le_trans h2 (by rw [sizeLine_eq]; decide)
    refine ⟨a, k, vs, rfl, Dp.int_eq d2, g2.h _ _ n1 s1, by omega, by omega, hz, fun p hp => ?_⟩
    have g4 := Grow.own (O := O) (o := .lst (List.replicate k.toNat vs).flatten) g2.s hp
    refine q _ _ _ (g.trans g4) (own_new j2 hp) ⟨p, _, rfl, g.free hp, ?_, upd_same, rep_dp (s2.up g2.f) _⟩
    cases e : F2 p with
    | none => rfl
    | some u => rw [g2.s p u e] at hp; cases hp⟩⟩

/-! ### a text among texts -/
theorem dx_in {s : Str} {ss : List Str} (ha : DX X O ds a (.str s)) (hb : DL X O ds b (ss.map PyData.str)) (hm : behindInMarks .In b = false := by rfl) : DX X O ds (.Compare a [.In] [b] pos) (.bool (decide (s ∈ ss))) :=
  pe_mono (pe_cmpR op_in_seq ha hb hm) fun σ H Q ⟨F, st, q⟩ => ⟨F, st, fun v F1 H1 g1 j1 d1 => ⟨F1, st.grow g1 j1, fun w F2 H2 g2 j2 r2 => by
    obtain ⟨p, vs, rfl, h1, h2⟩ := r2
    have hv := dpAll_strs h2
    subst hv
    rw [Dp.str_eq d1]
    refine ⟨p, _, rfl, h1, rfl, flat_strs, ?_⟩
    show Q (.bl (if false = true then _ else inV (.str s) (ss.map V.str))) H2
    rw [if_neg Bool.false_ne_true, inV_strs]
    exact q _ F2 H2 (g1.trans g2) j2 (.bl _)⟩⟩
theorem dx_notIn {s : Str} {ss : List Str} (ha : DX X O ds a (.str s)) (hb : DL X O ds b (ss.map PyData.str)) (hm : behindInMarks .NotIn b = false := by rfl) : DX X O ds (.Compare a [.NotIn] [b] pos) (.bool (!decide (s ∈ ss))) :=
  pe_mono (pe_cmpR op_notIn_seq ha hb hm) fun σ H Q ⟨F, st, q⟩ => ⟨F, st, fun v F1 H1 g1 j1 d1 => ⟨F1, st.grow g1 j1, fun w F2 H2 g2 j2 r2 => by
    obtain ⟨p, vs, rfl, h1, h2⟩ := r2
    have hv := dpAll_strs h2
    subst hv
    rw [Dp.str_eq d1]
    refine ⟨p, _, rfl, h1, rfl, flat_strs, ?_⟩
    show Q (.bl (if true = true then !inV (.str s) (ss.map V.str) else _)) H2
    rw [if_pos rfl, inV_strs]
    exact q _ F2 H2 (g1.trans g2) j2 (.bl _)⟩⟩

/-! ### and, or, not, if as values -/
theorem dx_one {op : BoolOp} (h : DX X O ds e x) : DX X O ds (.BoolOp op [e] pos) x := pe_one h
theorem dg_when {t : TE} {k : Prop} (h : k → PE X e t) : PE X e (fun σ H Q => k ∧ t σ H Q) := ⟨fun pins s σ H Q I ⟨hk, q⟩ => (h hk).run pins s σ H Q I q⟩
theorem dx_and {k k' : Bool} (ha : DX X O ds a (.bool k)) (hb : k = true → DX X O ds (.BoolOp .And (b :: es) pos) (.bool k')) : DX X O ds (.BoolOp .And (a :: b :: es) pos) (.bool (k && k')) :=
  pe_mono (pe_and ha (dg_when hb)) fun σ H Q ⟨F, st, q⟩ => ⟨F, st, fun v F1 H1 g1 j1 d1 => ⟨k, Dp.bool_eq d1, by
    cases k with
    | true => exact iteT ⟨rfl, F1, st.grow g1 j1, fun w F2 H2 g2 j2 d2 => q w F2 H2 (g1.trans g2) j2 d2⟩
    | false => exact iteF (q _ F1 H1 g1 j1 (.bl false))⟩⟩
theorem dx_or {k k' : Bool} (ha : DX X O ds a (.bool k)) (hb : k = false → DX X O ds (.BoolOp .Or (b :: es) pos) (.bool k')) : DX X O ds (.BoolOp .Or (a :: b :: es) pos) (.bool (k || k')) :=
  pe_mono (pe_or ha (dg_when hb)) fun σ H Q ⟨F, st, q⟩ => ⟨F, st, fun v F1 H1 g1 j1 d1 => ⟨k, Dp.bool_eq d1, by
    cases k with
    | false => exact iteF ⟨rfl, F1, st.grow g1 j1, fun w F2 H2 g2 j2 d2 => q w F2 H2 (g1.trans g2) j2 d2⟩
    | true => exact iteT (q _ F1 H1 g1 j1 (.bl true))⟩⟩
theorem dx_not {k : Bool} (ha : DX X O ds a (.bool k)) : DX X O ds (.UnaryOp .Not a pos) (.bool (!k)) :=
  pe_mono (pe_not ha) fun σ H Q ⟨F, st, q⟩ => ⟨F, st, fun v F1 H1 g1 j1 d1 => ⟨k, Dp.bool_eq d1, q _ F1 H1 g1 j1 (.bl _)⟩⟩
theorem dg_if {k : Bool} (hc : DT X O ds c k) (ha : k = true → DG X O ds a R) (hb : k = false → DG X O ds b R) (hR : ∀ H0 H1 F v F' H', Grow O F H0 F H1 → R H1 F' H' v → R H0 F' H' v := by intro H0 H1 F v F' H' g h; exact h) : DG X O ds (.IfExp c a b pos) R :=
  pe_mono (pe_ifExp hc (dg_when ha) (dg_when hb)) fun σ H Q ⟨F, st, q⟩ => ⟨F, st, fun F1 H1 g1 j1 => by
    have hR' : ∀ v F' H', R H1 F' H' v → R H F' H' v := fun v F' H' h => hR H H1 F1 v F' H' ⟨Ex.refl _, g1.h, g1.s, fun a n n' => absurd n n', g1.t⟩ h
    cases k with
    | true => exact iteT ⟨rfl, F1, st.grow g1 j1, fun w F2 H2 g2 j2 r2 => q w F2 H2 (g1.trans g2) j2 (hR' _ _ _ r2)⟩
    | false => exact iteF ⟨rfl, F1, st.grow g1 j1, fun w F2 H2 g2 j2 r2 => q w F2 H2 (g1.trans g2) j2 (hR' _ _ _ r2)⟩⟩
theorem dx_if {k : Bool} (hc : DT X O ds c k) (ha : k = true → DX X O ds a x) (hb : k = false → DX X O ds b x) : DX X O ds (.IfExp c a b pos) x := dg_if hc ha hb
/-! ### tests -/
theorem dt_val {k : Bool} (h : DX X O ds e (.bool k)) (he : ∀ whole, isTrue e X.env whole = (do let v ← whole; standAt e.pos; holding [v] (truthy v)) := by intro _; rfl) : DT X O ds e k :=
  pt_mono (pt_val h he) fun σ H Q ⟨F, st, q⟩ => ⟨F, st, fun v F1 H1 g1 j1 d1 => ⟨k, Dp.bool_eq d1, q F1 H1 g1 j1⟩⟩
theorem dt_cmp {op : CmpOp} {r : R2} {k : Bool} (ho : OpR X (compareOp op) r) (ha : DX X O ds a x) (hb : DX X O ds b y) (hr : Op2 X.K r x y (.bool k)) (hm : behindInMarks op b = false := by first | rfl | exact nomark _) : DT X O ds (.Compare a [op] [b] pos) k :=
  pt_mono (pt_cmpR ho ha hb hm) fun σ H Q ⟨F, st, q⟩ => ⟨F, st, fun v F1 H1 g1 j1 d1 => ⟨F1, st.grow g1 j1, fun w F2 H2 g2 j2 d2 => hr F2 H2 v w _ g2.s (d1.up g2.f) d2 fun u F3 H3 g3 d3 => ⟨k, Dp.bool_eq d3, q F3 H3 ((g1.trans g2).trans g3.lift) (g3.j j2)⟩⟩⟩
theorem dt_not {k : Bool} (h : DT X O ds e k) : DT X O ds (.UnaryOp .Not e pos) (!k) := pt_mono (pt_not h) fun σ H Q ⟨F, st, q⟩ => ⟨F, st, fun F1 H1 g1 j1 => q F1 H1 g1 j1⟩
theorem dw_pt {k : Bool} (h : DTw X O ds e k) : DT X O ds e k := PW.pt h
theorem dw_and1 {k : Bool} (h : DT X O ds a k) : DTw X O ds (.BoolOp .And [a] pos) k := pw_and1 h
theorem dw_or1 {k : Bool} (h : DT X O ds a k) : DTw X O ds (.BoolOp .Or [a] pos) k := pw_or1 h
theorem pw_when {t : TT} {k : Prop} (h : k → PW X e t) : PW X e (fun σ H Q => k ∧ t σ H Q) := ⟨fun wh pins s σ H Q I ⟨hk, q⟩ => (h hk).run wh pins s σ H Q I q⟩
theorem dw_and {k k' : Bool} (ha : DT X O ds a k) (hb : k = true → DTw X O ds (.BoolOp .And (b :: es) pos) k') : DTw X O ds (.BoolOp .And (a :: b :: es) pos) (k && k') :=
  pw_mono (pw_and ha (pw_when hb)) fun σ H Q ⟨F, st, q⟩ => ⟨F, st, fun F1 H1 g1 j1 => by
    cases k with
    | true => exact iteT ⟨rfl, F1, st.grow g1 j1, fun F2 H2 g2 j2 => q F2 H2 (g1.trans g2) j2⟩
    | false => exact iteF (q F1 H1 g1 j1)⟩
theorem dw_or {k k' : Bool} (ha : DT X O ds a k) (hb : k = false → DTw X O ds (.BoolOp .Or (b :: es) pos) k') : DTw X O ds (.BoolOp .Or (a :: b :: es) pos) (k || k') :=
  pw_mono (pw_or ha (pw_when hb)) fun σ H Q ⟨F, st, q⟩ => ⟨F, st, fun F1 H1 g1 j1 => by
    cases k with
    | false => exact iteF ⟨rfl, F1, st.grow g1 j1, fun F2 H2 g2 j2 => q F2 H2 (g1.trans g2) j2⟩
    | true => exact iteT (q F1 H1 g1 j1)⟩
theorem dt_is {k k' : Bool} (h : DT X O ds e k) (i : k = k') : DT X O ds e k' := i ▸ h
end
end DS
end
section
set_option Elab.async false
set_option linter.all false
set_option maxRecDepth 100000
set_option maxHeartbeats 1000000
namespace DS
open PySem PySem.Spec PyProof.Rows L2
open Evl (Ex ex_l ex_t ex_rd)

/-- a chain of two comparisons -/
theorem dx_chain {X : Cx} {O : Own} {ds : List Sl} {a b c : Expr} {x y z : PyData} {pos : Pos} {r r' : R2} {op op' : CmpOp} {k k' : Bool} (ho : OpR X (compareOp op) r) (ho' : OpR X (compareOp op') r') (ha : DX X O ds a x) (hb : DX X O ds b y) (hc : DX X O ds c z) (hr : Op2 X.K r x y (.bool k)) (hr' : Op2 X.K r' y z (.bool k'))
    (hm : lastMarks [op, op'] [b, c] = false := by with_unfolding_all rfl) : DX X O ds (.Compare a [op, op'] [b, c] pos) (.bool (k && k')) :=
  pe_mono (pe_chain ho ho' ha hb hc hm) fun σ H Q ⟨F, st, q⟩ => ⟨F, st, fun v F1 H1 g1 j1 d1 => ⟨F1, st.grow g1 j1, fun w F2 H2 g2 j2 d2 => hr F2 H2 v w _ g2.s (d1.up g2.f) d2 fun u F3 H3 g3 d3 => by
    refine ⟨k, Dp.bool_eq d3, ?_⟩
    have j3 := g3.j j2
    have g := (g1.trans g2).trans (g3.lift (O := O))
    cases k with
    | false => exact iteF (q _ F3 H3 g j3 (.bl false))
    | true => exact iteT ⟨F3, (((st.grow g1 j1).grow g2 j2).grow g3.lift j3), fun w' F4 H4 g4 j4 d4 => hr' F4 H4 w w' Q g4.s (d2.up (g3.f.trans g4.f)) d4 fun u5 F5 H5 g5 d5 => q u5 F5 H5 ((g.trans g4).trans g5.lift) (g5.j j4) d5⟩⟩⟩
/-- lo <= len <= hi -/
theorem dx_leLe {X : Cx} {O : Own} {ds : List Sl} {a b c : Expr} {i j k : Int} {pos : Pos} (ha : DX X O ds a (.int i)) (hb : DX X O ds b (.int j)) (hc : DX X O ds c (.int k)) (hm : lastMarks [.LtE, .LtE] [b, c] = false := by with_unfolding_all rfl) :
    DX X O ds (.Compare a [.LtE, .LtE] [b, c] pos) (.bool (decide (i ≤ j) && decide (j ≤ k))) :=
  dx_chain op_le op_le ha hb hc (op2_II (h := fun i j => .bool (decide (i ≤ j))) fun _ => .bl _) (op2_II (h := fun i j => .bool (decide (i ≤ j))) fun _ => .bl _) hm

/-! ### statements -/
/-- a body: what may change, the frozen part and the heap at its entry -/
structure Frm where
  O : Own
  F0 : Hp
  B : Hp
  w : ∀ p, O.W p ↔ B p = none
structure At (K : PySem.W.Frag) (M : Frm) (F : Hp) (σ : L2.St) (H : Hp) (ds : List Sl) : Prop where
  st : StOk K M.O F σ H ds
  g : Grow M.O M.F0 M.B F H
/-- the same body, another promise -/
def Frm.wi (M : Frm) (O' : Own) (m : Sm M.O O') : Frm := ⟨O', M.F0, M.B, fun p => by rw [m.w]; exact M.w p⟩
/-- continuations: behind, returned, broken, continued -/
structure Cn where
  nx : Own → List Sl → Prop
  rt : Own → Sl → Prop
  bk : Own → List Sl → Prop := fun _ _ => False
  ct : Own → List Sl → Prop := fun _ _ => False
def RtOk (K : PySem.W.Frag) (M : Frm) (F' H' : Hp) (v : V) : Sl → Prop
  | .d x => Dp K F' v x
  | .m kvs => ∃ p, v = .ref p ∧ M.B p = none ∧ F' p = none ∧ H' p = some (.dK kvs)
  | .l xs => ∃ p vs, v = .ref p ∧ M.B p = none ∧ F' p = none ∧ H' p = some (.lst vs) ∧ DpAll K F' vs xs
  | .v w => v = w
  | .u => True
/-- a state behind, told by N -/
def Bh (K : PySem.W.Frag) (M : Frm) (F : Hp) (N : Own → List Sl → Prop) (k : L2.St → Hp → Prop) : Prop := ∀ σ' H' F' ds' O' (m : Sm M.O O'), Ex F F' → At K (M.wi O' m) F' σ' H' ds' → N O' ds' → k σ' H'
def tW (K : PySem.W.Frag) (M : Frm) (ds : List Sl) (C : Cn) : TS := fun D σ H => ∃ F, At K M F σ H ds ∧ Bh K M F C.nx D.nx ∧
  (∀ v r F' H' O', Sm M.O O' → Grow M.O M.F0 M.B F' H' → O'.J H' → RtOk K M F' H' v r → C.rt O' r → D.rt v H') ∧ Bh K M F C.bk D.bk ∧ Bh K M F C.ct D.ct
abbrev DW (X : Cx) (M : Frm) (ds : List Sl) (sts : List Stmt) (C : Cn) : Prop := PSs X sts (tW X.K M ds C)
abbrev D1 (X : Cx) (M : Frm) (ds : List Sl) (st : Stmt) (C : Cn) : Prop := PS X st (tW X.K M ds C)
/-- then N' -/
def Th (X : Cx) (M : Frm) (rest : List Stmt) (C : Cn) : Own → List Sl → Prop := fun O' ds' => ∃ m : Sm M.O O', DW X (M.wi O' m) ds' rest C

section
variable {X : Cx} {M : Frm} {ds : List Sl} {e a b c : Expr} {es : List Expr} {x y z : PyData} {xs ys : List PyData} {R R' : Rs} {pos p p1 p2 apos : Pos} {C : Cn} {st : Stmt} {sts rest body els : List Stmt} {K : PySem.W.Frag} {F F' H H' : Hp} {σ : L2.St} {i : Nat} {v : V}
theorem Bh.up {N : Own → List Sl → Prop} {k : L2.St → Hp → Prop} (h : Bh K M F N k) (e : Ex F F') : Bh K M F' N k := fun σ' H' F2 ds' O' m e' => h σ' H' F2 ds' O' m (e.trans e')
theorem Bh.imp {N N' : Own → List Sl → Prop} {k : L2.St → Hp → Prop} (h : Bh K M F N k) (i : ∀ O' ds', N' O' ds' → N O' ds') : Bh K M F N' k := fun σ' H' F2 ds' O' m e' a n => h σ' H' F2 ds' O' m e' a (i _ _ n)
theorem Bh.here {N : Own → List Sl → Prop} {k : L2.St → Hp → Prop} (h : Bh K M F N k) (e : Ex F F') (a : At K M F' σ H' ds) (n : N M.O ds) : k σ H' := h σ H' F' ds M.O (Sm.refl _) e a n
theorem Bh.wi {O' : Own} {m : Sm M.O O'} {N : Own → List Sl → Prop} {k : L2.St → Hp → Prop} (h : Bh K M F N k) : Bh K (M.wi O' m) F N k := fun σ' H' F2 ds' O2 m2 e' a n => h σ' H' F2 ds' O2 (m.trans m2) e' a n
theorem tW.wi {O' : Own} {m : Sm M.O O'} {D : Ends} {q1 : Bh K M F C.nx D.nx} (a : At K (M.wi O' m) F' σ H' ds) (e : Ex F F') (q2 : ∀ v r F' H' O', Sm M.O O' → Grow M.O M.F0 M.B F' H' → O'.J H' → RtOk K M F' H' v r → C.rt O' r → D.rt v H')
    (q3 : Bh K M F C.bk D.bk) (q4 : Bh K M F C.ct D.ct) : tW K (M.wi O' m) ds C D σ H' :=
  ⟨F', a, q1.wi.up e, fun v r F2 H2 O2 m2 g j o h => q2 v r F2 H2 O2 (m.trans m2) (Grow.sm m g) j (by cases r <;> exact o) h, q3.wi.up e, q4.wi.up e⟩
theorem At.sm {O' : Own} (h : At K M F σ H ds) (m : Sm M.O O') (j : O'.J H) : At K (M.wi O' m) F σ H ds := ⟨h.st.sm m j, h.g.ms m⟩
theorem At.growH {O' : Own} (h : At K M F σ H ds) (m : Sm M.O O') (g : Grow M.O F H F' H') (j : O'.J H') : At K (M.wi O' m) F' σ H' ds := ⟨h.st.growH m g j, (h.g.trans g).ms m⟩
theorem At.grow (h : At K M F σ H ds) (g : Grow M.O F H F' H') (j : M.O.J H') : At K M F' σ H' ds := ⟨h.st.grow g j, h.g.trans g⟩
theorem At.setD (h : At K M F σ H ds) (d : Dp K F v x) : At K M F (σ.set i (some v)) H (ds.set i (.d x)) := ⟨h.st.setD d, h.g⟩
theorem At.setV (h : At K M F σ H ds) : At K M F (σ.set i (some v)) H (ds.set i (.v v)) := ⟨h.st.setV, h.g⟩
theorem At.setU (h : At K M F σ H ds) : At K M F (σ.set i (some v)) H (ds.set i .u) := ⟨h.st.setU, h.g⟩
/-- a new list is stored -/
theorem At.setL {q : Addr} {vs : List V} (h : At K M F σ H ds) (g : Grow M.O F H F' H') (j : M.O.J H') (h1 : H q = none) (h2 : F' q = none) (h3 : H' q = some (.lst vs)) (h4 : DpAll K F' vs xs) : At K M F' (σ.set i (some (.ref q))) H' (ds.set i (.l xs)) := by
  refine ⟨(h.st.grow g j).setO (s := .l xs) ⟨q, vs, rfl, h2, fun s => M.O.dom h.st.j s h1, h3, h4, (M.w q).mpr (h.g.free h1)⟩ fun k t e1 e2 e3 => ?_, h.g.trans g⟩
  exact (h.st.ownAt e1 e2 e3).1 h1
theorem At.setM {q : Addr} {kvs : List (Key × V)} (h : At K M F σ H ds) (g : Grow M.O F H F' H') (j : M.O.J H') (h1 : H q = none) (h2 : F' q = none) (h3 : H' q = some (.dK kvs)) : At K M F' (σ.set i (some (.ref q))) H' (ds.set i (.m kvs)) := by
  refine ⟨(h.st.grow g j).setO (s := .m kvs) ⟨q, rfl, h2, fun s => M.O.dom h.st.j s h1, h3, (M.w q).mpr (h.g.free h1)⟩ fun k t e1 e2 e3 => ?_, h.g.trans g⟩
  exact (h.st.ownAt e1 e2 e3).1 h1
/-- the object of an owned slot is written -/
theorem At.write {s t : Sl} {q : Addr} {o : HO} (h : At K M F σ H ds) (e : ds[i]? = some s) (os : s.own = true) (hq : σ[i]? = some (some (.ref q))) (ht : SlOk K M.O F (upd H q o) t (some (.ref q))) (tt : t.own = true) : At K M F σ (upd H q o) (ds.set i t) := by
  obtain ⟨h1, h2, h3, h4⟩ := h.st.ownAt e os hq
  have hB : M.B q = none := (M.w q).mp h4
  refine ⟨h.st.write e os hq ht tt, ⟨h.g.f, fun a u sa ha => ?_, fun a u ha => ?_, h.g.n, fun a ha => ?_⟩⟩
  · have hne : a ≠ q := fun z => by rw [z, hB] at ha; cases ha
    rw [upd_ne hne]; exact h.g.h a u sa ha
  · have hne : a ≠ q := fun z => by rw [z, h2] at ha; cases ha
    rw [upd_ne hne]; exact h.g.s a u ha
  · by_cases z : a = q
    · rw [z, upd_same]; exact fun y => nomatch y
    · rw [upd_ne z]; exact h.g.t a ha
theorem At.freeze (h : At K M F σ H ds) (e : ds[i]? = some (.l xs)) : ∃ q vs, σ[i]? = some (some (.ref q)) ∧ Ex F (upd F q (.lst vs)) ∧ Dp K (upd F q (.lst vs)) (.ref q) (.list xs) ∧ At K M (upd F q (.lst vs)) σ H (ds.set i (.d (.list xs))) := by
  obtain ⟨q, vs, e1, f, hp, w, d, st⟩ := h.st.freeze e
  refine ⟨q, vs, e1, Ex.new f, .lst (SqL.of upd_same) d, st, ⟨h.g.f.trans (Ex.new f), h.g.h, st.ex, fun a n1 n2 => ?_, h.g.t⟩⟩
  by_cases z : a = q
  · rw [z]; exact (M.w q).mp w
  · rw [upd_ne z] at n2; exact h.g.n a n1 n2

/-! blocks -/
theorem dw_nil (h : C.nx M.O ds) : DW X M ds [] C := pss_mono pss_nil fun D σ H ⟨F, at_, q, _⟩ => q.here (Ex.refl F) at_ h
theorem dw_seqH {N : Own → List Sl → Prop} (h1 : D1 X M ds st { C with nx := N }) (h2 : ∀ O' ds' (m : Sm M.O O'), N O' ds' → DW X (M.wi O' m) ds' rest C) : DW X M ds (st :: rest) C := by
  have h2' : PSs X rest (fun D σ H => ∃ O' ds' m, N O' ds' ∧ tW X.K (M.wi O' m) ds' C D σ H) := ⟨fun pins s σ H D I ⟨O', ds', m, n, q⟩ => (h2 O' ds' m n).run pins s σ H D I q⟩
  refine pss_mono (pss_cons h1 h2') fun D σ H ⟨F, at_, q1, q2, q3, q4⟩ => ⟨F, at_, fun σ' H' F' ds' O' m e a n => ⟨O', ds', m, n, tW.wi (q1 := q1) a e q2 q3 q4⟩, q2, q3, q4⟩
theorem dw_seq {N : List Sl → Prop} (h1 : D1 X M ds st { C with nx := fun O' ds' => O' = M.O ∧ N ds' }) (h2 : ∀ ds', N ds' → DW X M ds' rest C) : DW X M ds (st :: rest) C :=
  dw_seqH (N := fun O' ds' => O' = M.O ∧ N ds') h1 fun O' ds' m ⟨e, n⟩ => by subst e; exact h2 ds' n
theorem dw_one (h : D1 X M ds st C) : DW X M ds [st] C := pss_one h
theorem d1_imp {C' : Cn} (h : D1 X M ds st C) (h1 : ∀ O' ds', C.nx O' ds' → C'.nx O' ds') (h2 : ∀ O' r, C.rt O' r → C'.rt O' r) (h3 : ∀ O' ds', C.bk O' ds' → C'.bk O' ds') (h4 : ∀ O' ds', C.ct O' ds' → C'.ct O' ds') : D1 X M ds st C' :=
  ps_mono h fun D σ H ⟨F, a, q1, q2, q3, q4⟩ => ⟨F, a, q1.imp h1, fun v r F' H' O' m g j o n => q2 v r F' H' O' m g j o (h2 _ _ n), q3.imp h3, q4.imp h4⟩
theorem dw_imp {C' : Cn} (h : DW X M ds sts C) (h1 : ∀ O' ds', C.nx O' ds' → C'.nx O' ds') (h2 : ∀ O' r, C.rt O' r → C'.rt O' r) (h3 : ∀ O' ds', C.bk O' ds' → C'.bk O' ds' := by intro _ _ z; exact z) (h4 : ∀ O' ds', C.ct O' ds' → C'.ct O' ds' := by intro _ _ z; exact z) : DW X M ds sts C' :=
  pss_mono h fun D σ H ⟨F, a, q1, q2, q3, q4⟩ => ⟨F, a, q1.imp h1, fun v r F' H' O' m g j o n => q2 v r F' H' O' m g j o (h2 _ _ n), q3.imp h3, q4.imp h4⟩
/-- a slot's own list is frozen from here on -/
theorem dw_freeze (i : Nat) (e : ds[i]? = some (.l xs)) (h : DW X M (ds.set i (.d (.list xs))) sts C) : DW X M ds sts C :=
  pss_mono h fun D σ H ⟨F, a, q1, q2, q3, q4⟩ => by
    obtain ⟨q, vs, _, e0, _, a'⟩ := a.freeze e
    exact ⟨_, a', q1.up e0, q2, q3.up e0, q4.up e0⟩
/-- what a slot holds is forgotten -/
theorem At.forget (h : At K M F σ H ds) : At K M F σ H (ds.set i .u) := by
  refine ⟨⟨h.st.ex, h.st.sf, h.st.j, by rw [List.length_set]; exact h.st.len, fun j s o e1 e2 => ?_, fun j k s t p hjk e1 o1 e2 o2 e3 e4 => ?_⟩, h.g⟩
  · by_cases z : i = j
    · subst z
      have hl : i < ds.length := by
        have := (List.getElem?_eq_some_iff.mp e1).1
        rw [List.length_set] at this; exact this
      rw [List.getElem?_set_self hl] at e1
      cases e1; exact True.intro
    · rw [List.getElem?_set_ne z] at e1; exact h.st.sl j s o e1 e2
  · have key : ∀ (j : Nat) (s : Sl), (ds.set i .u)[j]? = some s → s.own = true → ds[j]? = some s := fun j s e o => by
      by_cases z : i = j
      · subst z
        have hl : i < ds.length := by
          have := (List.getElem?_eq_some_iff.mp e).1
          rw [List.length_set] at this; exact this
        rw [List.getElem?_set_self hl] at e
        cases e; cases o
      · rw [List.getElem?_set_ne z] at e; exact e
    exact h.st.sep j k s t p hjk (key j s e1 o1) o1 (key k t e2 o2) o2 e3 e4
theorem dw_forget (i : Nat) (h : DW X M (ds.set i .u) sts C) : DW X M ds sts C :=
  pss_mono h fun D σ H ⟨F, a, q1, q2, q3, q4⟩ => ⟨F, a.forget, q1, q2, q3, q4⟩

/-! name = e -/
section
variable {nm : Str} {pos' : Pos}
theorem d1_set (i : Nat) (hN : X.N.Nodup) (he : DX X M.O ds e x) (h : C.nx M.O (ds.set i (.d x))) (hi : X.N[i]? = some nm := by rfl) (hx : Loc X.env.scope nm := by first | exact .inl rfl | exact .inr rfl) (hs : swapsWith e (some (.Name nm pos')) pos.line X.env = pure false := by rfl) (hf : X.fn nm = true ∨ X.env.scope.names.lookup nm = some .local := by first | exact .inl rfl | exact .inr rfl) :
    D1 X M ds (.Assign [.Name nm pos'] e pos) C :=
  ps_mono (ps_set hN hi hx he hs hf) fun D σ H ⟨F, a, q1, _⟩ => ⟨F, a.st, fun v F' H' g j d => q1.here g.f ((a.grow g j).setD d) h⟩
theorem d1_setP (i : Nat) (hN : X.N.Nodup) {P : PyData → Prop} (he : DP X M.O ds e P) (h : ∀ x, P x → C.nx M.O (ds.set i (.d x))) (hi : X.N[i]? = some nm := by rfl) (hx : Loc X.env.scope nm := by first | exact .inl rfl | exact .inr rfl) (hs : swapsWith e (some (.Name nm pos')) pos.line X.env = pure false := by rfl) (hf : X.fn nm = true ∨ X.env.scope.names.lookup nm = some .local := by first | exact .inl rfl | exact .inr rfl) :
    D1 X M ds (.Assign [.Name nm pos'] e pos) C :=
  ps_mono (ps_set hN hi hx he hs hf) fun D σ H ⟨F, a, q1, _⟩ => ⟨F, a.st, fun v F' H' g j ⟨x, d, p⟩ => q1.here g.f ((a.grow g j).setD d) (h x p)⟩
theorem d1_setO (i : Nat) (hN : X.N.Nodup) (he : DO X M.O ds e xs) (h : C.nx M.O (ds.set i (.l xs))) (hi : X.N[i]? = some nm := by rfl) (hx : Loc X.env.scope nm := by first | exact .inl rfl | exact .inr rfl) (hs : swapsWith e (some (.Name nm pos')) pos.line X.env = pure false := by rfl) (hf : X.fn nm = true ∨ X.env.scope.names.lookup nm = some .local := by first | exact .inl rfl | exact .inr rfl) :
    D1 X M ds (.Assign [.Name nm pos'] e pos) C :=
  ps_mono (ps_set hN hi hx he hs hf) fun D σ H ⟨F, a, q1, _⟩ => ⟨F, a.st, fun v F' H' g j r => by
    obtain ⟨p, vs, rfl, h1, h2, h3, h4⟩ := r
    exact q1.here g.f (a.setL g j h1 h2 h3 h4) h⟩
theorem d1_setM {kvs : List (Key × V)} (i : Nat) (hN : X.N.Nodup) (he : DM X M.O ds e kvs) (h : C.nx M.O (ds.set i (.m kvs))) (hi : X.N[i]? = some nm := by rfl) (hx : Loc X.env.scope nm := by first | exact .inl rfl | exact .inr rfl) (hs : swapsWith e (some (.Name nm pos')) pos.line X.env = pure false := by rfl) (hf : X.fn nm = true ∨ X.env.scope.names.lookup nm = some .local := by first | exact .inl rfl | exact .inr rfl) :
    D1 X M ds (.Assign [.Name nm pos'] e pos) C :=
  ps_mono (ps_set hN hi hx he hs hf) fun D σ H ⟨F, a, q1, _⟩ => ⟨F, a.st, fun v F' H' g j r => by
    obtain ⟨p, rfl, h1, h2, h3⟩ := r
    exact q1.here g.f (a.setM g j h1 h2 h3) h⟩
theorem dw_set (i : Nat) (hN : X.N.Nodup) (he : DX X M.O ds e x) (h : DW X M (ds.set i (.d x)) rest C) (hi : X.N[i]? = some nm := by rfl) (hx : Loc X.env.scope nm := by first | exact .inl rfl | exact .inr rfl) (hs : swapsWith e (some (.Name nm pos')) pos.line X.env = pure false := by rfl) (hf : X.fn nm = true ∨ X.env.scope.names.lookup nm = some .local := by first | exact .inl rfl | exact .inr rfl) :
    DW X M ds (.Assign [.Name nm pos'] e pos :: rest) C := dw_seq (N := fun ds' => ds' = ds.set i (.d x)) (d1_set i hN he ⟨rfl, rfl⟩ hi hx hs hf) fun _ e => e ▸ h
theorem dw_setP (i : Nat) (hN : X.N.Nodup) {P : PyData → Prop} (he : DP X M.O ds e P) (h : ∀ x, P x → DW X M (ds.set i (.d x)) rest C) (hi : X.N[i]? = some nm := by rfl) (hx : Loc X.env.scope nm := by first | exact .inl rfl | exact .inr rfl) (hs : swapsWith e (some (.Name nm pos')) pos.line X.env = pure false := by rfl) (hf : X.fn nm = true ∨ X.env.scope.names.lookup nm = some .local := by first | exact .inl rfl | exact .inr rfl) :
    DW X M ds (.Assign [.Name nm pos'] e pos :: rest) C := dw_seq (N := fun ds' => ∃ x, P x ∧ ds' = ds.set i (.d x)) (d1_setP i hN he (fun x p => ⟨rfl, x, p, rfl⟩) hi hx hs hf) fun _ ⟨x, p, e⟩ => e ▸ h x p
theorem dw_setO (i : Nat) (hN : X.N.Nodup) (he : DO X M.O ds e xs) (h : DW X M (ds.set i (.l xs)) rest C) (hi : X.N[i]? = some nm := by rfl) (hx : Loc X.env.scope nm := by first | exact .inl rfl | exact .inr rfl) (hs : swapsWith e (some (.Name nm pos')) pos.line X.env = pure false := by rfl) (hf : X.fn nm = true ∨ X.env.scope.names.lookup nm = some .local := by first | exact .inl rfl | exact .inr rfl) :
    DW X M ds (.Assign [.Name nm pos'] e pos :: rest) C := dw_seq (N := fun ds' => ds' = ds.set i (.l xs)) (d1_setO i hN he ⟨rfl, rfl⟩ hi hx hs hf) fun _ e => e ▸ h
theorem dw_setM {kvs : List (Key × V)} (i : Nat) (hN : X.N.Nodup) (he : DM X M.O ds e kvs) (h : DW X M (ds.set i (.m kvs)) rest C) (hi : X.N[i]? = some nm := by rfl) (hx : Loc X.env.scope nm := by first | exact .inl rfl | exact .inr rfl) (hs : swapsWith e (some (.Name nm pos')) pos.line X.env = pure false := by rfl) (hf : X.fn nm = true ∨ X.env.scope.names.lookup nm = some .local := by first | exact .inl rfl | exact .inr rfl) :
    DW X M ds (.Assign [.Name nm pos'] e pos :: rest) C := dw_seq (N := fun ds' => ds' = ds.set i (.m kvs)) (d1_setM i hN he ⟨rfl, rfl⟩ hi hx hs hf) fun _ e => e ▸ h
end

/-! if -/
theorem pss_when {t : TS} {k : Prop} (h : k → PSs X sts t) : PSs X sts (fun D σ H => k ∧ t D σ H) := ⟨fun pins s σ H D I ⟨hk, q⟩ => (h hk).run pins s σ H D I q⟩
theorem d1_if {k : Bool} (hc : DT X M.O ds c k) (h1 : k = true → DW X M ds body C) (h2 : k = false → DW X M ds els C) : D1 X M ds (.If c body els pos) C :=
  ps_mono (ps_if hc (pss_when h1) (pss_when h2)) fun D σ H ⟨F, a, q⟩ => ⟨F, a.st, fun F' H' g j => by
    cases k with
    | true => exact iteT ⟨rfl, F', a.grow g j, q.1.up g.f, q.2.1, q.2.2.1.up g.f, q.2.2.2.up g.f⟩
    | false => exact iteF ⟨rfl, F', a.grow g j, q.1.up g.f, q.2.1, q.2.2.1.up g.f, q.2.2.2.up g.f⟩⟩
theorem dw_if {k : Bool} (hc : DT X M.O ds c k) (h1 : k = true → DW X M ds body { C with nx := Th X M rest C }) (h2 : k = false → DW X M ds els { C with nx := Th X M rest C }) : DW X M ds (.If c body els pos :: rest) C :=
  dw_seqH (N := Th X M rest C) (d1_if hc h1 h2) fun O' ds' m ⟨_, h⟩ => h
theorem th_here (h : DW X M ds rest C) : Th X M rest C M.O ds := ⟨Sm.refl _, h⟩
/-- if c: return ..; the rest -/
theorem dw_ifR {k : Bool} (hc : DT X M.O ds c k) (h1 : k = true → DW X M ds body { C with nx := Th X M rest C }) (h2 : k = false → DW X M ds rest C) : DW X M ds (.If c body [] pos :: rest) C :=
  dw_if hc h1 fun e => dw_nil (th_here (h2 e))

/-! return -/
theorem d1_ret (he : DX X M.O ds e x) (h : C.rt M.O (.d x)) : D1 X M ds (.Return (some e) pos) C :=
  ps_mono (ps_ret he) fun D σ H ⟨F, a, _, q, _⟩ => ⟨F, a.st, fun v F' H' g j d => q v (.d x) F' H' M.O (Sm.refl _) (a.g.trans g) j d h⟩
theorem dw_ret (he : DX X M.O ds e x) (h : C.rt M.O (.d x)) : DW X M ds [.Return (some e) pos] C := pss_one (d1_ret he h)
theorem dw_retP {P : PyData → Prop} (he : DP X M.O ds e P) (h : ∀ x, P x → C.rt M.O (.d x)) : DW X M ds [.Return (some e) pos] C :=
  pss_one (ps_mono (ps_ret he) fun D σ H ⟨F, a, _, q, _⟩ => ⟨F, a.st, fun v F' H' g j ⟨x, d, p⟩ => q v (.d x) F' H' M.O (Sm.refl _) (a.g.trans g) j d (h x p)⟩)
/-- return of a list of one's own -/
theorem dw_retL (i : Nat) {nm : Str} (hd : ds[i]? = some (.l xs) := by rfl) (h : C.rt M.O (.d (.list xs))) (hN : X.N[i]? = some nm := by rfl) (hv : Vis X.env.scope nm := by first | exact Or.inl rfl | exact Or.inr (Or.inl rfl) | exact Or.inr (Or.inr rfl))
    (h1 : (nm == ("__debug__" : Str)) = false := by decide) (h2 : (nm == ("__classdict__" : Str)) = false := by decide) : DW X M ds [.Return (some (.Name nm p)) pos] C :=
  pss_one (ps_mono (ps_ret (pe_var hN hv h1 h2)) fun D σ H ⟨F, a, _, q, _⟩ => by
    obtain ⟨o, vs, e1, _, d, a'⟩ := a.freeze hd
    exact ⟨.ref o, e1, q _ (.d (.list xs)) _ H M.O (Sm.refl _) a'.g a'.st.j d h⟩)
theorem dw_retM (i : Nat) {nm : Str} {kvs : List (Key × V)} (hd : ds[i]? = some (.m kvs) := by rfl) (h : C.rt M.O (.m kvs)) (hN : X.N[i]? = some nm := by rfl) (hv : Vis X.env.scope nm := by first | exact Or.inl rfl | exact Or.inr (Or.inl rfl) | exact Or.inr (Or.inr rfl))
    (h1 : (nm == ("__debug__" : Str)) = false := by decide) (h2 : (nm == ("__classdict__" : Str)) = false := by decide) : DW X M ds [.Return (some (.Name nm p)) pos] C :=
  pss_one (ps_mono (ps_ret (pe_var hN hv h1 h2)) fun D σ H ⟨F, a, _, q, _⟩ => by
    obtain ⟨o, e1, f, ns, hp, w⟩ := a.st.dic hd
    exact ⟨.ref o, e1, q _ (.m kvs) F H M.O (Sm.refl _) a.g a.st.j ⟨o, rfl, (M.w o).mp w, f, hp⟩ h⟩)
/-- return of a call that hands back a new dict -/
theorem dw_retDM {kvs : List (Key × V)} (he : DM X M.O ds e kvs) (h : C.rt M.O (.m kvs)) : DW X M ds [.Return (some e) pos] C :=
  pss_one (ps_mono (ps_ret he) fun D σ H ⟨F, a, _, q, _⟩ => ⟨F, a.st, fun v F' H' g j r => by
    obtain ⟨o, rfl, h1, h2, h3⟩ := r
    exact q _ (.m kvs) F' H' M.O (Sm.refl _) (a.g.trans g) j ⟨o, rfl, a.g.free h1, h2, h3⟩ h⟩)

/-! xs.append(e), xs a list of one's own -/
theorem dw_append (i : Nat) {nm : Str} {pc : Pos} (ha : DX X M.O ds e x) (h : DW X M (ds.set i (.l (xs ++ [x]))) rest C) (hz : xs.length < 100000) (hd : ds[i]? = some (.l xs) := by rfl) (hN : X.N[i]? = some nm := by rfl) (hv : Vis X.env.scope nm := by first | exact Or.inl rfl | exact Or.inr (Or.inl rfl) | exact Or.inr (Or.inr rfl))
    (h1 : (nm == ("__debug__" : Str)) = false := by decide) (h2 : (nm == ("__classdict__" : Str)) = false := by decide)
    (hbase : attributeBase (.Name nm p) "append" X.env (eval (.Name nm p) X.env) = eval (.Name nm p) X.env := by rfl)
    (hfew : ((backTo pc (starEach [e] X.env)).all (fun x => !x.1) && (backToKw pc (keywordEach [] X.env)).all (fun x => x.1.isSome)
      && decide (([e] : List Expr).length + ([] : List Keyword).length + (if ([] : List Keyword).isEmpty then 0 else 1) < 30)) = true := by rfl)
    (hline : (apos.endLine == pc.line) = true := by rfl) (hs : starEach [e] X.env = (false, eval e X.env) :: starEach [] X.env := by rfl) (hsw : swapsWith (.Call (.Attribute (.Name nm p) "append" apos) [e] [] pc) none pos.line X.env = pure false := by rfl) :
    DW X M ds (.Expr (.Call (.Attribute (.Name nm p) "append" apos) [e] [] pc) pos :: rest) C :=
  dw_seq (N := fun ds' => ds' = ds.set i (.l (xs ++ [x])))
    (ps_mono (ps_expr (pe_bm PySem.F.plainAttrs_list PySem.F.slot_list_append PySem.F.type_list_append mt_append (pe_var hN hv h1 h2) (pa_cons ha pa_nil hs) hbase hfew hline hs rfl) hsw) fun D σ H ⟨F, a, q, _⟩ => by
      obtain ⟨o, vs, e1, f, ns, hp, d, w⟩ := a.st.lst hd
      refine ⟨.ref o, e1, .inl ⟨rfl, vs, SqL.of hp⟩, F, a.st, fun v F' H' g j dv => ?_⟩
      have a' := a.grow g j
      have hp' := g.h _ _ ns hp
      refine ⟨o, vs, v, rfl, rfl, hp', Evl.sz_lt (by rw [d.len]; exact hz), ?_⟩
      refine q.here g.f (a'.write (s := .l xs) (t := .l (xs ++ [x])) hd rfl e1 ⟨o, vs ++ [v], rfl, ?_, ns, upd_same, (d.up g.f).app (.cons dv .nil), w⟩ rfl) ⟨rfl, rfl⟩
      cases y : F' o with
      | none => rfl
      | some u => have := g.n o f (by rw [y]; exact fun z => nomatch z); rw [hp] at this; cases this) fun _ e => e ▸ h
end
end DS
end
section
set_option Elab.async false
set_option linter.all false
set_option maxRecDepth 100000
set_option maxHeartbeats 1000000
namespace DS
open PySem PySem.Spec PyProof.Rows L2
open Evl (Ex ex_l ex_t ex_rd)

/-! ### targets -/
/-- where data goes: the slots is are written, g tells how -/
def tgD (K : PySem.W.Frag) (O : Own) (is : List Nat) (g : PyData → List Sl → Option (List Sl)) : TG := fun v σ H Q => ∃ F ds x ds', StOk K O F σ H ds ∧ Dp K F v x ∧ g x ds = some ds' ∧
  ∀ σ', StOk K O F σ' H ds' → σ'.length = σ.length → (∀ j, j ∉ is → σ'[j]? = σ[j]?) → Q σ' H
abbrev DTg (X : Cx) (O : Own) (tg : Expr) (is : List Nat) (g : PyData → List Sl → Option (List Sl)) : Prop := PG X tg (tgD X.K O is g)
theorem pg_mono {X : Cx} {tg : Expr} {t t' : TG} (h : PG X tg t) (i : ∀ v σ H Q, t' v σ H Q → t v σ H Q) : PG X tg t' := ⟨fun pins s σ H v u Q I r q => h.run pins s σ H v u Q I r (i v σ H Q q)⟩
def tg1 (i : Nat) : PyData → List Sl → Option (List Sl) := fun x ds => some (ds.set i (.d x))
def tg2 (i j : Nat) : PyData → List Sl → Option (List Sl)
  | .tuple [a, b], ds => some ((ds.set i (.d a)).set j (.d b))
  | _, _ => none
def tg3 (i j k : Nat) : PyData → List Sl → Option (List Sl)
  | .tuple [a, b, c], ds => some (((ds.set i (.d a)).set j (.d b)).set k (.d c))
  | _, _ => none
section
variable {X : Cx} {O : Own} {pos : Pos} {nm n2 n3 : Str}
theorem dtg1 (i : Nat) (hN : X.N.Nodup) (hi : X.N[i]? = some nm := by rfl) (hx : Loc X.env.scope nm := by first | exact .inl rfl | exact .inr rfl) (hf : X.fn nm = true ∨ X.env.scope.names.lookup nm = some .local := by first | exact .inl rfl | exact .inr rfl) : DTg X O (.Name nm pos) [i] (tg1 i) :=
  pg_mono (pg_name hN hi hx hf) fun v σ H Q ⟨F, ds, x, ds', st, d, e, q⟩ => by
    cases e
    exact q _ (st.setD d) (List.length_set ..) fun j hj => List.getElem?_set_ne (fun z => hj (by simp [z]))
theorem dtg2 (i j : Nat) {p1 p2 : Pos} {k : Nat} (hc : X.calm = true) (hN : X.N.Nodup) (h1 : PG X (.Name nm p1) (gName i)) (h2 : PG X (.Name n2 p2) (gName j))
    (hn : (assignEach [.Name nm p1, .Name n2 p2] X.env).length = 2 := by rfl) (hst : (assignEach [.Name nm p1, .Name n2 p2] X.env).findIdx? (·.1) = none := by rfl)
    (ha : (assignEach [.Name nm p1, .Name n2 p2] X.env).map (·.2) = assign (.Name nm p1) X.env :: (assignEach [.Name n2 p2] X.env).map (·.2) := by rfl) (hb : (assignEach [.Name n2 p2] X.env).map (·.2) = assign (.Name n2 p2) X.env :: (assignEach [] X.env).map (·.2) := by rfl) :
    DTg X O (.Tuple [.Name nm p1, .Name n2 p2] k pos) [i, j] (tg2 i j) :=
  pg_mono (pg_tup hc (pgs_cons h1 (pgs_cons h2 pgs_nil hb) ha) hn hst) fun v σ H Q ⟨F, ds, x, ds', st, d, e, q⟩ => by
    match x, d, e with
    | .tuple [a, b], d, e =>
      cases e
      obtain ⟨o, vs, rfl, s1, s2⟩ := d.tup_eq
      obtain ⟨va, r, rfl, da, s3⟩ := s2.cons_of
      obtain ⟨vb, r2, rfl, db, s4⟩ := s3.cons_of
      have := s4.nil_of
      subst this
      refine ⟨o, _, rfl, ex_t st.ex s1, rfl, va, _, rfl, vb, _, rfl, rfl, q _ ((st.setD da).setD db) (by rw [List.length_set, List.length_set]) fun l hl => ?_⟩
      rw [List.getElem?_set_ne (fun z => hl (by simp [z])), List.getElem?_set_ne (fun z => hl (by simp [z]))]
theorem dtg3 (i j l : Nat) {p1 p2 p3 : Pos} {k : Nat} (hc : X.calm = true) (hN : X.N.Nodup) (h1 : PG X (.Name nm p1) (gName i)) (h2 : PG X (.Name n2 p2) (gName j)) (h3 : PG X (.Name n3 p3) (gName l))
    (hn : (assignEach [.Name nm p1, .Name n2 p2, .Name n3 p3] X.env).length = 3 := by rfl) (hst : (assignEach [.Name nm p1, .Name n2 p2, .Name n3 p3] X.env).findIdx? (·.1) = none := by rfl)
    (ha : (assignEach [.Name nm p1, .Name n2 p2, .Name n3 p3] X.env).map (·.2) = assign (.Name nm p1) X.env :: (assignEach [.Name n2 p2, .Name n3 p3] X.env).map (·.2) := by rfl) (hb : (assignEach [.Name n2 p2, .Name n3 p3] X.env).map (·.2) = assign (.Name n2 p2) X.env :: (assignEach [.Name n3 p3] X.env).map (·.2) := by rfl)
    (hcc : (assignEach [.Name n3 p3] X.env).map (·.2) = assign (.Name n3 p3) X.env :: (assignEach [] X.env).map (·.2) := by rfl) :
    DTg X O (.Tuple [.Name nm p1, .Name n2 p2, .Name n3 p3] k pos) [i, j, l] (tg3 i j l) :=
  pg_mono (pg_tup hc (pgs_cons h1 (pgs_cons h2 (pgs_cons h3 pgs_nil hcc) hb) ha) hn hst) fun v σ H Q ⟨F, ds, x, ds', st, d, e, q⟩ => by
    match x, d, e with
    | .tuple [a, b, c], d, e =>
      cases e
      obtain ⟨o, vs, rfl, s1, s2⟩ := d.tup_eq
      obtain ⟨va, r, rfl, da, s3⟩ := s2.cons_of
      obtain ⟨vb, r2, rfl, db, s4⟩ := s3.cons_of
      obtain ⟨vc, r3, rfl, dc, s5⟩ := s4.cons_of
      have := s5.nil_of
      subst this
      refine ⟨o, _, rfl, ex_t st.ex s1, rfl, va, _, rfl, vb, _, rfl, vc, _, rfl, rfl, q _ (((st.setD da).setD db).setD dc) (by rw [List.length_set, List.length_set, List.length_set]) fun m hm => ?_⟩
      rw [List.getElem?_set_ne (fun z => hm (by simp [z])), List.getElem?_set_ne (fun z => hm (by simp [z])), List.getElem?_set_ne (fun z => hm (by simp [z]))]
/-- a name's target, in short -/
theorem gn (i : Nat) (hN : X.N.Nodup) (hi : X.N[i]? = some nm := by rfl) (hx : Loc X.env.scope nm := by first | exact .inl rfl | exact .inr rfl) (hf : X.fn nm = true ∨ X.env.scope.names.lookup nm = some .local := by first | exact .inl rfl | exact .inr rfl) : PG X (.Name nm pos) (gName i) := pg_name hN hi hx hf
end

/-! ### what is walked -/
/-- J walks the data xs while the frozen part stands -/
def WalkF (K : PySem.W.Frag) (J : It) (F : Hp) (xs : List PyData) : Prop := ∀ F1 H1, Ex F F1 → Ex F1 H1 → (∀ i, i < xs.length → J.go i H1) ∧ J.stop xs.length H1 ∧
  ∀ i v H2 x, xs[i]? = some x → J.yld i H1 v H2 → ∃ F2, Grow Own.no F1 H1 F2 H2 ∧ Dp K F2 v x
def tI (K : PySem.W.Frag) (O : Own) (ds : List Sl) (xs : List PyData) : TI := fun σ H R => ∃ F, StOk K O F σ H ds ∧ ∀ J F' H', Grow O F H F' H' → O.J H' → WalkF K J F' xs → R J H'
abbrev DI (X : Cx) (O : Own) (ds : List Sl) (tg iter : Expr) (xs : List PyData) : Prop := PI X tg iter (tI X.K O ds xs)
/-- .. while all but what may change stands -/
def WalkG (K : PySem.W.Frag) (O : Own) (J : It) (F H : Hp) (xs : List PyData) : Prop := ∀ F1 H1, Grow O F H F1 H1 → (∀ i, i < xs.length → J.go i H1) ∧ J.stop xs.length H1 ∧
  ∀ i v H2 x, xs[i]? = some x → J.yld i H1 v H2 → ∃ F2, Grow Own.no F1 H1 F2 H2 ∧ Dp K F2 v x
def tIG (K : PySem.W.Frag) (O : Own) (ds : List Sl) (xs : List PyData) : TI := fun σ H R => ∃ F, StOk K O F σ H ds ∧ ∀ J F' H', Grow O F H F' H' → O.J H' → WalkG K O J F' H' xs → R J H'
abbrev DIG (X : Cx) (O : Own) (ds : List Sl) (tg iter : Expr) (xs : List PyData) : Prop := PI X tg iter (tIG X.K O ds xs)
theorem pi_mono {X : Cx} {tg iter : Expr} {t t' : TI} (h : PI X tg iter t) (i : ∀ σ H R, t' σ H R → t σ H R) : PI X tg iter t' := ⟨fun pins s σ H R I q => h.run pins s σ H R I (i σ H R q)⟩
section
variable {X : Cx} {O : Own} {ds : List Sl} {e a b c tg : Expr} {es : List Expr} {x y z : PyData} {xs ys : List PyData} {pos p p1 p2 : Pos}
theorem dig_of {iter : Expr} (h : DI X O ds tg iter xs) : DIG X O ds tg iter xs :=
  pi_mono h fun σ H R ⟨F, st, q⟩ => ⟨F, st, fun J F' H' g j w => q J F' H' g j fun F1 H1 g1 => w F1 H1 g1.f g1.s⟩
theorem di_list (h : DX X O ds e (.list xs)) : DI X O ds tg e xs :=
  pi_mono (pi_list h) fun σ H R ⟨F, st, q⟩ => ⟨F, st, fun v F1 H1 g1 j1 d => by
    obtain ⟨a, vs, rfl, s1, s2⟩ := Dp.lst_eq d
    refine ⟨a, rfl, ⟨vs, ex_l g1.s s1⟩, q _ F1 H1 g1 j1 fun F2 H2 e1 e2 => ?_⟩
    have s3 := ex_l e2 (ex_l e1 s1)
    refine ⟨fun i hi => ⟨vs, vs[i]'(by rw [s2.len]; exact hi), s3, List.getElem?_eq_getElem _⟩, ⟨vs, s3, by rw [s2.len]; exact Nat.le_refl _⟩, fun i v H3 x hx hy => ?_⟩
    obtain ⟨rfl, hy⟩ := hy
    obtain ⟨u, hu, du⟩ := s2.get' hx
    have := hy vs s3
    rw [hu] at this; cases this
    exact ⟨F2, Grow.refl e2, du.up e1⟩⟩
theorem di_tup (h : DX X O ds e (.tuple xs)) : DI X O ds tg e xs :=
  pi_mono (pi_tup h) fun σ H R ⟨F, st, q⟩ => ⟨F, st, fun v F1 H1 g1 j1 d => by
    obtain ⟨a, vs, rfl, s1, s2⟩ := Dp.tup_eq d
    refine ⟨a, rfl, ⟨vs, ex_t g1.s s1⟩, q _ F1 H1 g1 j1 fun F2 H2 e1 e2 => ?_⟩
    have s3 := ex_t e2 (ex_t e1 s1)
    refine ⟨fun i hi => ⟨vs, vs[i]'(by rw [s2.len]; exact hi), s3, List.getElem?_eq_getElem _⟩, ⟨vs, s3, by rw [s2.len]; exact Nat.le_refl _⟩, fun i v H3 x hx hy => ?_⟩
    obtain ⟨rfl, hy⟩ := hy
    obtain ⟨u, hu, du⟩ := s2.get' hx
    have := hy vs s3
    rw [hu] at this; cases this
    exact ⟨F2, Grow.refl e2, du.up e1⟩⟩
/-- a list of one's own, within a comprehension -/
theorem dig_own (h : DLt X O ds e xs) : DIG X O ds tg e xs :=
  pi_mono (pi_list h) fun σ H R ⟨F, st, q⟩ => ⟨F, st, fun v F1 H1 g1 j1 r => by
    obtain ⟨a, vs, rfl, ns, s1, s2⟩ := r
    refine ⟨a, rfl, ⟨vs, SqL.of s1⟩, q _ F1 H1 g1 j1 fun F2 H2 g2 => ?_⟩
    have s3 : SqL X.K H2 a vs := SqL.of (g2.h a _ ns s1)
    refine ⟨fun i hi => ⟨vs, vs[i]'(by rw [s2.len]; exact hi), s3, List.getElem?_eq_getElem _⟩, ⟨vs, s3, by rw [s2.len]; exact Nat.le_refl _⟩, fun i v H3 x hx hy => ?_⟩
    obtain ⟨rfl, hy⟩ := hy
    obtain ⟨u, hu, du⟩ := s2.get' hx
    have := hy vs s3
    rw [hu] at this; cases this
    exact ⟨F2, Grow.refl g2.s, du.up g2.f⟩⟩
/-- lo, lo + 1, .. -/
def intsD (lo : Int) (n : Nat) : List PyData := (List.range n).map fun (i : Nat) => .int (lo + (i : Int))
theorem intsD_len (lo : Int) (n : Nat) : (intsD lo n).length = n := by unfold intsD; rw [List.length_map, List.length_range]
theorem intsD_get {lo : Int} {n i : Nat} {x : PyData} (h : (intsD lo n)[i]? = some x) : i < n ∧ x = .int (lo + (i : Int)) := by
  unfold intsD at h
  rw [List.getElem?_map] at h
  by_cases hi : i < n
  · rw [List.getElem?_range hi] at h
    cases h
    exact ⟨hi, rfl⟩
  · rw [List.getElem?_eq_none (by rw [List.length_range]; omega)] at h
    cases h
theorem walk_rng {K : PySem.W.Frag} {F : Hp} (lo : Int) (n : Nat) : WalkF K (Itr lo n) F (intsD lo n) := fun F1 H1 e1 e2 => by
  rw [intsD_len]
  refine ⟨fun i hi => hi, Nat.le_refl n, fun i v H2 x hx hy => ?_⟩
  obtain ⟨rfl, rfl⟩ := hy
  obtain ⟨_, rfl⟩ := intsD_get hx
  exact ⟨F1, Grow.refl e2, .int _⟩
theorem di_rng1 {n : Int} (hm : X.mg "range" = none) (h : DX X O ds a (.int n)) (hn : n ≤ 100000) (hl : -100000 ≤ n) (hg : Gl X "range" := by rfl) (hs : starEach [a] X.env = [(false, eval a X.env)] := by rfl) : DI X O ds tg (.Call (.Name "range" p) [a] [] pos) (intsD 0 n.toNat) :=
  pi_mono (pi_range1 hg hm (da_one h hs) hs) fun σ H R ⟨F, st, q⟩ => ⟨F, st, fun vs F1 H1 g1 j1 d => by
    obtain ⟨v, r, rfl, dv, dr⟩ := d.cons_of
    have := dr.nil_of
    subst this
    rw [dv.int_eq]
    exact ⟨n, rfl, by omega, by omega, q _ F1 H1 g1 j1 (walk_rng 0 n.toNat)⟩⟩
theorem di_rng2 {m n : Int} (hm : X.mg "range" = none) (h : DX X O ds a (.int m)) (h' : DX X O ds b (.int n)) (hn : n ≤ 100000 ∧ -100000 ≤ n ∧ m ≤ 100000 ∧ -100000 ≤ m) (hg : Gl X "range" := by rfl) (hs : starEach [a, b] X.env = [(false, eval a X.env), (false, eval b X.env)] := by rfl) (hs2 : starEach [b] X.env = [(false, eval b X.env)] := by rfl) : DI X O ds tg (.Call (.Name "range" p) [a, b] [] pos) (intsD m (n - m).toNat) :=
  pi_mono (pi_range2 hg hm (da_cons h (da_one h' hs2) (by rw [hs, hs2])) hs hs2) fun σ H R ⟨F, st, q⟩ => ⟨F, st, fun vs F1 H1 g1 j1 d => by
    obtain ⟨v, r, rfl, dv, dr⟩ := d.cons_of
    obtain ⟨v', r', rfl, dv', dr'⟩ := dr.cons_of
    have := dr'.nil_of
    subst this
    rw [dv.int_eq, dv'.int_eq]
    exact ⟨m, n, rfl, ⟨by omega, by omega, by omega, by omega⟩, q _ F1 H1 g1 j1 (walk_rng m _)⟩⟩
/-- the sgnsD of a text -/
def sgnsD (z : Str) : List PyData := z.cps.toList.map fun c => .str ⟨#[c]⟩
theorem di_str {z : Str} (h : DX X O ds e (.str z)) : DI X O ds tg e (sgnsD z) :=
  pi_mono (pi_str h) fun σ H R ⟨F, st, q⟩ => ⟨F, st, fun v F1 H1 g1 j1 d => by
    refine ⟨z, Dp.str_eq d, q _ F1 H1 g1 j1 fun F2 H2 e1 e2 => ?_⟩
    have hl : (sgnsD z).length = z.cps.size := by unfold sgnsD; rw [List.length_map, Array.length_toList]
    have w := walk_str (z := z)
    refine ⟨fun i hi => w.goes i H2 (by rw [← hl]; exact hi) trivial, by rw [hl]; exact w.stops H2 trivial, fun i v H3 x hx hy => ?_⟩
    have hi : i < z.cps.size := by rw [← hl]; exact (List.getElem?_eq_some_iff.mp hx).1
    obtain ⟨rfl, c, hc, rfl⟩ := w.yields i H2 v H3 hi trivial hy
    unfold sgnsD at hx
    rw [List.getElem?_map, Array.getElem?_toList, hc] at hx
    cases hx
    exact ⟨F2, Grow.refl e2, .str _⟩⟩

/-! ### for -/
def tIH (K : PySem.W.Frag) (O O' : Own) (ds : List Sl) (xs : List PyData) : TI := fun σ H R => ∃ F, StOk K O F σ H ds ∧ ∀ J F' H', Grow O F H F' H' → O'.J H' → WalkF K J F' xs → R J H'
abbrev DIH (X : Cx) (O O' : Own) (ds : List Sl) (tg iter : Expr) (xs : List PyData) : Prop := PI X tg iter (tIH X.K O O' ds xs)
/-- whatever is walked, of some kind -/
def tIP (K : PySem.W.Frag) (O O' : Own) (ds : List Sl) (P : List PyData → Prop) : TI := fun σ H R => ∃ F, StOk K O F σ H ds ∧ ∀ J F' H' xs, P xs → Grow O F H F' H' → O'.J H' → WalkF K J F' xs → R J H'
abbrev DIP (X : Cx) (O O' : Own) (ds : List Sl) (tg iter : Expr) (P : List PyData → Prop) : Prop := PI X tg iter (tIP X.K O O' ds P)
theorem dip_of {iter : Expr} (h : DI X O ds tg iter xs) : DIP X O O ds tg iter (fun ys => ys = xs) := pi_mono h fun σ H R ⟨F, st, q⟩ => ⟨F, st, fun J F' H' g j w => q J F' H' xs rfl g j w⟩
theorem dw_forH {M : Frm} {O1 : Own} {Pz : List PyData → Prop} {is : List Nat} {g : PyData → List Sl → Option (List Sl)} {iter : Expr} {body rest : List Stmt} {C : Cn} (sm : Sm M.O O1) (hp : PassesOwn (model X.prog X.w) X.A X.env X.xe) (hc : X.calm = true) (hi : DIP X M.O O1 ds tg iter Pz) (hg : ∀ O', Sm M.O O' → DTg X O' tg is g) (I : List PyData → Nat → Own → List Sl → Prop) (h0 : ∀ xs, Pz xs → I xs 0 O1 ds)
    (hs : ∀ xs, Pz xs → ∀ i x O' ds1 (m : Sm M.O O'), xs[i]? = some x → I xs i O' ds1 → ∃ ds2, g x ds1 = some ds2 ∧ DW X (M.wi O' m) ds2 body { nx := I xs (i + 1), ct := I xs (i + 1), bk := Th X M rest C, rt := C.rt }) (hd : ∀ xs, Pz xs → ∀ O' ds1 (m : Sm M.O O'), I xs xs.length O' ds1 → DW X (M.wi O' m) ds1 rest C)
    (ho : ∀ x d1 d2, g x d1 = some d2 → d2.length = d1.length := by intro x d1 d2 h; first | (unfold tg1 at h; cases h; simp) | (unfold tg2 at h; split at h <;> cases h; simp) | (unfold tg3 at h; split at h <;> cases h; simp))
    (hf : ∀ x, foldedSetIterable iter X.env x = pure x := by intro _; rfl) : DW X M ds (.For tg iter body [] pos :: rest) C := by
  refine dw_seqH (N := Th X M rest C) ?_ fun O' ds' m ⟨_, h⟩ => h
  have hb : PSs X body (fun D σ H => ∃ xs i O' ds2 m, DW X (M.wi O' m) ds2 body { nx := I xs (i + 1), ct := I xs (i + 1), bk := Th X M rest C, rt := C.rt } ∧ tW X.K (M.wi O' m) ds2 { nx := I xs (i + 1), ct := I xs (i + 1), bk := Th X M rest C, rt := C.rt } D σ H) :=
    ⟨fun pins s σ H D J ⟨xs, i, O', ds2, m, h, q⟩ => h.run pins s σ H D J q⟩
  have hg' : PG X tg (fun v σ H Q => ∃ O', Sm M.O O' ∧ tgD X.K O' is g v σ H Q) := ⟨fun pins s σ H v u Q I r ⟨O', m, q⟩ => (hg O' m).run pins s σ H v u Q I r q⟩
  refine ps_mono (ps_for hp hc hi hg' hb hf) fun D σ H ⟨F, a, q1, q2, q3, q4⟩ => ⟨F, a.st, fun J F1 H1 xs pz g1 j1 w => ?_⟩
  refine ⟨fun i k σ' H' => k = xs.length - i ∧ i ≤ xs.length ∧ ∃ F' O' ds1, ∃ m : Sm M.O O', At X.K (M.wi O' m) F' σ' H' ds1 ∧ Ex F1 F' ∧ I xs i O' ds1, ⟨xs.length, by simp, Nat.zero_le _, F1, O1, ds, sm, a.growH sm g1 j1, Ex.refl F1, h0 xs pz⟩, ?_⟩
  rintro i k σ' H' ⟨rfl, hi', F', O', ds1, m, a', e1, hI⟩
  obtain ⟨w1, w2, w3⟩ := w F' H' e1 a'.st.ex
  by_cases hlt : i < xs.length
  · refine .inr ⟨w1 i hlt, fun σ2 H2 => ∃ F2 O2 ds2, ∃ m2 : Sm M.O O2, At X.K (M.wi O2 m2) F2 σ2 H2 ds2 ∧ Ex F1 F2 ∧ I xs (i + 1) O2 ds2, fun σ2 H2 ⟨F2, O2, ds2, m2, a2, e2, h2⟩ => ⟨xs.length - (i + 1), by omega, rfl, hlt, F2, O2, ds2, m2, a2, e2, h2⟩, fun v H2 hy => ?_⟩
    obtain ⟨F2, g2, dv⟩ := w3 i v H2 _ (List.getElem?_eq_getElem hlt) hy
    obtain ⟨ds2, hgx, hbody⟩ := hs xs pz i _ O' ds1 m (List.getElem?_eq_getElem hlt) hI
    have a2 := a'.grow g2.lift (g2.j a'.st.j)
    refine ⟨O', m, F2, ds1, _, ds2, a2.st, dv, hgx, fun σ3 st3 hl3 hs3 => ⟨xs, i, O', ds2, m, hbody, F2, ⟨st3, a2.g⟩, ?_, fun v r F4 H4 O4 m4 g4 j4 o4 c4 => q2 v r F4 H4 O4 (m.trans m4) (Grow.sm m g4) j4 (by cases r <;> exact o4) c4, ?_, ?_⟩⟩
    · exact fun σ4 H4 F4 ds4 O4 m4 e4 a4 h4 => ⟨F4, O4, ds4, m.trans m4, a4, (e1.trans g2.f).trans e4, h4⟩
    · exact fun σ4 H4 F4 ds4 O4 m4 e4 a4 h4 => q1 σ4 H4 F4 ds4 O4 (m.trans m4) (((g1.f.trans e1).trans g2.f).trans e4) a4 h4
    · exact fun σ4 H4 F4 ds4 O4 m4 e4 a4 h4 => ⟨F4, O4, ds4, m.trans m4, a4, (e1.trans g2.f).trans e4, h4⟩
  · have e : i = xs.length := by omega
    subst e
    exact .inl ⟨w2, q1 σ' H' F' ds1 O' m (g1.f.trans e1) a' ⟨m, hd xs pz O' ds1 m hI⟩⟩
theorem dw_for {M : Frm} {is : List Nat} {g : PyData → List Sl → Option (List Sl)} {iter : Expr} {body rest : List Stmt} {C : Cn} (hp : PassesOwn (model X.prog X.w) X.A X.env X.xe) (hc : X.calm = true) (hi : DI X M.O ds tg iter xs) (hg : ∀ O, DTg X O tg is g) (I : Nat → List Sl → Prop) (h0 : I 0 ds)
    (hs : ∀ i x ds1, xs[i]? = some x → I i ds1 → ∃ ds2, g x ds1 = some ds2 ∧ DW X M ds2 body { nx := fun O' ds' => O' = M.O ∧ I (i + 1) ds', ct := fun O' ds' => O' = M.O ∧ I (i + 1) ds', bk := Th X M rest C, rt := C.rt }) (hd : ∀ ds1, I xs.length ds1 → DW X M ds1 rest C)
    (ho : ∀ x d1 d2, g x d1 = some d2 → d2.length = d1.length := by intro x d1 d2 h; first | (unfold tg1 at h; cases h; simp) | (unfold tg2 at h; split at h <;> cases h; simp) | (unfold tg3 at h; split at h <;> cases h; simp))
    (hf : ∀ x, foldedSetIterable iter X.env x = pure x := by intro _; rfl) : DW X M ds (.For tg iter body [] pos :: rest) C :=
  dw_forH (O1 := M.O) (Pz := fun ys => ys = xs) (Sm.refl _) hp hc (dip_of hi) (fun O' _ => hg O') (fun _ i O' ds1 => O' = M.O ∧ I i ds1) (fun _ _ => ⟨rfl, h0⟩)
    (fun ys e i x O' ds1 m hx h => by
      obtain ⟨rfl, h⟩ := h
      subst e
      exact hs i x ds1 hx h) (fun ys e O' ds1 m h => by
      obtain ⟨rfl, h⟩ := h
      subst e
      exact hd ds1 h) ho hf
end
end DS
end
section
set_option Elab.async false
set_option linter.all false
set_option maxRecDepth 100000
set_option maxHeartbeats 1000000
namespace DS
open PySem PySem.Spec PyProof.Rows L2
open Evl (Ex ex_l ex_t ex_rd)

/-! ### a block's own slots -/
def wipeD (ds : List Sl) : List Nat → List Sl
  | [] => ds
  | v :: vs => (wipeD ds vs).set v .u
theorem st_none {K : PySem.W.Frag} {O : Own} {F H : Hp} {σ : L2.St} {ds : List Sl} {i : Nat} (h : StOk K O F σ H ds) : StOk K O F (σ.set i none) H (ds.set i .u) := by
  refine ⟨h.ex, h.sf, h.j, by rw [List.length_set, List.length_set, h.len], fun j s o e1 e2 => ?_, fun j k s t p hjk e1 o1 e2 o2 e3 e4 => ?_⟩
  · by_cases z : i = j
    · subst z
      have hl : i < ds.length := by
        have := (List.getElem?_eq_some_iff.mp e1).1
        rw [List.length_set] at this; exact this
      rw [List.getElem?_set_self hl] at e1
      cases e1; exact True.intro
    · rw [List.getElem?_set_ne z] at e1 e2; exact h.sl j s o e1 e2
  · have key : ∀ (j : Nat) (s : Sl), (ds.set i .u)[j]? = some s → s.own = true → i ≠ j ∧ ds[j]? = some s := fun j s e o => by
      by_cases z : i = j
      · subst z
        have hl : i < ds.length := by
          have := (List.getElem?_eq_some_iff.mp e).1
          rw [List.length_set] at this; exact this
        rw [List.getElem?_set_self hl] at e
        cases e; cases o
      · rw [List.getElem?_set_ne z] at e; exact ⟨z, e⟩
    obtain ⟨n1, f1⟩ := key j s e1 o1
    obtain ⟨n2, f2⟩ := key k t e2 o2
    rw [List.getElem?_set_ne n1] at e3
    rw [List.getElem?_set_ne n2] at e4
    exact h.sep j k s t p hjk f1 o1 f2 o2 e3 e4
theorem st_wipe {K : PySem.W.Frag} {O : Own} {F H : Hp} {σ : L2.St} {ds : List Sl} (h : StOk K O F σ H ds) : ∀ vs : List Nat, StOk K O F (wipe σ vs) H (wipeD ds vs)
  | [] => h
  | _ :: vs => st_none (st_wipe h vs)
theorem wipe_get (σ : L2.St) : ∀ (vs : List Nat) (j : Nat), (wipe σ vs)[j]? = if j ∈ vs then (if j < σ.length then some none else none) else σ[j]?
  | [], j => by simp [wipe]
  | v :: vs, j => by
    have ih := wipe_get σ vs j
    show ((wipe σ vs).set v none)[j]? = _
    by_cases z : v = j
    · subst z
      rw [if_pos (show v ∈ v :: vs from List.mem_cons_self)]
      by_cases hl : v < σ.length
      · rw [List.getElem?_set_self (by rw [wipe_length]; exact hl), if_pos hl]
      · rw [List.getElem?_eq_none (by rw [List.length_set, wipe_length]; omega), if_neg hl]
    · rw [List.getElem?_set_ne z, ih]
      by_cases hm : j ∈ vs
      · rw [if_pos hm, if_pos (show j ∈ v :: vs from List.mem_cons_of_mem _ hm)]
      · rw [if_neg hm, if_neg (show j ∉ v :: vs from fun y => (List.mem_cons.mp y).elim (fun e => z e.symm) hm)]
theorem wipe_same {σ σ' : L2.St} {vs : List Nat} (hl : σ'.length = σ.length) (h : ∀ j, j ∉ vs → σ'[j]? = σ[j]?) : wipe σ' vs = wipe σ vs := by
  apply List.ext_getElem?
  intro j
  rw [wipe_get, wipe_get, hl]
  by_cases z : j ∈ vs
  · rw [if_pos z, if_pos z]
  · rw [if_neg z, if_neg z, h j z]
theorem wipe_wipe {σ : L2.St} {vs : List Nat} : wipe (wipe σ vs) vs = wipe σ vs := wipe_same (wipe_length _ _) fun j hj => by rw [wipe_get, if_neg hj]

/-- a block's own slots -/
abbrev slotsOf (own : List (Str × Nat)) : List Nat := own.map (·.2)
/-- some list of one's own -/
def rOs (K : PySem.W.Frag) (P : List PyData → Prop) : Rs := fun H F' H' v => ∃ ys, P ys ∧ rO K ys H F' H' v
abbrev DOs (X : Cx) (O : Own) (ds : List Sl) (e : Expr) (P : List PyData → Prop) : Prop := DG X O ds e (rOs X.K P)
abbrev Cx.bl (X : Cx) (s : Shared) (H : Hp) (scope : Scope) (C : Addr) (cl : List (Str × Addr)) (fp : List Addr) : Cx := X.blk s H scope (compEnvC scope cl C X.env) fp
theorem take_snoc {α : Type} {l : List α} {i : Nat} {x : α} (h : l[i]? = some x) : l.take (i + 1) = l.take i ++ [x] := by
  rw [List.take_add_one, h] <;> rfl

section
variable {X : Cx} {O : Own} {ds : List Sl} {tg iter elt : Expr} {ifs : List Expr} {scope : Scope} {own : List (Str × Nat)} {xs : List PyData} {pos : Pos} {g : PyData → List Sl → Option (List Sl)}
/-- whatever is walked, of some kind, while all but what may change stands -/
def tIGP (K : PySem.W.Frag) (O O' : Own) (ds : List Sl) (P : List PyData → Prop) : TI := fun σ H R => ∃ F, StOk K O F σ H ds ∧ ∀ J F' H' xs, P xs → Grow O F H F' H' → O'.J H' → WalkG K O J F' H' xs → R J H'
abbrev DIGP (X : Cx) (O O' : Own) (ds : List Sl) (tg iter : Expr) (P : List PyData → Prop) : Prop := PI X tg iter (tIGP X.K O O' ds P)
theorem digp_of {iter : Expr} {P : List PyData → Prop} {O' : Own} (h : DIP X O O' ds tg iter P) : DIGP X O O' ds tg iter P :=
  pi_mono h fun σ H R ⟨F, st, q⟩ => ⟨F, st, fun J F' H' xs p g j w => q J F' H' xs p g j fun F1 H1 g1 => w F1 H1 g1.f g1.s⟩
theorem digp_ofG {iter : Expr} (h : DIG X O ds tg iter xs) : DIGP X O O ds tg iter (fun ys => ys = xs) :=
  pi_mono h fun σ H R ⟨F, st, q⟩ => ⟨F, st, fun J F' H' g j w => q J F' H' xs rfl g j w⟩
/-- the reading of a comprehension -/
theorem lc_readH {σ : L2.St} {H : Hp} {Q : VK} {F : Hp} {tt : TT} {te : TE} {vs : List Nat} {O1 : Own} (Pz : List PyData → Prop) (Ow : List PyData → Nat → Own) (bt : PyData → Bool) (R : PyData → PyData → Prop)
    (sm : ∀ xs i, Sm O (Ow xs i)) (m1 : ∀ xs H, Pz xs → O1.J H → (Ow xs 0).J H) (mn : ∀ xs i H, Pz xs → (Ow xs i).J H → (Ow xs (i + 1)).J H)
    (st : StOk X.K O F σ H ds) (hz : ∀ xs, Pz xs → xs.length ≤ 100000) (hgo : ∀ xs x, Pz xs → x ∈ xs → ∃ ds1, g x (wipeD ds vs) = some ds1)
    (htt : ∀ xs i x ds1 σ' H' (Q' : Bool → Hp → Prop), Pz xs → xs[i]? = some x → g x (wipeD ds vs) = some ds1 → tT X.K (Ow xs i) ds1 (bt x) σ' H' Q' → tt σ' H' Q')
    (hte : ∀ xs i x ds1 σ' H' (Q' : VK), Pz xs → xs[i]? = some x → bt x = true → g x (wipeD ds vs) = some ds1 → (∃ F, StOk X.K (Ow xs i) F σ' H' ds1 ∧ ∀ v F' H2, Grow (Ow xs i) F H' F' H2 → (Ow xs (i + 1)).J H2 → rP X.K (R x) H' F' H2 v → Q' v H2) → te σ' H' Q')
    (q : ∀ v F' H' xs, Pz xs → Grow O F H F' H' → (Ow xs xs.length).J H' → rOs X.K (fun ys => Paired R (xs.filter bt) ys) H F' H' v → Q v H')
    {gt : TG} (hgt : ∀ xs i v σ' H' Q', Pz xs → tgD X.K (Ow xs i) vs g v σ' H' Q' → gt v σ' H' Q') :
    (tIGP X.K O O1 ds Pz σ H fun J H1 => ∀ D, H1 D = none → ∃ W : Nat → Nat → Hp → Prop, (∃ m, W 0 m (upd H1 D (.lst []))) ∧ ∀ i m H, W i m H →
      (J.stop i H ∧ Q (.ref D) H) ∨ (J.go i H ∧ ∃ Nx : Hp → Prop, (∀ H', Nx H' → ∃ m', m' < m ∧ W (i + 1) m' H') ∧ ∀ x H', J.yld i H x H' → gt x (wipe σ vs) H' fun σ2 H2 => wipe σ2 vs = wipe σ vs ∧ tt σ2 H2 fun b H3 =>
        if b = true then te σ2 H3 fun y H4 => ∃ acc, H4 D = some (.lst acc) ∧ acc.length < sizeLine ∧ Nx (upd H4 D (.lst (acc ++ [y]))) else Nx H3)) := by
  refine ⟨F, st, fun J F1 H1 xs pz g1 j1 w D hD => ?_⟩
  have st1 : StOk X.K (Ow xs 0) F1 σ H1 ds := st.growH (sm xs 0) g1 (m1 xs H1 pz j1)
  have nS : ¬ O.S D := fun s => (Ow xs 0).dom st1.j (by rw [(sm xs 0).s]; exact s) hD
  have hFD : F1 D = none := by
    cases e : F1 D with
    | none => rfl
    | some u => rw [g1.s D u e] at hD; cases hD
  let Pv : Nat → Hp → Prop := fun i H' => ∃ F' acc ys, Grow O F1 H1 F' H' ∧ (Ow xs i).J H' ∧ F' D = none ∧ H' D = some (.lst acc) ∧ DpAll X.K F' acc ys ∧ Paired R ((xs.take i).filter bt) ys
  have wr : ∀ {i : Nat} {F' H' : Hp} {acc acc' : List V}, Grow O F1 H1 F' H' → (Ow xs i).J H' → F' D = none → H' D = some (.lst acc) → Grow O F1 H1 F' (upd H' D (.lst acc')) ∧ (Ow xs i).J (upd H' D (.lst acc')) := fun {i F' H' acc acc'} g j hf hn =>
    ⟨⟨g.f, fun a u sa ha => by
        have hne : a ≠ D := fun z => by rw [z, hD] at ha; cases ha
        rw [upd_ne hne]; exact g.h a u sa ha, fun a u ha => by
        have hne : a ≠ D := fun z => by rw [z, hf] at ha; cases ha
        rw [upd_ne hne]; exact g.s a u ha, g.n, fun a ha => by
        by_cases z : a = D
        · rw [z, upd_same]; exact fun y => nomatch y
        · rw [upd_ne z]; exact g.t a ha⟩,
     (Ow xs i).stay j fun a u sa ha => by
        have hne : a ≠ D := fun z => sa.elim (fun sa => nS (z ▸ ((sm xs i).s ▸ sa))) fun ⟨φ, e⟩ => by rw [z, hn] at ha; cases ha; cases e
        rw [upd_ne hne]; exact ha⟩
  refine ⟨fun i m H' => m = xs.length - i ∧ i ≤ xs.length ∧ Pv i H', ⟨xs.length, by simp, Nat.zero_le _, F1, [], [], Grow.own g1.s hD, own_new st1.j hD, hFD, upd_same, .nil, ?_⟩, ?_⟩
  · rw [List.take_zero]; exact .nil
  rintro i m H' ⟨rfl, hi, F', acc, ys, g', j', hf, hacc, hys, hp⟩
  obtain ⟨w1, w2, w3⟩ := w F' H' g'
  by_cases hlt : i < xs.length
  · refine .inr ⟨w1 i hlt, Pv (i + 1), fun H2 p2 => ⟨xs.length - (i + 1), by omega, rfl, hlt, p2⟩, fun v H2 hy => ?_⟩
    have hx : xs[i]? = some xs[i] := List.getElem?_eq_getElem hlt
    have hm : xs[i] ∈ xs := List.getElem_mem hlt
    obtain ⟨F2, g2, dv⟩ := w3 i v H2 _ hx hy
    obtain ⟨ds1, hg1⟩ := hgo xs _ pz hm
    have j2 := g2.j j'
    have gA := g'.trans (g2.lift (O := O))
    have stA : StOk X.K (Ow xs i) F2 (wipe σ vs) H2 (wipeD ds vs) := st_wipe (st.growH (sm xs i) (g1.trans gA) j2) vs
    refine hgt xs i _ _ _ _ pz ⟨F2, wipeD ds vs, _, ds1, stA, dv, hg1, fun σ3 st3 hl3 hs3 => ⟨?_, htt xs i _ ds1 _ _ _ pz hx hg1 ⟨F2, st3, fun F3 H3 g3 j3 => ?_⟩⟩⟩
    · rw [wipe_same hl3 hs3, wipe_wipe]
    · have g3' : Grow O F2 H2 F3 H3 := Grow.sm (sm xs i) g3
      have gB := gA.trans g3'
      have eD3 : H3 D = some (.lst acc) := g3'.h _ _ nS (g2.h _ _ (fun z => z) hacc)
      have nF : ∀ {Fa Ha Fb Hb : Hp}, Grow O Fa Ha Fb Hb → Fa D = none → Ha D ≠ none → Fb D = none := fun {Fa Ha Fb Hb} g h1 h2 => by
        cases e : Fb D with
        | none => rfl
        | some u => exact absurd (g.n D h1 (by rw [e]; exact fun z => nomatch z)) h2
      have nn : ∀ {o : HO} {Ha : Hp}, Ha D = some o → Ha D ≠ none := fun h z => by rw [h] at z; cases z
      have hf3 : F3 D = none := nF g3' (nF g2.lift hf (nn hacc)) (nn (g2.h _ _ (fun z => z) hacc))
      cases hb : bt xs[i] with
      | true =>
        refine iteT (hte xs i _ ds1 _ _ _ pz hx hb hg1 ⟨F3, st3.grow g3 j3, fun y F4 H4 g4 j4 ⟨z, dz, rz⟩ => ?_⟩)
        have g4' : Grow O F3 H3 F4 H4 := Grow.sm (sm xs i) g4
        have eD4 : H4 D = some (.lst acc) := g4'.h _ _ nS eD3
        have hf4 := nF g4' hf3 (nn eD3)
        have hlen : acc.length ≤ i := by
          rw [hys.len, ← Paired.length hp]
          exact Nat.le_trans (List.length_filter_le _ _) (by rw [List.length_take]; exact Nat.min_le_left _ _)
        have hzz := hz xs pz
        obtain ⟨g5, j5⟩ := wr (acc' := acc ++ [y]) (gB.trans g4') j4 hf4 eD4
        refine ⟨acc, eD4, Evl.sz_lt (by omega), F4, acc ++ [y], ys ++ [z], g5, j5, hf4, upd_same, (hys.up ((g2.f.trans g3.f).trans g4.f)).app (.cons dz .nil), ?_⟩
        rw [take_snoc hx, List.filter_append, List.filter_cons, if_pos hb, List.filter_nil]
        exact hp.snoc rz
      | false =>
        refine iteF ⟨F3, acc, ys, gB, mn xs i H3 pz j3, hf3, eD3, hys.up (g2.f.trans g3.f), ?_⟩
        rw [take_snoc hx, List.filter_append, List.filter_cons, if_neg (by rw [hb]; exact Bool.false_ne_true), List.filter_nil, List.append_nil]
        exact hp
  · have e : i = xs.length := by omega
    subst e
    rw [List.take_length] at hp
    exact .inl ⟨w2, q _ F' H' xs pz (g1.trans g') j' ⟨ys, hp, D, acc, rfl, g1.free hD, hf, hacc, hys⟩⟩
/-- of one list, nothing changed -/
theorem lc_read {σ : L2.St} {H : Hp} {Q : VK} {F : Hp} {wi : TI} {tt : TT} {te : TE} {vs : List Nat} (bt : PyData → Bool) (R : PyData → PyData → Prop)
    (st : StOk X.K O F σ H ds) (hz : xs.length ≤ 100000) (hgo : ∀ x, x ∈ xs → ∃ ds1, g x (wipeD ds vs) = some ds1)
    (htt : ∀ x ds1 σ' H' (Q' : Bool → Hp → Prop), x ∈ xs → g x (wipeD ds vs) = some ds1 → tT X.K O ds1 (bt x) σ' H' Q' → tt σ' H' Q')
    (hte : ∀ x ds1 σ' H' (Q' : VK), x ∈ xs → bt x = true → g x (wipeD ds vs) = some ds1 → tG X.K O ds1 (rP X.K (R x)) σ' H' Q' → te σ' H' Q')
    (q : ∀ v F' H', Grow O F H F' H' → O.J H' → rOs X.K (fun ys => Paired R (xs.filter bt) ys) H F' H' v → Q v H') :
    (tIG X.K O ds xs σ H fun J H1 => ∀ D, H1 D = none → ∃ W : Nat → Nat → Hp → Prop, (∃ m, W 0 m (upd H1 D (.lst []))) ∧ ∀ i m H, W i m H →
      (J.stop i H ∧ Q (.ref D) H) ∨ (J.go i H ∧ ∃ Nx : Hp → Prop, (∀ H', Nx H' → ∃ m', m' < m ∧ W (i + 1) m' H') ∧ ∀ x H', J.yld i H x H' → tgD X.K O vs g x (wipe σ vs) H' fun σ2 H2 => wipe σ2 vs = wipe σ vs ∧ tt σ2 H2 fun b H3 =>
        if b = true then te σ2 H3 fun y H4 => ∃ acc, H4 D = some (.lst acc) ∧ acc.length < sizeLine ∧ Nx (upd H4 D (.lst (acc ++ [y]))) else Nx H3)) := by
  obtain ⟨F', st', k⟩ := lc_readH (X := X) (O := O) (ds := ds) (g := g) (σ := σ) (H := H) (Q := Q) (F := F) (tt := tt) (te := te) (vs := vs) (O1 := O) (fun ys => ys = xs) (fun _ _ => O) bt R (fun _ _ => Sm.refl O) (fun _ _ _ j => j) (fun _ _ _ _ j => j) st (fun ys e => e ▸ hz) (fun ys x e m => hgo x (e ▸ m))
    (fun ys i x ds1 σ' H' Q' e m h t => htt x ds1 σ' H' Q' (by subst e; exact List.mem_of_getElem? m) h t) (fun ys i x ds1 σ' H' Q' e m b h t => hte x ds1 σ' H' Q' (by subst e; exact List.mem_of_getElem? m) b h t)
    (fun v F' H' ys e g j r => q v F' H' g j (by subst e; exact r)) (gt := tgD X.K O vs g) (fun _ _ _ _ _ _ _ h => h)
  exact ⟨F', st', fun J F1 H1 g1 j1 w => k J F1 H1 xs rfl g1 j1 w⟩

/-- a comprehension's test, its element, whatever the turn -/
def ttL (K : PySem.W.Frag) (O : Own) (ds : List Sl) (vs : List Nat) (g : PyData → List Sl → Option (List Sl)) (xs : List PyData) (bt : PyData → Bool) : TT := fun σ H Q => ∃ x ds1, x ∈ xs ∧ g x (wipeD ds vs) = some ds1 ∧ tT K O ds1 (bt x) σ H Q
def teL (K : PySem.W.Frag) (O : Own) (ds : List Sl) (vs : List Nat) (g : PyData → List Sl → Option (List Sl)) (xs : List PyData) (bt : PyData → Bool) (R : PyData → PyData → Prop) : TE := fun σ H Q => ∃ x ds1, x ∈ xs ∧ bt x = true ∧ g x (wipeD ds vs) = some ds1 ∧ tG K O ds1 (rP K (R x)) σ H Q
/-- tests of a comprehension by data -/
theorem dg_lcP (bt : PyData → Bool) (R : PyData → PyData → Prop) (hc : X.calm = true) (hN : X.N.Nodup) (hi : DIG X O ds tg iter xs) (ok : BlkOk X.N X.env.scope scope own) (hz : xs.length ≤ 100000)
    (hg : ∀ (s : Shared) (H : Hp) (C : Addr) (cl : List (Str × Addr)) (fp : List Addr), DTg (Cx.bl X s H scope C cl fp) O tg (slotsOf own) g)
    (hgo : ∀ x, x ∈ xs → ∃ ds1, g x (wipeD ds (slotsOf own)) = some ds1)
    (ht : ∀ (s : Shared) (H : Hp) (C : Addr) (cl : List (Str × Addr)) (fp : List Addr) x ds1, x ∈ xs → g x (wipeD ds (slotsOf own)) = some ds1 → PTs (Cx.bl X s H scope C cl fp) ifs (tT X.K O ds1 (bt x)))
    (he : ∀ (s : Shared) (H : Hp) (C : Addr) (cl : List (Str × Addr)) (fp : List Addr) x ds1, x ∈ xs → bt x = true → g x (wipeD ds (slotsOf own)) = some ds1 → DP (Cx.bl X s H scope C cl fp) O ds1 elt (R x))
    (hs : ∀ x, foldedSetIterable iter X.env x = pure x := by intro _; rfl) : DOs X O ds (.ListComp elt [⟨tg, iter, ifs, 0⟩] scope pos) (fun ys => Paired R (xs.filter bt) ys) :=
  pe_mono (pe_lc (own := own) (g := tgD X.K O (slotsOf own) g) (tt := ttL X.K O ds (slotsOf own) g xs bt) (te := teL X.K O ds (slotsOf own) g xs bt R)
    hc hN hi ok hg (fun s H C cl fp => ⟨fun pins s' σ H' Q I ⟨x, ds1, m, e, q⟩ => (ht s H C cl fp x ds1 m e).run pins s' σ H' Q I q⟩) (fun s H C cl fp => ⟨fun pins s' σ H' Q I ⟨x, ds1, m, b, e, q⟩ => (he s H C cl fp x ds1 m b e).run pins s' σ H' Q I q⟩) hs)
    fun σ H Q ⟨F, st, q⟩ => lc_read (g := g) (vs := slotsOf own) (wi := tIG X.K O ds xs) (tt := ttL X.K O ds (slotsOf own) g xs bt) (te := teL X.K O ds (slotsOf own) g xs bt R) bt R st hz hgo (fun x ds1 σ' H' Q' m e h => ⟨x, ds1, m, e, h⟩) (fun x ds1 σ' H' Q' m b e h => ⟨x, ds1, m, b, e, h⟩) q
/-- name = [..] -/
theorem dw_setLcP {M : Frm} {rest : List Stmt} {C : Cn} {i : Nat} {y : Str} {py spos : Pos} (bt : PyData → Bool) (R : PyData → PyData → Prop) (hc : X.calm = true) (hN : X.N.Nodup) (hi : DIG X M.O ds tg iter xs) (ok : BlkOk X.N X.env.scope scope own) (hz : xs.length ≤ 100000)
    (hg : ∀ (s : Shared) (H : Hp) (C : Addr) (cl : List (Str × Addr)) (fp : List Addr), DTg (Cx.bl X s H scope C cl fp) M.O tg (slotsOf own) g)
    (hgo : ∀ x, x ∈ xs → ∃ ds1, g x (wipeD ds (slotsOf own)) = some ds1)
    (ht : ∀ (s : Shared) (H : Hp) (C : Addr) (cl : List (Str × Addr)) (fp : List Addr) x ds1, x ∈ xs → g x (wipeD ds (slotsOf own)) = some ds1 → PTs (Cx.bl X s H scope C cl fp) ifs (tT X.K M.O ds1 (bt x)))
    (he : ∀ (s : Shared) (H : Hp) (C : Addr) (cl : List (Str × Addr)) (fp : List Addr) x ds1, x ∈ xs → bt x = true → g x (wipeD ds (slotsOf own)) = some ds1 → DP (Cx.bl X s H scope C cl fp) M.O ds1 elt (R x))
    (h : ∀ ys, Paired R (xs.filter bt) ys → DW X M (ds.set i (.l ys)) rest C) (hy : X.N[i]? = some y := by rfl) (hyl : X.env.scope.names.lookup y = some .local := by rfl)
    (hsw : swapsWith (.ListComp elt [⟨tg, iter, ifs, 0⟩] scope pos) (some (.Name y py)) spos.line X.env = pure true := by exact sw_true rfl rfl rfl (by decide +kernel))
    (hs : ∀ x, foldedSetIterable iter X.env x = pure x := by intro _; rfl) : DW X M ds (.Assign [.Name y py] (.ListComp elt [⟨tg, iter, ifs, 0⟩] scope pos) spos :: rest) C := by
  refine dw_seq (N := fun ds' => ∃ ys, Paired R (xs.filter bt) ys ∧ ds' = ds.set i (.l ys)) ?_ fun _ ⟨ys, p, e⟩ => e ▸ h ys p
  refine ps_mono (ps_setLc (own := own) (g := tgD X.K M.O (slotsOf own) g) (tt := ttL X.K M.O ds (slotsOf own) g xs bt) (te := teL X.K M.O ds (slotsOf own) g xs bt R)
    hc hN hy hyl hsw hi ok hg (fun s H C cl fp => ⟨fun pins s' σ H' Q I ⟨x, ds1, m, e, q⟩ => (ht s H C cl fp x ds1 m e).run pins s' σ H' Q I q⟩) (fun s H C cl fp => ⟨fun pins s' σ H' Q I ⟨x, ds1, m, b, e, q⟩ => (he s H C cl fp x ds1 m b e).run pins s' σ H' Q I q⟩) hs)
    fun D σ H ⟨F, a, q1, _⟩ => lc_read (g := g) (vs := slotsOf own) (wi := tIG X.K M.O ds xs) (tt := ttL X.K M.O ds (slotsOf own) g xs bt) (te := teL X.K M.O ds (slotsOf own) g xs bt R) (Q := fun v H' => gName i v σ H' D.nx) bt R a.st hz hgo (fun x ds1 σ' H' Q' m e h => ⟨x, ds1, m, e, h⟩) (fun x ds1 σ' H' Q' m b e h => ⟨x, ds1, m, b, e, h⟩) fun v F' H' g' j' ⟨ys, p, o, vs, e0, h1, h2, h3, h4⟩ => by
      subst e0
      exact q1.here g'.f (a.setL g' j' h1 h2 h3 h4) ⟨rfl, ys, p, rfl⟩
theorem paired_map {f : PyData → PyData} : ∀ {l ys : List PyData}, Paired (fun x y => y = f x) l ys → ys = l.map f
  | _, _, .nil => rfl
  | _, _, .cons h t => by rw [h, paired_map t] <;> rfl
/-- [f x for x in xs if b x], all known -/
theorem do_lc (bt : PyData → Bool) (f : PyData → PyData) (hc : X.calm = true) (hN : X.N.Nodup) (hi : DIG X O ds tg iter xs) (ok : BlkOk X.N X.env.scope scope own) (hz : xs.length ≤ 100000)
    (hg : ∀ (s : Shared) (H : Hp) (C : Addr) (cl : List (Str × Addr)) (fp : List Addr), DTg (Cx.bl X s H scope C cl fp) O tg (slotsOf own) g)
    (hgo : ∀ x, x ∈ xs → ∃ ds1, g x (wipeD ds (slotsOf own)) = some ds1)
    (ht : ∀ (s : Shared) (H : Hp) (C : Addr) (cl : List (Str × Addr)) (fp : List Addr) x ds1, x ∈ xs → g x (wipeD ds (slotsOf own)) = some ds1 → PTs (Cx.bl X s H scope C cl fp) ifs (tT X.K O ds1 (bt x)))
    (he : ∀ (s : Shared) (H : Hp) (C : Addr) (cl : List (Str × Addr)) (fp : List Addr) x ds1, x ∈ xs → bt x = true → g x (wipeD ds (slotsOf own)) = some ds1 → DX (Cx.bl X s H scope C cl fp) O ds1 elt (f x))
    (hs : ∀ x, foldedSetIterable iter X.env x = pure x := by intro _; rfl) : DO X O ds (.ListComp elt [⟨tg, iter, ifs, 0⟩] scope pos) ((xs.filter bt).map f) :=
  dg_imp (dg_lcP bt (fun x y => y = f x) hc hN hi ok hz hg hgo ht (fun s H C cl fp x ds1 m b e => dp_of (he s H C cl fp x ds1 m b e) rfl) hs) fun H F' H' v ⟨ys, p, r⟩ => by rw [← paired_map p]; exact r
theorem dw_setLc {M : Frm} {rest : List Stmt} {C : Cn} {i : Nat} {y : Str} {py spos : Pos} (bt : PyData → Bool) (f : PyData → PyData) (hc : X.calm = true) (hN : X.N.Nodup) (hi : DIG X M.O ds tg iter xs) (ok : BlkOk X.N X.env.scope scope own) (hz : xs.length ≤ 100000)
    (hg : ∀ (s : Shared) (H : Hp) (C : Addr) (cl : List (Str × Addr)) (fp : List Addr), DTg (Cx.bl X s H scope C cl fp) M.O tg (slotsOf own) g)
    (hgo : ∀ x, x ∈ xs → ∃ ds1, g x (wipeD ds (slotsOf own)) = some ds1)
    (ht : ∀ (s : Shared) (H : Hp) (C : Addr) (cl : List (Str × Addr)) (fp : List Addr) x ds1, x ∈ xs → g x (wipeD ds (slotsOf own)) = some ds1 → PTs (Cx.bl X s H scope C cl fp) ifs (tT X.K M.O ds1 (bt x)))
    (he : ∀ (s : Shared) (H : Hp) (C : Addr) (cl : List (Str × Addr)) (fp : List Addr) x ds1, x ∈ xs → bt x = true → g x (wipeD ds (slotsOf own)) = some ds1 → DX (Cx.bl X s H scope C cl fp) M.O ds1 elt (f x))
    (h : DW X M (ds.set i (.l ((xs.filter bt).map f))) rest C) (hy : X.N[i]? = some y := by rfl) (hyl : X.env.scope.names.lookup y = some .local := by rfl)
    (hsw : swapsWith (.ListComp elt [⟨tg, iter, ifs, 0⟩] scope pos) (some (.Name y py)) spos.line X.env = pure true := by exact sw_true rfl rfl rfl (by decide +kernel))
    (hs : ∀ x, foldedSetIterable iter X.env x = pure x := by intro _; rfl) : DW X M ds (.Assign [.Name y py] (.ListComp elt [⟨tg, iter, ifs, 0⟩] scope pos) spos :: rest) C :=
  dw_setLcP bt (fun x y => y = f x) hc hN hi ok hz hg hgo ht (fun s H C cl fp x ds1 m b e => dp_of (he s H C cl fp x ds1 m b e) rfl) (fun ys p => by rw [paired_map p]; exact h) hy hyl hsw hs
/-- no tests -/
theorem pts_no {X : Cx} {K : PySem.W.Frag} {O : Own} {ds1 : List Sl} : PTs X [] (tT K O ds1 true) := ⟨fun pins s σ H Q I ⟨F, st, q⟩ => pts_nil.run pins s σ H Q I (q F H (Grow.refl st.ex) st.j)⟩
theorem filter_yes (xs : List PyData) : xs.filter (fun _ => true) = xs := by simp
end
end DS
end
section
set_option Elab.async false
set_option linter.all false
set_option maxRecDepth 100000
set_option maxHeartbeats 1000000
namespace DS
open PySem PySem.Spec PyProof.Rows L2
open Evl (Ex ex_l ex_t ex_rd)

/-! ### a def that takes data and hands back data -/
abbrev Rel := List PyData → PyData → Prop
def spD (K : PySem.W.Frag) (Rl : Rel) : Sp := fun vs H Q _ => ∃ F xs z, Ex F H ∧ DpAll K F vs xs ∧ Rl xs z ∧ ∀ v F' H', Grow Own.no F H F' H' → Dp K F' v z → Q v H'
/-- a def of the module that keeps its promise -/
structure Def (P : Program) (w : World) (K : PySem.W.Frag) (mg : Str → Option Value) (base : Heap) (nm : Str) (k : Nat) (ps : List Str) (sp : Sp) : Prop where
  ex : ∃ f fd, FnOk P w K mg base (L2.CX P w) k f fd ps sp ∧ mg nm = some (.ref f) ∧ PySem.W.keepIn K (.ref f) = true ∧ Binds K fd ps []
section
variable {X : Cx} {O : Own} {ds : List Sl} {e a b c : Expr} {es : List Expr} {x y z : PyData} {xs ys : List PyData} {pos p : Pos} {nm : Str} {k : Nat} {ps : List Str} {Rl : Rel}
theorem dx_call (D : Def X.prog X.w X.K X.mg X.base nm k ps (spD X.K Rl)) (hr : Room k X.A) (ha : DA X O ds (e :: es) xs) (hR : Rl xs z) (hg : Gl X nm := by rfl) (hdb : (nm == ("__debug__" : Str)) = false := by decide)
    (he : starEach (e :: es) X.env = (false, eval e X.env) :: starEach es X.env := by rfl) (hpl : (backTo pos (starEach es X.env)).any (·.1) = false := by rfl) : DX X O ds (.Call (.Name nm p) (e :: es) [] pos) z := by
  obtain ⟨f, fd, G, hm, hk, hb⟩ := D.ex
  refine pe_mono (pe_call G hr hg hm hk hb .nil passL ha hdb he hpl) fun σ H Q ⟨F, st, q⟩ => ⟨F, st, fun vs F1 H1 g1 j1 d1 => ?_⟩
  exact ⟨F1, xs, z, g1.s, (List.append_nil vs).symm ▸ d1, hR, fun v F2 H2 g2 d2 => q v F2 H2 (g1.trans g2.lift) (g2.j j1) d2⟩
end

/-- the context of a body; of one that lets nothing out -/
abbrev BxE (P : Program) (w : World) (K : PySem.W.Frag) (mg : Str → Option Value) (base : Heap) (N : List Str) (nm : Str) (sc : Scope) (f : Addr) (cdv : Value) (A : Around) (outer : List Env) (s : Shared) (H : Hp) (E : XK) : Cx := cxOf (L2.CX P w) P w K mg base N nm sc f cdv A outer s H E
abbrev Bx (P : Program) (w : World) (K : PySem.W.Frag) (mg : Str → Option Value) (base : Heap) (N : List Str) (nm : Str) (sc : Scope) (f : Addr) (cdv : Value) (A : Around) (outer : List Env) (s : Shared) (H : Hp) (E : XK) : Cx := (BxE P w K mg base N nm sc f cdv A outer s H E).nox
/-- what a body without a state may change -/
def Bo (H : Hp) : Own := ⟨fun _ => False, fun _ => True, fun p => H p = none, fun _ _ => trivial, fun _ h => h.elim⟩
def Bm (F0 H : Hp) : Frm := ⟨Bo H, F0, H, fun _ => Iff.rfl⟩
def startD (N : List Str) (xs : List PyData) : List Sl := xs.map Sl.d ++ List.replicate (N.length - xs.length) .u
/-- wanted: one of z -/
def Cz (z : Sl → Prop) : Cn := { nx := fun _ _ => z (.d .none), rt := fun _ r => z r }
/-- wanted: z -/
def Cr (z : PyData) : Cn := { nx := fun _ _ => z = .none, rt := fun _ r => r = .d z }
def BodyOk (P : Program) (w : World) (K : PySem.W.Frag) (mg : Str → Option Value) (base : Heap) (N : List Str) (nm : Str) (st : Stmt) (k : Nat) (Rl : Rel) : Prop :=
  ∀ (f : Addr) (cdv : Value) (A : Around) (outer : List Env) (s : Shared) (H : Hp) (E : XK) (F0 : Hp) (xs : List PyData) (z : PyData), Room k (A.deeper (envOfC nm (defScope st) s.heap.objs.size f cdv)) → Rl xs z →
    DW (Bx P w K mg base N nm (defScope st) f cdv A outer s H E) (Bm F0 H) (startD N xs) (defBody st) (Cr z)
theorem start_get {α β : Type} {f : α → β} {u : β} : ∀ (l : List α) (n i : Nat), (l.map f ++ List.replicate n u)[i]? = if h : i < l.length then some (f l[i]) else if i < l.length + n then some u else none
  | [], n, i => by
    simp only [List.map_nil, List.nil_append, List.length_nil, Nat.not_lt_zero, dif_neg, not_false_eq_true, Nat.zero_add]
    by_cases h : i < n
    · rw [if_pos h, List.getElem?_replicate, if_pos h]
    · rw [if_neg h, List.getElem?_replicate, if_neg h]
  | a :: l, n, 0 => by simp
  | a :: l, n, i + 1 => by
    rw [List.map_cons, List.cons_append, List.getElem?_cons_succ, start_get l n i]
    by_cases h : i < l.length
    · rw [dif_pos h, dif_pos (show i + 1 < (a :: l).length by rw [List.length_cons]; omega)]
      rfl
    · rw [dif_neg h, dif_neg (show ¬ i + 1 < (a :: l).length by rw [List.length_cons]; omega)]
      by_cases h2 : i < l.length + n
      · rw [if_pos h2, if_pos (show i + 1 < (a :: l).length + n by rw [List.length_cons]; omega)]
      · rw [if_neg h2, if_neg (show ¬ i + 1 < (a :: l).length + n by rw [List.length_cons]; omega)]
theorem start_ok {K : PySem.W.Frag} {O : Own} {F H : Hp} {N : List Str} {vs : List V} {xs : List PyData} (ex : Ex F H) (sf : ∀ a, O.S a → F a = none) (j : O.J H) (d : DpAll K F vs xs) : StOk K O F (L2.start N vs) H (startD N xs) := by
  have hl := d.len
  refine ⟨ex, sf, j, ?_, fun i s o e1 e2 => ?_, fun i j s t p _ e1 o1 => ?_⟩
  · unfold L2.start startD
    rw [List.length_append, List.length_append, List.length_map, List.length_map, List.length_replicate, List.length_replicate, hl]
  · unfold startD at e1
    unfold L2.start at e2
    rw [start_get] at e1 e2
    by_cases h : i < xs.length
    · rw [dif_pos h] at e1
      rw [dif_pos (by rw [hl]; exact h)] at e2
      cases e1; cases e2
      obtain ⟨v, e, dv⟩ := d.get' (List.getElem?_eq_getElem h)
      rw [List.getElem?_eq_getElem (by rw [hl]; exact h)] at e
      cases e
      exact ⟨_, rfl, dv⟩
    · rw [dif_neg h] at e1
      split at e1
      · cases e1; exact True.intro
      · cases e1
  · unfold startD at e1
    rw [start_get] at e1
    by_cases h : i < xs.length
    · rw [dif_pos h] at e1; cases e1; cases o1
    · rw [dif_neg h] at e1
      split at e1
      · cases e1; cases o1
      · cases e1
theorem def_mk {P : Program} {w : World} {K : PySem.W.Frag} {mg : Str → Option Value} {base : Heap} {N : List Str} {nm : Str} {st : Stmt} {k : Nat} {Rl : Rel} {f : Addr} {fd : FuncData} {ps : List Str} (F : Fun K nm nm st f fd) (hm : mg nm = some (.ref f)) (hb : Binds K fd ps []) (S : FnScope N ps (defScope st))
    (hl : ∀ xs z, Rl xs z → xs.length = ps.length) (body : BodyOk P w K mg base N nm st k Rl) : Def P w K mg base nm (k + 1) ps (spD K Rl) := by
  refine ⟨f, fd, F.okX S (fun vs H Q E h => ?_) (fun cdv A outer s H vs Q E hr h => ?_), hm, F.kp, hb⟩
  · obtain ⟨F0, xs, z, _, d, r, _⟩ := h
    rw [d.len, hl xs z r]
  · obtain ⟨F0, xs, z, ex, d, r, q⟩ := h
    refine ⟨_, PSs.nox (body f cdv A outer s H E F0 xs z hr r), F0, ⟨start_ok ex (fun a h => h.elim) trivial d, Grow.refl ex⟩, fun σ' H' F' ds' O' m _ a hz => ?_, fun v r' F' H' O' m g j o hr' => ?_, fun _ _ _ _ _ _ _ _ z => z.elim, fun _ _ _ _ _ _ _ _ z => z.elim⟩
    · have hz' : z = PyData.none := hz
      subst hz'
      have g := Grow.sm m a.g
      exact q .non F' H' ⟨g.f, fun a' o _ h => g.h a' o (fun z => z) h, g.s, g.n, g.t⟩ .non
    · have hr'' : r' = .d z := hr'
      subst hr''
      exact q v F' H' ⟨g.f, fun a' o _ h => g.h a' o (fun z => z) h, g.s, g.n, g.t⟩ o

/-! ### a def that may raise one error, or hand back a dict of its own -/
abbrev RelE := List PyData → (Sl → Prop) → (PyData → Prop) → Prop
/-- what is wished of an error of the class at Cb, of a place that b tells -/
def Wb (K : PySem.W.Frag) (Cb : Addr) (F H : Hp) (b : PyData → Prop) (E : XK) : Prop := ∀ (p : PyData) (dv : V) (dx : Addr) (F' H' : Hp), Grow Own.no F H F' H' → b p → Dp K F' dv p → H dx = none → F' dx = none → H' dx = some (.xd [("place", dv)]) → E (.ref Cb) (some dx) H'
def spE (K : PySem.W.Frag) (Cb : Addr) (Rl : RelE) : Sp := fun vs H Q E => ∃ F xs z b, Ex F H ∧ DpAll K F vs xs ∧ Rl xs z b ∧ (∀ v r F' H', Grow Own.no F H F' H' → RtOk K (Bm F H) F' H' v r → z r → Q v H') ∧ Wb K Cb F H b E
def BodyOkE (P : Program) (w : World) (K : PySem.W.Frag) (mg : Str → Option Value) (base : Heap) (N : List Str) (nm : Str) (st : Stmt) (Cb : Addr) (k : Nat) (Rl : RelE) : Prop :=
  ∀ (f : Addr) (cdv : Value) (A : Around) (outer : List Env) (s : Shared) (H : Hp) (E : XK) (F0 : Hp) (xs : List PyData) (z : Sl → Prop) (b : PyData → Prop), Room k (A.deeper (envOfC nm (defScope st) s.heap.objs.size f cdv)) → Rl xs z b → Wb K Cb F0 H b E →
    DW (BxE P w K mg base N nm (defScope st) f cdv A outer s H E) (Bm F0 H) (startD N xs) (defBody st) (Cz z)
theorem rt_none {K : PySem.W.Frag} {M : Frm} {F' H' : Hp} : RtOk K M F' H' .non (.d .none) := .non
theorem rt_wi {K : PySem.W.Frag} {M M' : Frm} {F' H' : Hp} {v : V} {r : Sl} (e : M.B = M'.B) (h : RtOk K M F' H' v r) : RtOk K M' F' H' v r := by
  cases r with
  | u => exact h
  | d x => exact h
  | v x => exact h
  | l xs => obtain ⟨p, vs, h1, h2, h3⟩ := h; exact ⟨p, vs, h1, by rw [← e]; exact h2, h3⟩
  | m kvs => obtain ⟨p, h1, h2, h3⟩ := h; exact ⟨p, h1, by rw [← e]; exact h2, h3⟩
theorem bo_no {H F0 F' H' : Hp} (g : Grow (Bo H) F0 H F' H') : Grow Own.no F0 H F' H' := ⟨g.f, fun a' o _ h => g.h a' o (fun z => z) h, g.s, g.n, g.t⟩
theorem def_mkE {P : Program} {w : World} {K : PySem.W.Frag} {mg : Str → Option Value} {base : Heap} {N : List Str} {nm : Str} {st : Stmt} {Cb : Addr} {k : Nat} {Rl : RelE} {f : Addr} {fd : FuncData} {ps : List Str} (F : Fun K nm nm st f fd) (hm : mg nm = some (.ref f)) (hb : Binds K fd ps []) (S : FnScope N ps (defScope st))
    (hl : ∀ xs z b, Rl xs z b → xs.length = ps.length) (body : BodyOkE P w K mg base N nm st Cb k Rl) : Def P w K mg base nm (k + 1) ps (spE K Cb Rl) := by
  refine ⟨f, fd, F.okX S (fun vs H Q E h => ?_) (fun cdv A outer s H vs Q E hr h => ?_), hm, F.kp, hb⟩
  · obtain ⟨F0, xs, z, b, _, d, r, _⟩ := h
    rw [d.len, hl xs z b r]
  · obtain ⟨F0, xs, z, b, ex, d, r, q, we⟩ := h
    refine ⟨_, body f cdv A outer s H E F0 xs z b hr r we, F0, ⟨start_ok ex (fun a h => h.elim) trivial d, Grow.refl ex⟩, fun σ' H' F' ds' O' m _ a hz => ?_, fun v r' F' H' O' m g j o hr' => ?_, fun _ _ _ _ _ _ _ _ z => z.elim, fun _ _ _ _ _ _ _ _ z => z.elim⟩
    · exact q .non (.d .none) F' H' (bo_no (Grow.sm m a.g)) rt_none hz
    · exact q v r' F' H' (bo_no g) o hr'
/-- a def's promise, more widely told -/
theorem Def.imp {P : Program} {w : World} {K : PySem.W.Frag} {mg : Str → Option Value} {base : Heap} {nm : Str} {k : Nat} {ps : List Str} {sp sp' : Sp} (D : Def P w K mg base nm k ps sp) (h : ∀ vs H Q E, sp' vs H Q E → sp vs H Q E) : Def P w K mg base nm k ps sp' := by
  obtain ⟨f, fd, G, r⟩ := D.ex
  exact ⟨f, fd, G.imp h, r⟩
theorem Def.mono {P : Program} {w : World} {K : PySem.W.Frag} {mg : Str → Option Value} {base : Heap} {nm : Str} {j k : Nat} {ps : List Str} {sp : Sp} (D : Def P w K mg base nm j ps sp) (h : j ≤ k) : Def P w K mg base nm k ps sp := by
  obtain ⟨f, fd, G, r⟩ := D.ex
  exact ⟨f, fd, G.mono h, r⟩
section
variable {X : Cx} {O : Own} {ds : List Sl} {e a b c : Expr} {es : List Expr} {x y z : PyData} {xs ys : List PyData} {pos p : Pos} {nm : Str} {k : Nat} {ps : List Str} {Rl : RelE} {Cb : Addr}
/-- its result, as it comes -/
def rR (K : PySem.W.Frag) (z : Sl → Prop) : Rs := fun H F' H' v => ∃ r, z r ∧ RtOk K (Bm H H) F' H' v r
/-- .. where it raises nothing -/
theorem dg_callE {zz : Sl → Prop} (D : Def X.prog X.w X.K X.mg X.base nm k ps (spE X.K Cb Rl)) (hr : Room k X.A) (ha : DA X O ds (e :: es) xs) (hR : Rl xs zz (fun _ => False)) (hg : Gl X nm := by rfl) (hdb : (nm == ("__debug__" : Str)) = false := by decide)
    (he : starEach (e :: es) X.env = (false, eval e X.env) :: starEach es X.env := by rfl) (hpl : (backTo pos (starEach es X.env)).any (·.1) = false := by rfl) : DG X O ds (.Call (.Name nm p) (e :: es) [] pos) (rR X.K zz) := by
  obtain ⟨f, fd, G, hm, hk, hb⟩ := D.ex
  refine pe_mono (pe_call G hr hg hm hk hb .nil passL ha hdb he hpl) fun σ H Q ⟨F, st, q⟩ => ⟨F, st, fun vs F1 H1 g1 j1 d1 => ?_⟩
  refine ⟨F1, xs, zz, fun _ => False, g1.s, (List.append_nil vs).symm ▸ d1, hR, fun v r F2 H2 g2 o hz => q v F2 H2 (g1.trans g2.lift) (g2.j j1) ⟨r, hz, ?_⟩, fun _ _ _ _ _ _ h => h.elim⟩
  cases r with
  | u => exact o
  | d x => exact o
  | v x => exact o
  | l xs => obtain ⟨p, vs, h1, h2, h3⟩ := o; exact ⟨p, vs, h1, g1.free h2, h3⟩
  | m kvs => obtain ⟨p, h1, h2, h3⟩ := o; exact ⟨p, h1, g1.free h2, h3⟩
/-- .. where it may raise, and the error is let through -/
theorem dg_callW {zz : Sl → Prop} {bb : PyData → Prop} {E : XK} {W : WX} (D : Def X.prog X.w X.K X.mg X.base nm k ps (spE X.K Cb Rl)) (hr : Room k X.A) (tk : Takes X W) (hW : ∀ cls d σ H, E cls d H → W cls d σ H) (ha : DA X O ds (e :: es) xs) (hR : Rl xs zz bb)
    (hE : ∀ σ F H F1 H1, StOk X.K O F σ H ds → Grow O F H F1 H1 → O.J H1 → Wb X.K Cb F1 H1 bb E) (hg : Gl X nm := by rfl) (hdb : (nm == ("__debug__" : Str)) = false := by decide)
    (he : starEach (e :: es) X.env = (false, eval e X.env) :: starEach es X.env := by rfl) (hpl : (backTo pos (starEach es X.env)).any (·.1) = false := by rfl) : DG X O ds (.Call (.Name nm p) (e :: es) [] pos) (rR X.K zz) := by
  obtain ⟨f, fd, G, hm, hk, hb⟩ := D.ex
  refine pe_mono (pe_call G hr hg hm hk hb .nil (passes_call tk hW) ha hdb he hpl) fun σ H Q ⟨F, st, q⟩ => ⟨F, st, fun vs F1 H1 g1 j1 d1 => ?_⟩
  refine ⟨F1, xs, zz, bb, g1.s, (List.append_nil vs).symm ▸ d1, hR, fun v r F2 H2 g2 o hz => q v F2 H2 (g1.trans g2.lift) (g2.j j1) ⟨r, hz, ?_⟩, hE σ F H F1 H1 st g1 j1⟩
  cases r with
  | u => exact o
  | d x => exact o
  | v x => exact o
  | l xs => obtain ⟨p, vs, h1, h2, h3⟩ := o; exact ⟨p, vs, h1, g1.free h2, h3⟩
  | m kvs => obtain ⟨p, h1, h2, h3⟩ := o; exact ⟨p, h1, g1.free h2, h3⟩
theorem dx_ofR (h : DG X O ds e (rR X.K (fun r => r = .d x))) : DX X O ds e x := dg_imp h fun _ _ _ _ ⟨r, e, o⟩ => by subst e; exact o
theorem dm_ofR {kvs : List (Key × V)} (h : DG X O ds e (rR X.K (fun r => r = .m kvs))) : DM X O ds e kvs := dg_imp h fun _ _ _ _ ⟨r, e, o⟩ => by subst e; exact o
end
end DS
end
section
set_option Elab.async false
set_option linter.all false
set_option maxRecDepth 100000
set_option maxHeartbeats 2000000
namespace DS
open PySem PySem.Spec PyProof.Rows L2
open AutoSeq1 (wpAny_loadPart')
open Evl (Ex ex_l ex_t ex_rd)

/-! ### enumerate of a tuple -/
theorem enumT_meets (a : Addr) (items : Array Value) (n : Nat) (dct : Option Addr) (sl : Array (Option Value)) :
    Meets (Builtin.«enumerate.__new__» ⟨[.type "enumerate", .ref a], []⟩) (fun _ R s => s.heap.get? a = some { cls := .type "tuple", dict := dct, data := .seq items n, slots := sl } ∧
      R (.ok (.ret (.ref (s.heap.push { cls := .type "tuple_iterator", data := .fields #[.ref a, .int 0 0] }).objs.size)))
        { s with heap := (s.heap.push { cls := .type "tuple_iterator", data := .fields #[.ref a, .int 0 0] }).push { cls := .type "enumerate", data := .fields #[.none, .bool false, .ref s.heap.objs.size, rawInt 0, .none, .none] } }) :=
  .of_wp fun prog w A R st ⟨at_, wish⟩ => by
    have isT : st.heap.IsTuple a items := ⟨_, at_, rfl, n, rfl⟩
    have named := sub_enumerate
    cases st
    wp_walk using wpAny_loadPart' at_
    apply wpAny_stack_any
    intro
    apply wpAny_pure
    split <;> try (rename_i c _ _ _ _ _; cases (c == Value.type "enumerate"))
    all_goals
      wp_walk using wpAny_loadPart' at_, wpAny_pyIter_tuple isT
      exact ⟨_, rfl, wish⟩
section
variable {prog : Program} {w : World} {A : Around} {E : Value → Shared → Prop} {s : Shared}
theorem enumT_call {a : Addr} {items : Array Value} {Q : Value → Shared → Prop} (hL : s.heap.IsTuple a items)
    (h : ∀ h', IsEnum h' (s.heap.objs.size + 1) s.heap.objs.size 0 .none → h'.IsTupleIter s.heap.objs.size a 0 → (∀ b o, s.heap.get? b = some o → h'.get? b = some o) → Q (.ref (s.heap.objs.size + 1)) { s with heap := h' }) :
    wpAny (model prog w) A (call (.type "enumerate") [.ref a]) Q E s := by
  obtain ⟨⟨cls, dct, data, sl⟩, at_, isT, n, its⟩ := hL
  cases (show cls = .type "tuple" from isT)
  cases (show data = .seq items n from its)
  let it : Obj := { cls := .type "tuple_iterator", data := .fields #[.ref a, .int 0 0] }
  let en : Obj := { cls := .type "enumerate", data := .fields #[.none, .bool false, .ref s.heap.objs.size, rawInt 0, .none, .none] }
  have size : (s.heap.push it).objs.size = s.heap.objs.size + 1 := Heap.size_push ..
  have isE : IsEnum ((s.heap.push it).push en) (s.heap.objs.size + 1) s.heap.objs.size 0 .none := size ▸ Heap.get?_push_size (s.heap.push it) (o := en) rfl
  refine callType_new F.called_enumerate (by decide) (F.typeCall_enumerate_1 _) (F.newCall_enumerate_1 _) (fun obj => F.args_object_init_2 obj _) F.entry_enumerate_new (enumT_meets a items n dct sl) ⟨at_, ?_⟩
  show _ ∧ _
  rw [size]
  exact ⟨⟨_, isE, rfl⟩, h _ isE ⟨_, Heap.get?_push_of_some _ (Heap.get?_push_size _ rfl), rfl, rfl⟩ fun b o e => Heap.get?_push_of_some _ (Heap.get?_push_of_some _ e)⟩
end
/-- the tuple at a, each item in a new pair -/
def Iet (K : PySem.W.Frag) (a : Addr) : It :=
  ⟨fun i H => ∃ (xs : List V) (x : V), SqT K H a xs ∧ xs[i]? = some x, fun i H v H' => ∃ T x, v = .ref T ∧ H T = none ∧ H' = upd H T (.tup [.int (i : Nat), x]) ∧ ∀ xs, SqT K H a xs → xs[i]? = some x, fun i H => ∃ xs : List V, SqT K H a xs ∧ xs.length = i⟩
/-- at e the enumerate, at it the walk over the tuple at a, i items gone -/
def EnAt (a e it : Addr) (i : Nat) (h : Heap) : Prop := (∃ old, IsEnum h e it ((i : Nat) : Int) old) ∧ h.IsTupleIter it a i ∧ e ≠ it ∧ a ≠ e
theorem two_of {b e it : Addr} {Z : Prop} (h : b ∈ [e, it]) (h1 : b = e → Z) (h2 : b = it → Z) : Z := (List.mem_cons.mp h).elim h1 fun z => h2 (List.mem_singleton.mp z)
theorem turn_enumT {P : Program} {w : World} {K : PySem.W.Frag} {elts : List Expr} {kk : Nat} {tpos : Pos} (a e it : Addr) (hai : a ≠ it) : Turn P w K (.Tuple elts kk tpos) (Iet K a) [e, it] e (EnAt a e it) where
  mem := List.mem_cons_self
  self := fun _ _ _ _ _ st q => st.1.elim fun _ isE => wpAny_pyIter_enum isE q
  keep := fun i h h' ⟨⟨old, isE⟩, isI, ne⟩ k => ⟨⟨old, k e List.mem_cons_self _ isE⟩, isI.at fun o => k it (List.mem_cons_of_mem _ List.mem_cons_self) o, ne⟩
  obj := by
    rintro i h ⟨⟨old, isE⟩, ⟨o, at_, -, its⟩, -⟩ b hb
    refine two_of hb ?_ ?_
    · rintro rfl
      exact ⟨_, isE, fun v z => nomatch z⟩
    · rintro rfl
      exact ⟨o, at_, fun v z => absurd (its.symm.trans z) (fun z => nomatch z)⟩
  item := by
    rintro X rfl rfl rfl calm i pins s σ H E J frame ⟨⟨old, isE⟩, isI, ne, nae⟩ ⟨xs, x, isT, hx⟩
    obtain ⟨its, vals, lies, -⟩ := J.tuple isT
    obtain ⟨u, hu, ru⟩ := vals.get hx
    have long : i < its.toArray.size := (List.getElem?_eq_some_iff.mp hu).1
    have walk := Draws.tuple (prog := X.prog) (w := X.w) (A := X.A.in1) (J.ok.hd calm) it a hai its.toArray
    refine wpAny_pyNext_enum_itemD walk isE ⟨isI, lies⟩ long ne (fun z => two_of z ne nae.symm) ?_
    intro y h1 tk hy out rest pair size kept
    obtain rfl : y = u := Option.some.inj (hy.symm.trans ((List.getElem?_toArray ..).trans hu))
    refine ⟨_, rfl, wpAny_letOwnedTupleGo_enum (s := { s with heap := h1, toks := tk + 1 }) out ?_⟩
    intro h2 isE2 same
    have belowE : e < s.heap.objs.size := Heap.lt_size isE
    have belowI : it < s.heap.objs.size := isI.elim fun _ z => Heap.lt_size z.1
    have pair2 := (same.2 _ (Nat.ne_of_gt belowE)).trans pair
    have stay : ∀ b o, b ∉ [e, it] → s.heap.get? b = some o → h2.get? b = some o := by
      intro b o nb q
      have n1 : b ≠ e := fun z => nb (z ▸ List.mem_cons_self)
      have n2 : b ≠ it := fun z => nb (z ▸ List.mem_cons_of_mem _ List.mem_cons_self)
      exact (same.2 b n1).trans (kept b o n1 n2 q)
    have laid : ObjOk X.prog X.w (upd H s.heap.objs.size (.tup [.int i, x])) h2 s.heap.objs.size (.tup [.int i, x]) := ⟨by show 2 ≤ sizeLine; decide, [.int i tk, y], .cons ⟨tk, rfl⟩ (.cons ru .nil), _, pair2, rfl, _, rfl⟩
    have J2 := J.turnedNew (t' := tk + 1) (ch := [e, it]) stay frame (Nat.le_refl _) laid
    refine ⟨.ref _, _, J2, rfl, ⟨_, x, rfl, J.hok.fresh (Nat.le_refl _), rfl, fun ys isT2 => J.tuple_inj isT2 isT ▸ hx⟩, ⟨⟨y, ?_⟩, rest.1.at fun o q => (same.2 it ne.symm).trans q, ne, nae⟩, fun b hb => ?_⟩
    · rw [show ((i + 1 : Nat) : Int) = (i : Int) + 1 from Int.natCast_succ i]
      exact isE2
    · have below : b < s.heap.objs.size := two_of hb (fun z => z ▸ belowE) (fun z => z ▸ belowI)
      rw [upd_ne (Nat.ne_of_lt below)]
      exact (frame b hb).1
  done := by
    rintro X rfl rfl rfl calm i pins s σ H E J frame ⟨⟨old, isE⟩, isI, ne, nae⟩ ⟨xs, isT, all⟩
    obtain ⟨its, vals, lies, -⟩ := J.tuple isT
    have size : its.toArray.size = i := (List.size_toArray ..).trans (vals.length.symm.trans all)
    have walk := Draws.tuple (prog := X.prog) (w := X.w) (A := X.A.in1) (J.ok.hd calm) it a hai its.toArray
    obtain ⟨g0, g1, -, g3, g4, g5⟩ := frame it (List.mem_cons_of_mem _ List.mem_cons_self)
    exact wpAny_pyNext_enum_endD walk isE (size.symm ▸ ⟨isI, lies⟩) fun h2 same => ⟨rfl, J.turned (t' := s.toks) same g0 g1 g3 g4 g5⟩
/-- the pairs of enumerate -/
def enumD (xs : List PyData) : List PyData := (List.range xs.length).map fun (i : Nat) => .tuple [.int (i : Int), xs.getD i .none]
theorem enumD_len (xs : List PyData) : (enumD xs).length = xs.length := by unfold enumD; rw [List.length_map, List.length_range]
theorem enumD_get {xs : List PyData} {i : Nat} {x : PyData} (h : (enumD xs)[i]? = some x) : ∃ y, xs[i]? = some y ∧ x = .tuple [.int (i : Int), y] := by
  unfold enumD at h
  rw [List.getElem?_map] at h
  by_cases hi : i < xs.length
  · rw [List.getElem?_range hi] at h
    cases h
    exact ⟨xs[i], List.getElem?_eq_getElem hi, by show PyData.tuple [.int (i : Int), xs.getD i .none] = _; rw [List.getD_eq_getElem?_getD, List.getElem?_eq_getElem hi] <;> rfl⟩
  · rw [List.getElem?_eq_none (by rw [List.length_range]; omega)] at h
    cases h
section
variable {X : Cx} {O : Own} {ds : List Sl} {e : Expr} {xs : List PyData} {p pos tpos : Pos} {elts : List Expr} {kk : Nat}
def iEnT (K : PySem.W.Frag) (ta : TA) : TI := fun σ H R => ta σ H fun vs H1 => ∃ a xs, vs = [.ref a] ∧ SqT K H1 a xs ∧ R (Iet K a) H1
theorem pi_enumT {ta : TA} (hg : Gl X "enumerate") (hm : X.mg "enumerate" = none) (ha : PA X [e] ta) (hs : starEach [e] X.env = [(false, eval e X.env)] := by rfl) :
    PI X (.Tuple elts kk tpos) (.Call (.Name "enumerate" p) [e] [] pos) (iEnT X.K ta) := by
  constructor
  intro pins s σ H R I wish
  apply Call_ (ld_blt I hg hm boot_enumerate (PyProof.Rows.callWith_type1 (thn (ha.run pos pins s σ H _ I wish) ?_) hs rfl))
  rintro us s1 ⟨_, H1, J, vals, a, xs, rfl, isT, q⟩
  rcases vals with _ | ⟨⟨⟩, _ | _⟩
  obtain ⟨its, -, lies, -⟩ := J.tuple isT
  have below : a < s1.heap.objs.size := lies.elim fun _ z => Heap.lt_size z.1
  refine enumT_call lies fun h' isE isI kept => wpAny_pyIter_enum isE ⟨_, [s1.heap.objs.size + 1, s1.heap.objs.size], _, _, H1, rfl, J.kept (t' := s1.toks) kept, turn_enumT a _ _ (Nat.ne_of_lt below), ⟨⟨.none, isE⟩, isI, Nat.succ_ne_self _, Nat.ne_of_lt (Nat.lt_succ_of_lt below)⟩, fun b hb => ?_, q⟩
  have above : s1.heap.objs.size ≤ b := two_of hb (fun z => z ▸ Nat.le_succ _) (fun z => Nat.le_of_eq z.symm)
  exact J.fpOk above (J.hok.fresh above)
theorem di_enum (hm : X.mg "enumerate" = none) (h : DX X O ds e (.tuple xs)) (hg : Gl X "enumerate" := by rfl) (hs : starEach [e] X.env = [(false, eval e X.env)] := by rfl) : DI X O ds (.Tuple elts kk tpos) (.Call (.Name "enumerate" p) [e] [] pos) (enumD xs) :=
  pi_mono (pi_enumT hg hm (da_one h hs) hs) fun σ H R ⟨F, st, q⟩ => ⟨F, st, fun vs F1 H1 g1 j1 d => by
    obtain ⟨v, r, rfl, dv, dr⟩ := d.cons_of
    have := dr.nil_of
    subst this
    obtain ⟨a, ws, rfl, s1, s2⟩ := Dp.tup_eq dv
    refine ⟨a, ws, rfl, ex_t g1.s s1, q _ F1 H1 g1 j1 fun F2 H2 e1 e2 => ?_⟩
    have s3 := ex_t e2 (ex_t e1 s1)
    rw [enumD_len]
    refine ⟨fun i hi => ⟨ws, ws[i]'(by rw [s2.len]; exact hi), s3, List.getElem?_eq_getElem _⟩, ⟨ws, s3, s2.len⟩, fun i v H3 x hx hy => ?_⟩
    obtain ⟨T, u, rfl, hT, rfl, hu⟩ := hy
    obtain ⟨y, hy1, rfl⟩ := enumD_get hx
    obtain ⟨u', hu', du⟩ := s2.get' hy1
    have e9 := hu ws s3
    rw [hu'] at e9
    have e8 : u' = u := Option.some.inj e9
    subst e8
    have g2 := Grow.new (O := Own.no) (o := .tup [.int (i : Nat), u']) e2 hT
    exact ⟨_, g2, .tup (SqT.of upd_same) (.cons (.int _) (.cons (du.up (e1.trans g2.f)) .nil))⟩⟩
end
end DS
end
section
set_option Elab.async false
set_option linter.all false
set_option maxRecDepth 100000
set_option maxHeartbeats 1000000
namespace DS
open PySem PySem.Spec PyProof.Rows L2
open Evl (Ex ex_l ex_t ex_rd)

/-! ### two promises -/
def tH (K : PySem.W.Frag) (O O' : Own) (ds : List Sl) (R : Rs) : TE := fun σ H Q => ∃ F, StOk K O F σ H ds ∧ ∀ v F' H', Grow O F H F' H' → O'.J H' → R H F' H' v → Q v H'
abbrev DH (X : Cx) (O O' : Own) (ds : List Sl) (e : Expr) (R : Rs) : Prop := PE X e (tH X.K O O' ds R)
/-- as it is stored -/
def rN (K : PySem.W.Frag) (s : Sl) : Rs := fun H F' H' v => RtOk K (Bm H H) F' H' v s

section
variable {X : Cx} {O O1 O2 : Own} {ds : List Sl} {e a b c tg : Expr} {es : List Expr} {x y z : PyData} {xs ys : List PyData} {R R' : Rs} {pos p p1 p2 p3 apos : Pos} {M : Frm} {C : Cn} {rest : List Stmt} {nm : Str}

/-! ### names of the module -/
theorem dx_gS {s : Str} (hm : ∃ t, X.mg nm = some (.str s t)) (hg : Gl X nm := by rfl) (hd : (nm == ("__debug__" : Str)) = false := by decide) : DX X O ds (.Name nm pos) (.str s) := by
  obtain ⟨t, hm⟩ := hm
  exact dx_c (pe_glob (v := .str s) hg hm ⟨t, rfl⟩ hd) fun _ => .str s
theorem dx_gI {i : Int} (hm : ∃ t, X.mg nm = some (.int i t)) (hg : Gl X nm := by rfl) (hd : (nm == ("__debug__" : Str)) = false := by decide) : DX X O ds (.Name nm pos) (.int i) := by
  obtain ⟨t, hm⟩ := hm
  exact dx_c (pe_glob (v := .int i) hg hm ⟨t, rfl⟩ hd) fun _ => .int i
/-- a tuple of texts of the module -/
def GTup (K : PySem.W.Frag) (mg : Str → Option Value) (nm : Str) (ss : List Str) : Prop := ∃ a, mg nm = some (.ref a) ∧ ∀ F, Dp K F (.ref a) (.tuple (ss.map PyData.str))
theorem dx_gT {ss : List Str} (hm : GTup X.K X.mg nm ss) (hg : Gl X nm := by rfl) (hd : (nm == ("__debug__" : Str)) = false := by decide) : DX X O ds (.Name nm pos) (.tuple (ss.map PyData.str)) := by
  obtain ⟨a, hm, h⟩ := hm
  exact dx_c (pe_glob (v := .ref a) hg hm rfl hd) h

/-! ### arithmetic -/
theorem dx_neg {i : Int} (ha : DX X O ds a (.int i)) : DX X O ds (.UnaryOp .USub a pos) (.int (-i)) :=
  pe_mono (pe_un un_neg ha) fun σ H Q ⟨F, st, q⟩ => ⟨F, st, fun v F1 H1 g1 j1 d1 => ⟨i, Dp.int_eq d1, q _ F1 H1 g1 j1 (.int _)⟩⟩
theorem dx_neg1 {k : Nat} : DX X O ds (.UnaryOp .USub (.Constant (.int 1) k p) pos) (.int (-1)) := dx_neg dx_int
theorem dx_mul {i j : Int} (ha : DX X O ds a (.int i)) (hb : DX X O ds b (.int j)) (hc : CMul i j) : DX X O ds (.BinOp a .Mult b pos) (.int (i * j)) := dx_op op_mul ha hb (op2_IIc (h := fun i j => .int (i * j)) hc fun _ => .int _)
theorem dx_div {i j : Int} (ha : DX X O ds a (.int i)) (hb : DX X O ds b (.int j)) (hc : CDiv i j) : DX X O ds (.BinOp a .FloorDiv b pos) (.int (i / j)) := dx_op op_fdiv ha hb (op2_IIc (h := fun i j => .int (i / j)) hc fun _ => .int _)
theorem dx_pow {i j : Int} (ha : DX X O ds a (.int i)) (hb : DX X O ds b (.int j)) (hc : CPow i j) : DX X O ds (.BinOp a .Pow b pos) (.int (i ^ j.toNat)) := dx_op op_pow ha hb (op2_IIc (h := fun i j => .int (i ^ j.toNat)) hc fun _ => .int _)
theorem dx_intI {i : Int} (hm : X.mg "int" = none) (ha : DX X O ds e (.int i)) (hg : Gl X "int" := by rfl) (he : starEach [e] X.env = (false, eval e X.env) :: starEach [] X.env := by rfl) : DX X O ds (.Call (.Name "int" p) [e] [] pos) (.int i) :=
  dg_callT1 call_int1 hm PyProof.Rows.boot_int ha (fun F0 H0 F H v Q g j r q => .inl ⟨i, by rw [Dp.int_eq r], q _ F H (Grow.refl g.s) (.int _)⟩) hg (by decide) (by decide) he
theorem dx_min2 {i j : Int} (hc : X.calm = true) (hm : X.mg "min" = none) (ha : DX X O ds a (.int i)) (hb : DX X O ds b (.int j)) (hg : Gl X "min" := by rfl) (he : starEach [a, b] X.env = (false, eval a X.env) :: starEach [b] X.env := by rfl) (he2 : starEach [b] X.env = (false, eval b X.env) :: starEach [] X.env := by rfl)
    (hpl : (backTo pos (starEach [b] X.env)).any (·.1) = false := by rfl) : DX X O ds (.Call (.Name "min" p) [a, b] [] pos) (.int (if j < i then j else i)) :=
  dx_callB (call_min2 hc) hm PyProof.Rows.boot_min (da_cons ha (da_one hb he2) he) (cal_pure fun F H vs Q e d q => by
    obtain ⟨v, r, rfl, d1, d2⟩ := d.cons_of
    obtain ⟨w, r2, rfl, d3, d4⟩ := d2.cons_of
    have := d4.nil_of
    subst this
    rw [d1.int_eq, d3.int_eq]
    exact ⟨i, j, rfl, q _ (.int _)⟩) hg (by decide) (by decide) he hpl

/-! ### texts -/
theorem dx_starts {s t : Str} (ha : DX X O ds a (.str s)) (hb : DX X O ds b (.str t)) (hs : starEach [b] X.env = [(false, eval b X.env)] := by rfl) (hbase : attributeBase a "startswith" X.env (eval a X.env) = eval a X.env := by rfl) (hline : (apos.endLine == pos.line) = true := by rfl) :
    DX X O ds (.Call (.Attribute a "startswith" apos) [b] [] pos) (.bool (Txt.startswith s t)) :=
  pe_mono (pe_m1 F.slot_str_startswith F.type_str_startswith mt_startswith ha hb hs hbase hline) fun σ H Q ⟨F, st, q⟩ => ⟨F, st, fun v F1 H1 g1 j1 d1 => ⟨⟨s, Dp.str_eq d1⟩, F1, st.grow g1 j1, fun w F2 H2 g2 j2 d2 =>
    ⟨s, t, Dp.str_eq d1, by rw [Dp.str_eq d2], q _ F2 H2 (g1.trans g2) j2 (.bl _)⟩⟩⟩
theorem dx_join {s : Str} {ss : List Str} (ha : DX X O ds a (.str s)) (hb : DLs X O ds b (ss.map PyData.str)) (hz : (ss.map (·.length)).sum + ss.length * s.length ≤ 16777216) (hs : starEach [b] X.env = [(false, eval b X.env)] := by rfl) (hbase : attributeBase a "join" X.env (eval a X.env) = eval a X.env := by rfl) (hline : (apos.endLine == pos.line) = true := by rfl) :
    DX X O ds (.Call (.Attribute a "join" apos) [b] [] pos) (.str (Txt.join s ss)) :=
  pe_mono (pe_join ha hb hs hbase hline) fun σ H Q ⟨F, st, q⟩ => ⟨F, st, fun v F1 H1 g1 j1 d1 => ⟨⟨s, Dp.str_eq d1⟩, F1, st.grow g1 j1, fun w F2 H2 g2 j2 ⟨p, vs, e1, h1, h2⟩ => by
    have := dpAll_strs h2
    subst this
    exact ⟨s, p, ss, Dp.str_eq d1, by rw [e1], .inl h1, hz, q _ F2 H2 (g1.trans g2) j2 (.str _)⟩⟩⟩
/-- text * 3 -/
theorem op_rep3 : OpR X (binaryOp .Mult) (fun x y H Q => ∃ s : Str, x = .str s ∧ y = .int 3 ∧ 1 ≤ s.length ∧ s.length ≤ 1000 ∧ Q (.str ⟨s.cps ++ s.cps ++ s.cps⟩) H) := by
  intro pins s σ H x y v u Q I rx ry h
  obtain ⟨z, rfl, rfl, h1, h2, q⟩ := h
  obtain ⟨t, rfl⟩ := rx
  obtain ⟨t', rfl⟩ := ry
  refine PySem.P.mul_str (by decide) (fun _ _ => ?_) (fun _ _ => ?_) ?_
  · have : ((2 : Int) ^ 63 - 1) / 3 = 3074457345618258602 := by decide
    rw [this]; omega
  · unfold Builtin.Str.tooLong
    exact decide_eq_false (by have := sizeLine_eq; have e3 : (3 : Int).toNat = 3 := rfl; rw [e3]; omega)
  · have e0 : ¬ (3 : Int) < 1 := by decide
    have e1 : ((3 : Int) == 1 || z.length == 0) = false := by
      have : (z.length == 0) = false := by simpa using (by omega : z.length ≠ 0)
      rw [this]; rfl
    rw [if_neg e0, e1]
    refine ⟨?_, ?_⟩
    · show _ ≤ _
      have : ((List.replicate (3 : Int).toNat z.cps).foldl (· ++ ·) #[]).size = 3 * z.length := by
        show (((#[] ++ z.cps) ++ z.cps) ++ z.cps).size = _
        simp only [Array.size_append, Array.empty_append]
        show z.cps.size + z.cps.size + z.cps.size = 3 * z.cps.size
        omega
      show Str.length ⟨_⟩ ≤ _
      unfold Str.length
      rw [this]
      have := sizeLine_eq
      omega
    · refine ⟨.str _, H, I.tok _, ⟨s.toks, rfl⟩, ?_⟩
      have : (List.replicate (3 : Int).toNat z.cps).foldl (· ++ ·) #[] = z.cps ++ z.cps ++ z.cps := by
        show ((#[] ++ z.cps) ++ z.cps) ++ z.cps = _
        rw [Array.empty_append]
      rw [this]; exact q
theorem dx_rep3 {s : Str} {k : Nat} (ha : DX X O ds a (.str s)) (h1 : 1 ≤ s.length) (h2 : s.length ≤ 1000) : DX X O ds (.BinOp a .Mult (.Constant (.int 3) k p) pos) (.str ⟨s.cps ++ s.cps ++ s.cps⟩) :=
  dx_op op_rep3 ha dx_int (op2_pure fun F H v w Q e d1 d2 q => ⟨s, d1.str_eq, d2.int_eq, h1, h2, q _ (.str _)⟩)
/-! ### list.count -/
theorem strs_are : ∀ {us : List Value} {ss : List Str}, Vals (ss.map V.str) us → StrsAre us ss
  | _, [], h => by cases h; exact .nil
  | _, s :: ss, h => by
    cases h with
    | cons r t => obtain ⟨k, rfl⟩ := r; exact .cons s k (strs_are t)
theorem mt_countS : MtR X "list.count" (fun x xs H Q => ∃ (p : Addr) (ss : List Str) (k : Str), x = .ref p ∧ xs = [.str k] ∧ SqL X.K H p (ss.map V.str) ∧ Q (.int (countIn (.str k) (ss.map PyData.str))) H) := by
  intro pins s σ H x xs v us Q I rx rxs h
  obtain ⟨p, ss, k, rfl, rfl, hs, q⟩ := h
  cases rx
  obtain ⟨u, rfl, ru⟩ := rxs.one
  obtain ⟨t, rfl⟩ := ru
  obtain ⟨its, rv, pl, hlen⟩ := I.list hs
  exact count_list_strs pl.isList (strs_are rv) ⟨.int _, H, I.tok _, ⟨_, rfl⟩, q⟩
theorem dx_count {ss : List Str} {k : Str} (ha : DLt X O ds a (ss.map PyData.str)) (hb : DX X O ds b (.str k)) (hbase : attributeBase a "count" X.env (eval a X.env) = eval a X.env := by rfl)
    (hfew : ((backTo pos (starEach [b] X.env)).all (fun x => !x.1) && (backToKw pos (keywordEach [] X.env)).all (fun x => x.1.isSome)
      && decide (([b] : List Expr).length + ([] : List Keyword).length + (if ([] : List Keyword).isEmpty then 0 else 1) < 30)) = true := by rfl)
    (hline : (apos.endLine == pos.line) = true := by rfl) (hs : starEach [b] X.env = (false, eval b X.env) :: starEach [] X.env := by rfl) :
    DX X O ds (.Call (.Attribute a "count" apos) [b] [] pos) (.int (countIn (.str k) (ss.map PyData.str))) :=
  pe_mono (pe_bm PySem.F.plainAttrs_list PySem.F.slot_list_count PySem.F.type_list_count mt_countS ha (pa_cons hb pa_nil hs) hbase hfew hline hs rfl) fun σ H Q ⟨F, st, q⟩ => ⟨F, st, fun v F1 H1 g1 j1 ⟨p, vs, e1, n1, h1, h2⟩ => by
    have := dpAll_strs h2
    subst this e1
    refine ⟨.inl ⟨rfl, _, SqL.of h1⟩, F1, st.grow g1 j1, fun w F2 H2 g2 j2 d2 => ⟨p, ss, k, rfl, by rw [Dp.str_eq d2], SqL.of (g2.h _ _ n1 h1), q _ F2 H2 (g1.trans g2) j2 (.int _)⟩⟩⟩

/-- an item of a list of one's own -/
theorem dx_ixLt {i : Int} (ha : DLt X O ds a xs) (hb : DX X O ds b (.int i)) (h : atI xs i = some z) (hs : PlainIx b := by intro _ _; rfl) : DX X O ds (.Subscript a b pos) z :=
  pe_mono (pe_ix ix_list ha hb hs) fun σ H Q ⟨F, st, q⟩ => ⟨F, st, fun v F1 H1 g1 j1 r1 => ⟨F1, st.grow g1 j1, fun w F2 H2 g2 j2 d2 => by
    obtain ⟨p, vs, rfl, n1, h1, h2⟩ := r1
    rw [Dp.int_eq d2]
    unfold atI at h
    cases hx : ixN xs.length i with
    | none => rw [hx] at h; cases h
    | some j =>
      rw [hx] at h
      obtain ⟨u, hu, du⟩ := h2.get' (show xs[j]? = some z from h)
      exact ⟨p, vs, i, u, rfl, rfl, SqL.of (g2.h _ _ n1 h1), by unfold atI; rw [h2.len, hx]; exact hu, q u F2 H2 (g1.trans g2) j2 (du.up g2.f)⟩⟩⟩
/-! ### a, b, c = e -/
theorem d1_unp {is : List Nat} {g : PyData → List Sl → Option (List Sl)} {ds' : List Sl} (he : DX X M.O ds e x) (hg : DTg X M.O tg is g) (hgx : g x ds = some ds') (h : C.nx M.O ds') (hs : swapsWithSole [tg] e pos.line X.env = pure false := by rfl) (hw : swappedStores [tg] e X.env = pure none := by rfl)
    (h1 : (assignEach [tg] X.env).map (·.2) = [assign tg X.env] := by rfl) : D1 X M ds (.Assign [tg] e pos) C :=
  ps_mono (ps_asg he hg hs hw h1) fun D σ H ⟨F, a, q1, _⟩ => ⟨F, a.st, fun v F' H' g' j d => ⟨F', ds, x, ds', a.st.grow g' j, d, hgx, fun σ' st' _ _ => q1.here g'.f ⟨st', a.g.trans g'⟩ h⟩⟩
theorem dw_unp {is : List Nat} {g : PyData → List Sl → Option (List Sl)} {ds' : List Sl} (he : DX X M.O ds e x) (hg : DTg X M.O tg is g) (hgx : g x ds = some ds') (h : DW X M ds' rest C) (hs : swapsWithSole [tg] e pos.line X.env = pure false := by rfl) (hw : swappedStores [tg] e X.env = pure none := by rfl)
    (h1 : (assignEach [tg] X.env).map (·.2) = [assign tg X.env] := by rfl) : DW X M ds (.Assign [tg] e pos :: rest) C :=
  dw_seq (N := fun d => d = ds') (d1_unp he hg hgx ⟨rfl, rfl⟩ hs hw h1) fun _ e => e ▸ h

/-! ### a, b = x, y -/
theorem At.setN {K : PySem.W.Frag} {F F' H H' : Hp} {σ : L2.St} {i : Nat} {v : V} {s : Sl} (h : At K M F σ H ds) (g : Grow M.O F H F' H') (j : M.O.J H') (r : rN K s H F' H' v) : At K M F' (σ.set i (some v)) H' (ds.set i s) := by
  cases s with
  | u => exact (h.grow g j).setU
  | d x => exact (h.grow g j).setD r
  | v x =>
    have : v = x := r
    subst this
    exact (h.grow g j).setV
  | l xs =>
    obtain ⟨p, vs, rfl, h1, h2, h3, h4⟩ := r
    exact h.setL g j h1 h2 h3 h4
  | m kvs =>
    obtain ⟨p, rfl, h1, h2, h3⟩ := r
    exact h.setM g j h1 h2 h3
theorem rn_d (h : DX X O ds e x) : DG X O ds e (rN X.K (.d x)) := h
theorem rn_l (h : DO X O ds e xs) : DG X O ds e (rN X.K (.l xs)) := h
theorem d1_par (i j : Nat) {n1 n2 : Str} {s1 s2 : Sl} {kt k2 : Nat} {pt2 : Pos} (hc : X.calm = true) (hN : X.N.Nodup) (ha : DG X M.O ds a (rN X.K s1)) (hb : DG X M.O ds b (rN X.K s2)) (h : C.nx M.O ((ds.set i s1).set j s2)) (hw : swappedStores [.Tuple [.Name n1 p1, .Name n2 p2] kt p3] (.Tuple [a, b] k2 pt2) X.env = pure (some [n1, n2]))
    (hij : i ≠ j := by decide) (hi : X.N[i]? = some n1 := by rfl) (hj : X.N[j]? = some n2 := by rfl) (hx : X.env.scope.names.lookup n1 = some .local := by rfl) (hy : X.env.scope.names.lookup n2 = some .local := by rfl)
    (hs : swapsWithSole [.Tuple [.Name n1 p1, .Name n2 p2] kt p3] (.Tuple [a, b] k2 pt2) pos.line X.env = pure false := by rfl)
    (h1 : starEach [a, b] X.env = (false, eval a X.env) :: starEach [b] X.env := by rfl) (h2 : starEach [b] X.env = (false, eval b X.env) :: starEach [] X.env := by rfl) :
    D1 X M ds (.Assign [.Tuple [.Name n1 p1, .Name n2 p2] kt p3] (.Tuple [a, b] k2 pt2) pos) C :=
  ps_mono (ps_par hc hN hi hj hij hx hy (pa_cons ha (pa_cons hb pa_nil h2) h1) hw hs) fun D σ H ⟨F, at_, q1, _⟩ => ⟨F, at_.st, fun v F1 H1 g1 j1 r1 => ⟨F1, at_.st.grow g1 j1, fun w F2 H2 g2 j2 r2 =>
    ⟨v, w, rfl, q1.here (g1.f.trans g2.f) ((at_.setN (i := i) g1 j1 r1).setN (i := j) g2 j2 r2) h⟩⟩⟩
theorem dw_par (i j : Nat) {n1 n2 : Str} {s1 s2 : Sl} {kt k2 : Nat} {pt2 : Pos} (hc : X.calm = true) (hN : X.N.Nodup) (ha : DG X M.O ds a (rN X.K s1)) (hb : DG X M.O ds b (rN X.K s2)) (h : DW X M ((ds.set i s1).set j s2) rest C) (hw : swappedStores [.Tuple [.Name n1 p1, .Name n2 p2] kt p3] (.Tuple [a, b] k2 pt2) X.env = pure (some [n1, n2]))
    (hij : i ≠ j := by decide) (hi : X.N[i]? = some n1 := by rfl) (hj : X.N[j]? = some n2 := by rfl) (hx : X.env.scope.names.lookup n1 = some .local := by rfl) (hy : X.env.scope.names.lookup n2 = some .local := by rfl)
    (hs : swapsWithSole [.Tuple [.Name n1 p1, .Name n2 p2] kt p3] (.Tuple [a, b] k2 pt2) pos.line X.env = pure false := by rfl)
    (h1 : starEach [a, b] X.env = (false, eval a X.env) :: starEach [b] X.env := by rfl) (h2 : starEach [b] X.env = (false, eval b X.env) :: starEach [] X.env := by rfl) :
    DW X M ds (.Assign [.Tuple [.Name n1 p1, .Name n2 p2] kt p3] (.Tuple [a, b] k2 pt2) pos :: rest) C :=
  dw_seq (N := fun d => d = (ds.set i s1).set j s2) (d1_par i j hc hN ha hb ⟨rfl, rfl⟩ hw hij hi hj hx hy hs h1 h2) fun _ e => e ▸ h

/-! ### raise C(e) -/
theorem d1_raise {Cb fI : Addr} {cn : Str} {k : Nat} {fd : FuncData} {ps : List Str} {sp : Sp} {W : WX} (tk : Takes X W) (hc : X.calm = true) (T : OexC X.K Cb) (iC : PySem.W.findIn X.K (.ref Cb) "__init__" = some (some (.ref fI))) (tI : PySem.W.typeIn X.K (.ref fI) = some (.type "function"))
    (F1 : FnOk X.prog X.w X.K X.mg X.base (L2.CX X.prog X.w) k fI fd ps sp) (hr : Room (k + 1) X.A) (hb : Binds X.K fd ps []) (hm : X.mg cn = some (.ref Cb)) (ha : DX X M.O ds e x)
    (hsp : ∀ (v : V) (a : Addr) (H : Hp) (Q : VK), H a = some (exo a Cb none) → (∀ dx, H dx = none → dx ≠ a → Q .non (upd (upd H dx (exd dx [("place", v)])) a (exo a Cb (some dx)))) → sp [.ref a, v] H Q (fun _ _ _ => False))
    (hE : ∀ σ F H dx v F' H', At X.K M F σ H ds → Grow M.O F H F' H' → Dp X.K F' v x → H dx = none → F' dx = none → H' dx = some (.xd [("place", v)]) → W (.ref Cb) (some dx) σ H')
    (hg : Gl X cn := by rfl) (hdb : (cn == ("__debug__" : Str)) = false := by decide) (he : starEach [e] X.env = (false, eval e X.env) :: starEach [] X.env := by rfl) :
    D1 X M ds (.Raise (some (.Call (.Name cn p) [e] [] p2)) none pos) C := by
  refine ps_mono (ps_raise hc tk (pmk_oex T iC tI F1 hr hb .nil passL hg hm (pa_cons ha pa_nil he) hdb he rfl)) fun D σ H ⟨F, at_, _⟩ => ?_
  refine ⟨F, at_.st, fun v F1 H1 g1 j1 d1 => ⟨by show 1 ≤ 1000; decide, fun a ha => ?_⟩⟩
  refine hsp v a _ _ upd_same fun dx hd hne => ⟨rfl, dx, [("place", v)], upd_same, by rw [upd_ne hne, upd_same], ?_, ?_⟩
  · rw [upd_ne hne] at hd; exact hd
  · have hdx : H1 dx = none := by rw [upd_ne hne] at hd; exact hd
    have e1 : ∀ b, b ≠ dx → upd (del (upd (upd (upd H1 a (exo a Cb none)) dx (exd dx [("place", v)])) a (exo a Cb (some dx))) a) dx (.xd [("place", v)]) b = H1 b := fun b hb => by
      rw [upd_ne hb]
      by_cases z : b = a
      · rw [z, del_same, ha]
      · rw [del_ne z, upd_ne z, upd_ne hb, upd_ne z]
    have eH : upd (del (upd (upd (upd H1 a (exo a Cb none)) dx (exd dx [("place", v)])) a (exo a Cb (some dx))) a) dx (.xd [("place", v)]) = upd H1 dx (.xd [("place", v)]) := by
      funext b
      by_cases z : b = dx
      · rw [z, upd_same, upd_same]
      · rw [e1 b z, upd_ne z]
    rw [eH]
    have hF : F1 dx = none := by
      cases q : F1 dx with
      | none => rfl
      | some u => rw [g1.s dx u q] at hdx; cases hdx
    exact hE σ F H dx v F1 _ at_ (g1.trans (Grow.own g1.s hdx)) d1 (g1.free hdx) hF upd_same
end
end DS
end
section
set_option Elab.async false
set_option linter.all false
set_option maxRecDepth 100000
set_option maxHeartbeats 1000000
/-! The mathematics: what the checks of a grammar say of data. -/
namespace KM
open PySem DS

def LET : Str := "abcdefghijklmnopqrstuvwxyz"
def FIG : Str := "0123456789"
def LETD : Str := "abcdefghijklmnopqrstuvwxyz-"
def LETF : Str := "abcdefghijklmnopqrstuvwxyz0123456789"
theorem letd_eq : LET ++ ("-" : Str) = LETD := by decide +kernel
theorem letf_eq : LET ++ FIG = LETF := by decide +kernel
def KIN : List Str := ["flag", "count", "once", "last", "all", "maybe"]
def ARI : List Str := ["one", "may", "many"]

/-- data that is small enough to be looked at -/
def okN : Nat → PyData → Bool
  | _, .none => true
  | _, .bool _ => true
  | _, .int i => decide (i.natAbs ≤ 1000000000)
  | _, .str s => decide (s.length ≤ 100) && PyData.strOk s
  | 0, .list _ => false
  | 0, .tuple _ => false
  | n + 1, .list xs => decide (xs.length ≤ 100) && xs.all (okN n)
  | n + 1, .tuple xs => decide (xs.length ≤ 100) && xs.all (okN n)
  | _, .dict _ => false
theorem okN_str {n : Nat} {s : Str} (h : okN n (.str s) = true) : s.length ≤ 100 ∧ PyData.strOk s = true := by
  cases n <;> · unfold okN at h; simp only [Bool.and_eq_true, decide_eq_true_eq] at h; exact h
theorem okN_tup {n : Nat} {xs : List PyData} (h : okN n (.tuple xs) = true) : ∃ m, n = m + 1 ∧ xs.length ≤ 100 ∧ ∀ x ∈ xs, okN m x = true := by
  cases n with
  | zero => unfold okN at h; cases h
  | succ m =>
    unfold okN at h
    simp only [Bool.and_eq_true, decide_eq_true_eq, List.all_eq_true] at h
    exact ⟨m, rfl, h.1, h.2⟩
theorem okN_lst {n : Nat} {xs : List PyData} (h : okN n (.list xs) = true) : ∃ m, n = m + 1 ∧ xs.length ≤ 100 ∧ ∀ x ∈ xs, okN m x = true := by
  cases n with
  | zero => unfold okN at h; cases h
  | succ m =>
    unfold okN at h
    simp only [Bool.and_eq_true, decide_eq_true_eq, List.all_eq_true] at h
    exact ⟨m, rfl, h.1, h.2⟩
theorem okN_succ : ∀ (n : Nat) (d : PyData), okN n d = true → okN (n + 1) d = true
  | n, .none, _ => by cases n <;> rfl
  | n, .bool _, _ => by cases n <;> rfl
  | n, .int i, h => by cases n <;> (unfold okN at h ⊢; exact h)
  | n, .str s, h => by cases n <;> (unfold okN at h ⊢; exact h)
  | 0, .list _, h => by unfold okN at h; cases h
  | 0, .tuple _, h => by unfold okN at h; cases h
  | n + 1, .list xs, h => by
    unfold okN at h ⊢
    simp only [Bool.and_eq_true, decide_eq_true_eq, List.all_eq_true] at h ⊢
    exact ⟨h.1, fun x hx => okN_succ n x (h.2 x hx)⟩
  | n + 1, .tuple xs, h => by
    unfold okN at h ⊢
    simp only [Bool.and_eq_true, decide_eq_true_eq, List.all_eq_true] at h ⊢
    exact ⟨h.1, fun x hx => okN_succ n x (h.2 x hx)⟩
  | n, .dict _, h => by cases n <;> (unfold okN at h; cases h)
theorem okN_mono {n m : Nat} {d : PyData} (hm : n ≤ m) (h : okN n d = true) : okN m d = true := by
  induction hm with
  | refl => exact h
  | step _ ih => exact okN_succ _ _ ih
theorem canLayAll_of {xs : List PyData} (h : ∀ x ∈ xs, x.canLay0 = true) : PyData.canLayAll0 xs = true := by
  induction xs with
  | nil => simp only [PyData.canLayAll0]
  | cons x xs ih =>
    simp only [PyData.canLayAll0, Bool.and_eq_true]
    exact ⟨h x List.mem_cons_self, ih fun y hy => h y (List.mem_cons_of_mem _ hy)⟩
theorem okN_lay : ∀ (n : Nat) (d : PyData), okN n d = true → d.canLay0 = true
  | _, .none, _ => by simp only [PyData.canLay0]
  | _, .bool _, _ => by simp only [PyData.canLay0]
  | _, .int i, h => by simp only [PyData.canLay0]
  | n, .str s, h => by simp only [PyData.canLay0]; exact (okN_str h).2
  | 0, .list _, h => by unfold okN at h; cases h
  | 0, .tuple _, h => by unfold okN at h; cases h
  | n + 1, .list xs, h => by
    unfold okN at h
    simp only [Bool.and_eq_true, decide_eq_true_eq, List.all_eq_true] at h
    simp only [PyData.canLay0]
    exact canLayAll_of fun x hx => okN_lay n x (h.2 x hx)
  | n + 1, .tuple xs, h => by
    unfold okN at h
    simp only [Bool.and_eq_true, decide_eq_true_eq, List.all_eq_true] at h
    simp only [PyData.canLay0]
    exact canLayAll_of fun x hx => okN_lay n x (h.2 x hx)
  | n, .dict _, h => by cases n <;> (unfold okN at h; cases h)
theorem depthAll_le {xs : List PyData} {n : Nat} (h : ∀ x ∈ xs, x.depth ≤ n) : PyData.depthAll xs ≤ n := by
  induction xs with
  | nil => simp only [PyData.depthAll]; exact Nat.zero_le _
  | cons x xs ih =>
    simp only [PyData.depthAll]
    exact Nat.max_le.mpr ⟨h x List.mem_cons_self, ih fun y hy => h y (List.mem_cons_of_mem _ hy)⟩
theorem okN_depth : ∀ (n : Nat) (d : PyData), okN n d = true → d.depth ≤ n
  | _, .none, _ => by simp only [PyData.depth]; exact Nat.zero_le _
  | _, .bool _, _ => by simp only [PyData.depth]; exact Nat.zero_le _
  | _, .int i, h => by simp only [PyData.depth]; exact Nat.zero_le _
  | n, .str s, h => by simp only [PyData.depth]; exact Nat.zero_le _
  | 0, .list _, h => by unfold okN at h; cases h
  | 0, .tuple _, h => by unfold okN at h; cases h
  | n + 1, .list xs, h => by
    unfold okN at h
    simp only [Bool.and_eq_true, decide_eq_true_eq, List.all_eq_true] at h
    simp only [PyData.depth]
    exact Nat.succ_le_succ (depthAll_le fun x hx => okN_depth n x (h.2 x hx))
  | n + 1, .tuple xs, h => by
    unfold okN at h
    simp only [Bool.and_eq_true, decide_eq_true_eq, List.all_eq_true] at h
    simp only [PyData.depth]
    exact Nat.succ_le_succ (depthAll_le fun x hx => okN_depth n x (h.2 x hx))
  | n, .dict _, h => by cases n <;> (unfold okN at h; cases h)
/-- small: depth at most 10 -/
abbrev ok (d : PyData) : Prop := okN 10 d = true
theorem ok_shaped {n : Nat} {d : PyData} (h : okN n d = true) (hn : n ≤ 64) : SeqAt.shaped d = true := by
  unfold SeqAt.shaped
  rw [okN_lay n d h, Bool.true_and]
  exact decide_eq_true (Nat.le_trans (okN_depth n d h) hn)
theorem ok_item {xs : List PyData} {x : PyData} (h : ok (.tuple xs)) (hx : x ∈ xs) : ok x := by
  obtain ⟨m, hm, _, h2⟩ := okN_tup h
  exact okN_mono (by omega) (h2 x hx)
theorem ok_len {xs : List PyData} (h : ok (.tuple xs)) : xs.length ≤ 100 := let ⟨_, _, h1, _⟩ := okN_tup h; h1

/-! ### texts -/
/-- a text of some signs, so many at least and at most -/
def isOf (x : PyData) (sg : Str) (lo hi : Int) : Bool := match x with
  | .str s => (decide (lo ≤ (s.length : Int)) && decide ((s.length : Int) ≤ hi)) && s.cps.toList.all (fun c => decide (c ∈ sg.cps.toList))
  | _ => false
def sgn (c : Nat) : Str := ⟨#[c]⟩
def headS (x : PyData) : Str := match x with
  | .str s => sgn (s.cps.toList.getD 0 0)
  | _ => Str.empty
def lastS (x : PyData) : Str := match x with
  | .str s => sgn (s.cps.toList.getD (s.length - 1) 0)
  | _ => Str.empty
def isName (x : PyData) : Bool := isOf x LETD 2 12 && (!decide (headS x = "-") && !decide (lastS x = "-"))
def isLetter (x : PyData) : Bool := match x with
  | .str s => decide ((s.length : Int) = 1) && decide (s.cps.toList.getD 0 0 ∈ LETF.cps.toList)
  | _ => false
def letOk (x : PyData) : Bool := isOf x LETF 0 1
def inKin (x : PyData) : Bool := match x with
  | .str s => decide (s ∈ KIN)
  | _ => false
def inAri (x : PyData) : Bool := match x with
  | .str s => decide (s ∈ ARI)
  | _ => false
def isOption (x : PyData) : Bool := match x with
  | .tuple [a, b, c] => isName a && (letOk b && inKin c)
  | _ => false
def isPlace (x : PyData) : Bool := match x with
  | .tuple [a, b] => isName a && inAri b
  | _ => false
theorem eqv_str (x : PyData) (s : Str) : PyData.eqv x (.str s) = (match x with | .str t => decide (t = s) | _ => false) := by
  cases x <;> simp [PyData.eqv, Bool.beq_eq_decide_eq]
theorem str_nil {s : Str} (h : s.length = 0) : s = Str.empty := by
  obtain ⟨c⟩ := s
  have : c = #[] := by
    have h' : c.size = 0 := h
    exact Array.eq_empty_of_size_eq_zero h'
  rw [this] <;> rfl
theorem empty_eq : Str.empty = ("" : Str) := by decide +kernel
theorem letter_ok (x : PyData) : (PyData.eqv x (.str "") || isLetter x) = letOk x := by
  rw [eqv_str]
  cases x with
  | str s =>
    simp only [isLetter, letOk, isOf]
    by_cases h0 : s.length = 0
    · have := str_nil h0
      subst this
      rw [empty_eq]
      decide +kernel
    · have hne : s ≠ ("" : Str) := fun e => h0 (by rw [e]; decide +kernel)
      rw [decide_eq_false hne, Bool.false_or, decide_eq_true (show (0 : Int) ≤ (s.length : Int) by omega), Bool.true_and]
      by_cases h1 : s.length = 1
      · rw [decide_eq_true (show (s.length : Int) = 1 by omega), decide_eq_true (show (s.length : Int) ≤ 1 by omega), Bool.true_and, Bool.true_and]
        obtain ⟨⟨l⟩⟩ := s
        match l, h1 with
        | [a], _ => simp
      · rw [decide_eq_false (show ¬ (s.length : Int) = 1 by omega), decide_eq_false (show ¬ (s.length : Int) ≤ 1 by omega), Bool.false_and, Bool.false_and]
  | none => rfl
  | bool _ => rfl
  | int _ => rfl
  | list _ => rfl
  | tuple _ => rfl
  | dict _ => rfl
theorem isName_str {x : PyData} (h : isName x = true) : ∃ s, x = .str s ∧ 2 ≤ s.length ∧ s.length ≤ 12 := by
  unfold isName at h
  rw [Bool.and_eq_true] at h
  have h1 := h.1
  cases x with
  | str s =>
    unfold isOf at h1
    simp only [Bool.and_eq_true, decide_eq_true_eq] at h1
    exact ⟨s, rfl, by omega, by omega⟩
  | _ => exact absurd h1 (by simp [isOf])
theorem letOk_str {x : PyData} (h : letOk x = true) : ∃ s, x = .str s ∧ s.length ≤ 1 := by
  unfold letOk at h
  cases x with
  | str s =>
    unfold isOf at h
    simp only [Bool.and_eq_true, decide_eq_true_eq] at h
    exact ⟨s, rfl, by omega⟩
  | _ => exact absurd h (by simp [isOf])
theorem inAri_str {x : PyData} (h : inAri x = true) : ∃ s, x = .str s ∧ s ∈ ARI := by
  cases x with
  | str s => exact ⟨s, rfl, by simpa [inAri] using h⟩
  | _ => exact absurd h (by simp [inAri])
theorem inKin_str {x : PyData} (h : inKin x = true) : ∃ s, x = .str s ∧ s ∈ KIN := by
  cases x with
  | str s => exact ⟨s, rfl, by simpa [inKin] using h⟩
  | _ => exact absurd h (by simp [inKin])
theorem isOption_tup {x : PyData} (h : isOption x = true) : ∃ a b c, x = .tuple [.str a, .str b, .str c] ∧ isName (.str a) = true ∧ letOk (.str b) = true ∧ c ∈ KIN := by
  unfold isOption at h
  split at h
  · simp only [Bool.and_eq_true] at h
    obtain ⟨h1, h2, h3⟩ := h
    obtain ⟨a, rfl, _⟩ := isName_str h1
    obtain ⟨b, rfl, _⟩ := letOk_str h2
    obtain ⟨c, rfl, hc⟩ := inKin_str h3
    exact ⟨a, b, c, rfl, h1, h2, hc⟩
  · cases h
theorem isPlace_tup {x : PyData} (h : isPlace x = true) : ∃ a b, x = .tuple [.str a, .str b] ∧ isName (.str a) = true ∧ b ∈ ARI := by
  unfold isPlace at h
  split at h
  · simp only [Bool.and_eq_true] at h
    obtain ⟨h1, h2⟩ := h
    obtain ⟨a, rfl, _⟩ := isName_str h1
    obtain ⟨b, rfl, hb⟩ := inAri_str h2
    exact ⟨a, b, rfl, h1, hb⟩
  · cases h

/-! ### faults -/
/-- the i-th text of a tuple -/
def txt (i : Nat) (x : PyData) : Str := match x with
  | .tuple xs => (match xs[i]? with
    | some (.str s) => s
    | _ => Str.empty)
  | _ => Str.empty
def optF : List PyData → Nat → List Str → List Str → PyData
  | [], _, _, _ => .none
  | o :: r, n, ns, ls => if isOption o = true ∧ txt 0 o ∉ ns ∧ txt 1 o ∉ ls then optF r (n + 1) (ns ++ [txt 0 o]) (if txt 1 o = "" then ls else ls ++ [txt 1 o]) else .tuple [.str "options", .int (n : Int)]
def plaF : List PyData → Nat → List Str → Bool → PyData
  | [], _, _, _ => .none
  | o :: r, n, ns, m => if isPlace o = true ∧ txt 0 o ∉ ns ∧ ¬ (m = true ∧ txt 1 o = "many") then plaF r (n + 1) (ns ++ [txt 0 o]) (m || decide (txt 1 o = "many")) else .tuple [.str "places", .int (n : Int)]
def optionFault (d : PyData) : PyData := match d with
  | .tuple os => if os.length > 24 then .tuple [.str "options"] else optF os 0 [] []
  | _ => .tuple [.str "options"]
def placeFault (d : PyData) : PyData := match d with
  | .tuple os => if os.length > 5 then .tuple [.str "places"] else plaF os 0 [] false
  | _ => .tuple [.str "places"]
def modesOk (d : PyData) : Bool := match d with
  | .tuple [a, b, c] => isBool a && (isBool b && isBool c)
  | _ => false
def fault (d : PyData) : PyData := match d with
  | .tuple [o, p, m] => if isNone (optionFault o) = false then optionFault o else if isNone (placeFault p) = false then placeFault p else if modesOk m = true then .none else .tuple [.str "modes"]
  | _ => .tuple []
end KM
end
section
set_option Elab.async false
set_option linter.all false
set_option maxRecDepth 100000
set_option maxHeartbeats 1000000
/-! The text: the defs by their places. (printed by gen_text.py) -/
namespace KT
open PySem L2
def topS (i : Nat) : Stmt := PySem.Challenge.pw_keptlines_k18_whole_tellings_and_numbers.main.body.getD i (.Pass ⟨0, 0, 0, 0⟩)
abbrev s_is_of : Stmt := topS 12
abbrev N_is_of : List Str := ["thing", "signs", "least", "most", "sign"]
theorem sc_is_of : FnScope N_is_of ["thing", "signs", "least", "most"] (defScope s_is_of) := ⟨rfl, rfl, rfl, by decide +kernel, rfl, by decide +kernel, by decide +kernel⟩
abbrev s_is_name : Stmt := topS 13
abbrev N_is_name : List Str := ["thing"]
theorem sc_is_name : FnScope N_is_name ["thing"] (defScope s_is_name) := ⟨rfl, rfl, rfl, by decide +kernel, rfl, by decide +kernel, by decide +kernel⟩
abbrev s_is_letter : Stmt := topS 20
abbrev N_is_letter : List Str := ["thing"]
theorem sc_is_letter : FnScope N_is_letter ["thing"] (defScope s_is_letter) := ⟨rfl, rfl, rfl, by decide +kernel, rfl, by decide +kernel, by decide +kernel⟩
abbrev s_is_option : Stmt := topS 21
abbrev N_is_option : List Str := ["thing", "name", "letter", "kind"]
theorem sc_is_option : FnScope N_is_option ["thing"] (defScope s_is_option) := ⟨rfl, rfl, rfl, by decide +kernel, rfl, by decide +kernel, by decide +kernel⟩
abbrev s_is_place : Stmt := topS 22
abbrev N_is_place : List Str := ["thing"]
theorem sc_is_place : FnScope N_is_place ["thing"] (defScope s_is_place) := ⟨rfl, rfl, rfl, by decide +kernel, rfl, by decide +kernel, by decide +kernel⟩
abbrev s_option_fault : Stmt := topS 23
abbrev N_option_fault : List Str := ["options", "names", "letters", "number", "option"]
theorem sc_option_fault : FnScope N_option_fault ["options"] (defScope s_option_fault) := ⟨rfl, rfl, rfl, by decide +kernel, rfl, by decide +kernel, by decide +kernel⟩
abbrev s_place_fault : Stmt := topS 24
abbrev N_place_fault : List Str := ["places", "names", "has_many", "number", "place"]
theorem sc_place_fault : FnScope N_place_fault ["places"] (defScope s_place_fault) := ⟨rfl, rfl, rfl, by decide +kernel, rfl, by decide +kernel, by decide +kernel⟩
abbrev s_fault : Stmt := topS 25
abbrev N_fault : List Str := ["thing", "found", "options", "places", "modes", "mode"]
theorem sc_fault : FnScope N_fault ["thing"] (defScope s_fault) := ⟨rfl, rfl, rfl, by decide +kernel, rfl, by decide +kernel, by decide +kernel⟩
abbrev s_need_grammar : Stmt := topS 26
abbrev N_need_grammar : List Str := ["thing", "place"]
theorem sc_need_grammar : FnScope N_need_grammar ["thing"] (defScope s_need_grammar) := ⟨rfl, rfl, rfl, by decide +kernel, rfl, by decide +kernel, by decide +kernel⟩
abbrev s_option_told : Stmt := topS 27
abbrev N_option_told : List Str := ["grammar", "text", "option", "some"]
theorem sc_option_told : FnScope N_option_told ["grammar", "text"] (defScope s_option_told) := ⟨rfl, rfl, rfl, by decide +kernel, rfl, by decide +kernel, by decide +kernel⟩
abbrev s_tellings_of : Stmt := topS 28
abbrev N_tellings_of : List Str := ["grammar", "some", "found", "text", "option", "many"]
theorem sc_tellings_of : FnScope N_tellings_of ["grammar"] (defScope s_tellings_of) := ⟨rfl, rfl, rfl, by decide +kernel, rfl, by decide +kernel, by decide +kernel⟩
abbrev s_tellings : Stmt := topS 29
abbrev N_tellings : List Str := ["grammar"]
theorem sc_tellings : FnScope N_tellings ["grammar"] (defScope s_tellings) := ⟨rfl, rfl, rfl, by decide +kernel, rfl, by decide +kernel, by decide +kernel⟩
abbrev s_numbers_of : Stmt := topS 30
abbrev N_numbers_of : List Str := ["grammar", "arities", "least", "place"]
theorem sc_numbers_of : FnScope N_numbers_of ["grammar"] (defScope s_numbers_of) := ⟨rfl, rfl, rfl, by decide +kernel, rfl, by decide +kernel, by decide +kernel⟩
abbrev s_numbers : Stmt := topS 31
abbrev N_numbers : List Str := ["grammar"]
theorem sc_numbers : FnScope N_numbers ["grammar"] (defScope s_numbers) := ⟨rfl, rfl, rfl, by decide +kernel, rfl, by decide +kernel, by decide +kernel⟩
abbrev s_with_options : Stmt := topS 32
abbrev N_with_options : List Str := ["grammar", "options", "own", "places", "modes"]
theorem sc_with_options : FnScope N_with_options ["grammar", "options"] (defScope s_with_options) := ⟨rfl, rfl, rfl, by decide +kernel, rfl, by decide +kernel, by decide +kernel⟩
abbrev s_law_mixed : Stmt := topS 34
abbrev N_law_mixed : List Str := ["cell", "k"]
theorem sc_law_mixed : FnScope N_law_mixed ["cell", "k"] (defScope s_law_mixed) := ⟨rfl, rfl, rfl, by decide +kernel, rfl, by decide +kernel, by decide +kernel⟩
abbrev s_law_begin : Stmt := topS 35
abbrev N_law_begin : List Str := ["script", "cells", "cell"]
theorem sc_law_begin : FnScope N_law_begin ["script"] (defScope s_law_begin) := ⟨rfl, rfl, rfl, by decide +kernel, rfl, by decide +kernel, by decide +kernel⟩
abbrev s_law_draw : Stmt := topS 36
abbrev N_law_draw : List Str := ["state", "many", "at", "place", "left", "number"]
theorem sc_law_draw : FnScope N_law_draw ["state", "many"] (defScope s_law_draw) := ⟨rfl, rfl, rfl, by decide +kernel, rfl, by decide +kernel, by decide +kernel⟩
abbrev s_law_of : Stmt := topS 37
abbrev N_law_of : List Str := ["state", "some"]
theorem sc_law_of : FnScope N_law_of ["state", "some"] (defScope s_law_of) := ⟨rfl, rfl, rfl, by decide +kernel, rfl, by decide +kernel, by decide +kernel⟩
abbrev s_law_option_name : Stmt := topS 38
abbrev N_law_option_name : List Str := ["state", "letters", "inner", "k"]
theorem sc_law_option_name : FnScope N_law_option_name ["state"] (defScope s_law_option_name) := ⟨rfl, rfl, rfl, by decide +kernel, rfl, by decide +kernel, by decide +kernel⟩
abbrev s_law_letter : Stmt := topS 39
abbrev N_law_letter : List Str := ["state", "way"]
theorem sc_law_letter : FnScope N_law_letter ["state"] (defScope s_law_letter) := ⟨rfl, rfl, rfl, by decide +kernel, rfl, by decide +kernel, by decide +kernel⟩
abbrev s_law_more : Stmt := topS 40
abbrev N_law_more : List Str := ["state", "options", "many", "found", "k", "is_taken", "letter", "kind", "name", "one"]
theorem sc_law_more : FnScope N_law_more ["state", "options", "many"] (defScope s_law_more) := ⟨rfl, rfl, rfl, by decide +kernel, rfl, by decide +kernel, by decide +kernel⟩
abbrev s_law_places : Stmt := topS 41
abbrev N_law_places : List Str := ["state", "k", "found", "many", "arity"]
theorem sc_law_places : FnScope N_law_places ["state"] (defScope s_law_places) := ⟨rfl, rfl, rfl, by decide +kernel, rfl, by decide +kernel, by decide +kernel⟩
abbrev s_law_grammar : Stmt := topS 42
abbrev N_law_grammar : List Str := ["state", "most", "options", "modes", "k"]
theorem sc_law_grammar : FnScope N_law_grammar ["state", "most"] (defScope s_law_grammar) := ⟨rfl, rfl, rfl, by decide +kernel, rfl, by decide +kernel, by decide +kernel⟩
abbrev s_law_is_of : Stmt := topS 43
abbrev N_law_is_of : List Str := ["thing", "signs", "low", "high", "sign"]
theorem sc_law_is_of : FnScope N_law_is_of ["thing", "signs", "low", "high"] (defScope s_law_is_of) := ⟨rfl, rfl, rfl, by decide +kernel, rfl, by decide +kernel, by decide +kernel⟩
abbrev s_law_is_name : Stmt := topS 44
abbrev N_law_is_name : List Str := ["thing"]
theorem sc_law_is_name : FnScope N_law_is_name ["thing"] (defScope s_law_is_name) := ⟨rfl, rfl, rfl, by decide +kernel, rfl, by decide +kernel, by decide +kernel⟩
abbrev s_law_is_option : Stmt := topS 45
abbrev N_law_is_option : List Str := ["thing"]
theorem sc_law_is_option : FnScope N_law_is_option ["thing"] (defScope s_law_is_option) := ⟨rfl, rfl, rfl, by decide +kernel, rfl, by decide +kernel, by decide +kernel⟩
abbrev s_law_is_place : Stmt := topS 46
abbrev N_law_is_place : List Str := ["thing"]
theorem sc_law_is_place : FnScope N_law_is_place ["thing"] (defScope s_law_is_place) := ⟨rfl, rfl, rfl, by decide +kernel, rfl, by decide +kernel, by decide +kernel⟩
abbrev s_law_first : Stmt := topS 47
abbrev N_law_first : List Str := ["word", "things", "most", "k", "one", "names", "others", "other"]
theorem sc_law_first : FnScope N_law_first ["word", "things", "most"] (defScope s_law_first) := ⟨rfl, rfl, rfl, by decide +kernel, rfl, by decide +kernel, by decide +kernel⟩
abbrev s_law_fault : Stmt := topS 48
abbrev N_law_fault : List Str := ["thing", "found", "is_so", "options", "places", "modes", "one"]
theorem sc_law_fault : FnScope N_law_fault ["thing"] (defScope s_law_fault) := ⟨rfl, rfl, rfl, by decide +kernel, rfl, by decide +kernel, by decide +kernel⟩
abbrev s_law_said : Stmt := topS 49
abbrev N_law_said : List Str := ["call", "e", "kinds", "place", "found", "caught", "word", "is_so"]
theorem sc_law_said : FnScope N_law_said ["call"] (defScope s_law_said) := ⟨rfl, rfl, rfl, by decide +kernel, rfl, by decide +kernel, by decide +kernel⟩
abbrev s_law_tells : Stmt := topS 50
abbrev N_law_tells : List Str := ["grammar", "text", "names", "some", "option", "name"]
theorem sc_law_tells : FnScope N_law_tells ["grammar", "text"] (defScope s_law_tells) := ⟨rfl, rfl, rfl, by decide +kernel, rfl, by decide +kernel, by decide +kernel⟩
abbrev s_law_tellings : Stmt := topS 51
abbrev N_law_tellings : List Str := ["grammar", "some", "name", "letter", "kind", "many", "text"]
theorem sc_law_tellings : FnScope N_law_tellings ["grammar"] (defScope s_law_tellings) := ⟨rfl, rfl, rfl, by decide +kernel, rfl, by decide +kernel, by decide +kernel⟩
abbrev s_law_takes : Stmt := topS 52
abbrev N_law_takes : List Str := ["places", "many", "more", "single", "name", "arity"]
theorem sc_law_takes : FnScope N_law_takes ["places", "many"] (defScope s_law_takes) := ⟨rfl, rfl, rfl, by decide +kernel, rfl, by decide +kernel, by decide +kernel⟩
abbrev s_law_numbers_right : Stmt := topS 53
abbrev N_law_numbers_right : List Str := ["grammar", "found", "many", "low", "greatest"]
theorem sc_law_numbers_right : FnScope N_law_numbers_right ["grammar"] (defScope s_law_numbers_right) := ⟨rfl, rfl, rfl, by decide +kernel, rfl, by decide +kernel, by decide +kernel⟩
abbrev s_law_more_right : Stmt := topS 54
abbrev N_law_more_right : List Str := ["state", "grammar", "more", "thing", "told", "due", "kept", "k"]
theorem sc_law_more_right : FnScope N_law_more_right ["state", "grammar"] (defScope s_law_more_right) := ⟨rfl, rfl, rfl, by decide +kernel, rfl, by decide +kernel, by decide +kernel⟩
abbrev s_law_refused_right : Stmt := topS 55
abbrev N_law_refused_right : List Str := ["grammar", "rows", "options", "places", "modes", "thing", "due", "told"]
theorem sc_law_refused_right : FnScope N_law_refused_right ["grammar"] (defScope s_law_refused_right) := ⟨rfl, rfl, rfl, by decide +kernel, rfl, by decide +kernel, by decide +kernel⟩
abbrev s_law_full_right : Stmt := topS 56
abbrev N_law_full_right : List Str := ["options", "some", "is_short", "grammar", "k"]
theorem sc_law_full_right : FnScope N_law_full_right [] (defScope s_law_full_right) := ⟨rfl, rfl, rfl, by decide +kernel, rfl, by decide +kernel, by decide +kernel⟩
abbrev s_law : Stmt := topS 57
abbrev N_law : List Str := ["script", "state", "turn", "own", "grammar", "due", "found"]
theorem sc_law : FnScope N_law ["script"] (defScope s_law) := ⟨rfl, rfl, rfl, by decide +kernel, rfl, by decide +kernel, by decide +kernel⟩
end KT
end
section
set_option Elab.async false
set_option linter.all false
set_option maxRecDepth 100000
set_option maxHeartbeats 2000000
namespace DS
open PySem PySem.Spec PyProof.Rows L2
open Evl (Ex ex_l ex_t ex_rd)

/-! ### sets of texts -/
def TxE (w : World) (e : Int × Value) (x : Str) : Prop := ∃ tk, e = (hashStr w x, .str x tk)
def SetS (w : World) (h : Heap) (a : Addr) (ss : List Str) : Prop :=
  ∃ o es ep t, h.get? a = some o ∧ o.ExactSet ∧ o.data = .set es ep t ∧ Paired (TxE w) es.toList ss ∧ ss.Nodup ∧ es.size < scanBound ∧ t.fits es.size = true ∧ Ris t.place.toList ∧ (w.params.followText "set-order" = true ∨ t.led = true)
theorem paired_mem {α β : Type} {R : α → β → Prop} : ∀ {xs : List α} {ys : List β}, Paired R xs ys → ∀ x ∈ xs, ∃ y ∈ ys, R x y
  | _, _, .cons h t, x, hx => by
    rcases List.mem_cons.mp hx with e | hx
    · rw [e]; exact ⟨_, List.mem_cons_self, h⟩
    · obtain ⟨y, h1, h2⟩ := paired_mem t x hx
      exact ⟨y, List.mem_cons_of_mem _ h1, h2⟩
theorem paired_mem' {α β : Type} {R : α → β → Prop} : ∀ {xs : List α} {ys : List β}, Paired R xs ys → ∀ y ∈ ys, ∃ x ∈ xs, R x y
  | _, _, .cons h t, x, hx => by
    rcases List.mem_cons.mp hx with e | hx
    · rw [e]; exact ⟨_, List.mem_cons_self, h⟩
    · obtain ⟨y, h1, h2⟩ := paired_mem' t x hx
      exact ⟨y, List.mem_cons_of_mem _ h1, h2⟩
/-- elements in another order -/
theorem paired_perm {α β : Type} {R : α → β → Prop} {xs xs' : List α} (p : xs'.Perm xs) : ∀ {ys : List β}, Paired R xs ys → ∃ ys', Paired R xs' ys' ∧ ys'.Perm ys := by
  induction p with
  | nil => intro ys h; cases h; exact ⟨[], .nil, .nil⟩
  | cons x _ ih =>
    intro ys h
    cases h with
    | cons r t =>
      obtain ⟨ys', h1, h2⟩ := ih t
      exact ⟨_, .cons r h1, h2.cons _⟩
  | swap x y l =>
    intro ys h
    cases h with
    | cons r t =>
      cases t with
      | cons r2 t2 => exact ⟨_, .cons r2 (.cons r t2), .swap _ _ _⟩
  | trans _ _ ih1 ih2 =>
    intro ys h
    obtain ⟨ys1, h1, h2⟩ := ih2 h
    obtain ⟨ys2, h3, h4⟩ := ih1 h1
    exact ⟨ys2, h3, h4.trans h2⟩
section
variable {P : Program} {w : World} {A : Around} {E : Value → Shared → Prop} {s : Shared} {a : Addr} {ss : List Str}
theorem SetS.at (R : SetS w s.heap a ss) {h' : Heap} (k : ∀ o, s.heap.get? a = some o → h'.get? a = some o) : SetS w h' a ss := by
  obtain ⟨o, es, ep, t, ho, r⟩ := R
  exact ⟨o, es, ep, t, k o ho, r⟩
theorem tx_elems {l : List (Int × Value)} (g : Paired (TxE w) l ss) : ElemsOf (strKind P w) l := fun e he => by
  obtain ⟨x, _, tk, rfl⟩ := paired_mem g e he
  exact ⟨⟨x, by show Value.isStrOf x (.str x tk) = true; simp [Value.isStrOf], rfl⟩, rfl⟩
theorem tx_is {e : Int × Value} {x y : Str} (h : TxE w e x) : (strKind P w).is y e.2 = decide (x = y) := by
  obtain ⟨tk, rfl⟩ := h
  show Value.isStrOf y (.str x tk) = _
  simp only [Value.isStrOf]
  by_cases c : x = y
  · subst c; simp
  · simp [c]
/-- the tail of an add: the table is stored, laid anew where it is too full -/
theorem setS_tail {g : Bool → Sem Unit} (hg : ∀ (b : Bool) (s₁ : Shared) (Q' : Unit → Shared → Prop), Q' () s₁ → wpAny (model P w) A (g b) Q' E s₁)
    {o : Obj} {es es1 : Array (Int × Value)} {ep : Nat} {t t2 : SetTable} {s1 : List Str} (ho : s.heap.get? a = some o) (hex : o.ExactSet) (hd : o.data = .set es ep t) (g1 : Paired (TxE w) es1.toList s1) (n1 : s1.Nodup)
    (hb1 : es1.size < scanBound) (hf2 : t2.fits es1.size = true) (hr : Ris t2.place.toList) (hl : w.params.followText "set-order" = true ∨ t2.led = true) {dm : Bool} {R : Option Bool → Shared → Prop}
    (hR : ∀ h' s2, Heap.SameBut a s.heap h' → s2.Perm s1 → SetS w h' a s2 → R (some true) { s with heap := h' }) :
    wpAny (model P w) A (storeSet a es1 t2 >>= fun _ => if (!dm && t2.tooFull) = true then (g (relayAll t2 es1 (SetTable.grown es1.size)).2.2 >>= fun _ => storeSet a (relayAll t2 es1 (SetTable.grown es1.size)).1 (relayAll t2 es1 (SetTable.grown es1.size)).2.1 >>= fun _ => pure (some true)) else pure (some true)) R E s := by
  have hsl : ∀ {n : Nat}, n < scanBound → n ≤ sizeLine := fun h => by have := sizeLine_eq; have : scanBound = 4096 := rfl; omega
  refine wpAny_bind (wpAny_storeSet_of ho hd ?_ (hsl hb1))
  have ho1 := store_at (es' := es1) (t' := t2) ho hd
  by_cases c : (!dm && t2.tooFull) = true
  · rw [if_pos c]
    have pm := relayAll_perm t2 es1 (SetTable.grown es1.size)
    have q1 := relayAll_fits t2 es1 (SetTable.grown es1.size)
    have q2 := relayAll_ris t2 es1 (SetTable.grown es1.size)
    have q3 := relayAll_led t2 es1 (SetTable.grown es1.size)
    obtain ⟨⟨es2, t3, gv⟩, hz⟩ : ∃ z, z = relayAll t2 es1 (SetTable.grown es1.size) := ⟨_, rfl⟩
    rw [← hz] at pm q1 q2 q3 ⊢
    have e2 : es2.size = es1.size := by
      have := pm.length_eq
      rw [Array.length_toList, Array.length_toList] at this
      exact this
    obtain ⟨s2, g2, p2⟩ := paired_perm pm g1
    refine wpAny_bind (hg _ _ _ (wpAny_bind (wpAny_storeSet_of ho1 rfl (wpAny_pure ?_) (hsl (by show es2.size < _; omega)))))
    exact hR _ s2 ((Heap.SameBut.update s.heap a _).trans (Heap.SameBut.update _ a _)) p2 ⟨_, es2, _, t3, store_at ho1 rfl, hex, rfl, g2, p2.nodup_iff.mpr n1, by omega, q1, q2, hl.imp id fun z => q3.trans z⟩
  · rw [if_neg c]
    exact wpAny_pure (hR _ s1 (Heap.SameBut.update s.heap a _) (List.Perm.refl _) ⟨_, es1, _, t2, ho1, hex, rfl, g1, n1, hb1, hf2, hr, hl⟩)
theorem setS_add {x : Str} {tk : Tok} {Q : Bool → Shared → Prop} (R : SetS w s.heap a ss) (room : ss.length + 1 < scanBound)
    (hQ : ∀ h' s2 b, Heap.SameBut a s.heap h' → SetS w h' a s2 → (∀ y, y ∈ s2 ↔ y ∈ ss ∨ y = x) → s2.length ≤ ss.length + 1 → Q b { s with heap := h' }) :
    wpAny (model P w) A (setAddHashed a (.str x tk) (hashStr w x)) Q E s := by
  obtain ⟨o, es, ep, t, ho, hex, hd, g, nd, hb, hf, hr, hl⟩ := id R
  have hlen : es.size = ss.length := by rw [← Array.length_toList, Paired.length g]
  have hkey : (strKind P w).is x (.str x tk) = true := by show Value.isStrOf x (.str x tk) = true; simp [Value.isStrOf]
  have hsc : (Value.str x tk).scannable = true := rfl
  have hel : ElemsOf (strKind P w) es.toList := tx_elems g
  unfold setAddHashed setAddHashedIn setAddByScan
  apply wpAny_holding (wpAny_bind (wpAny_setState_of ho hd hf _))
  simp only [byScan_of hsc hb hel, ↓reduceIte]
  refine wpAny_bind (wpAny_bind (wpAny_rule (wpAny_bind (wpAny_setScan_of (knd := strKind P w) hkey ho hd hf hel ?_))))
  cases hfi : List.findIdx? (fun e => (strKind P w).is x e.2) es.toList with
  | some j =>
    obtain ⟨hj, pj, _⟩ := List.findIdx?_eq_some_iff_getElem.mp hfi
    obtain ⟨y, hy, ty⟩ := paired_mem g _ (List.getElem_mem hj)
    rw [tx_is ty] at pj
    have e := of_decide_eq_true pj
    subst e
    exact wpAny_pure (wpAny_pure (hQ s.heap ss _ (Heap.SameBut.refl a s.heap) R (fun z => ⟨.inl, fun h => h.elim id fun e => e ▸ hy⟩) (Nat.le_succ _)))
  | none =>
    have hn : x ∉ ss := fun z => by
      obtain ⟨e, he, te⟩ := paired_mem' g x z
      have c := List.findIdx?_eq_none_iff.mp hfi e he
      rw [tx_is te] at c
      exact absurd rfl (of_decide_eq_false c)
    have q0 := layNew_perm t es (hashStr w x) (.str x tk)
    have q1 := layNew_fits t es (hashStr w x) (.str x tk)
    have q2 := layNew_ris t es (hashStr w x) (.str x tk) hr
    have q3 := layNew_led t es (hashStr w x) (.str x tk)
    dsimp only
    generalize layNew t es (hashStr w x) (.str x tk) = Z at q0 q1 q2 q3 ⊢
    obtain ⟨es1, t1, dm, gv⟩ := Z
    dsimp only at q0 q1 q2 q3 ⊢
    rw [Array.toList_push] at q0
    have pc : es1.toList.Perm ((hashStr w x, Value.str x tk) :: es.toList) := q0.trans (List.perm_append_singleton _ _)
    obtain ⟨s1, g1, p1⟩ := paired_perm pc (Paired.cons (F := TxE w) ⟨tk, rfl⟩ g)
    have n1 : s1.Nodup := p1.nodup_iff.mpr (List.nodup_cons.mpr ⟨hn, nd⟩)
    have hs1 : es1.size = es.size + 1 := by
      have := pc.length_eq
      rw [Array.length_toList, List.length_cons, Array.length_toList] at this
      exact this
    have fin : ∀ h' s2, Heap.SameBut a s.heap h' → s2.Perm s1 → SetS w h' a s2 → Q true { s with heap := h' } := fun h' s2 sb p2 r =>
      hQ h' s2 true sb r (fun y => by rw [p2.mem_iff, p1.mem_iff, List.mem_cons]; exact Or.comm) (by rw [p2.length_eq, p1.length_eq, List.length_cons]; exact Nat.le_refl _)
    have hgw : ∀ (b : Bool) {s₁ : Shared} {Q' : Unit → Shared → Prop}, Q' () s₁ → wpAny (model P w) A (match b with | true => rule "set.scan.the-table-gave-way" | false => pure ()) Q' E s₁ := fun b s₁ Q' q => by
      cases b
      · exact wpAny_pure q
      · exact wpAny_rule q
    have hb1 : es1.size < scanBound := by rw [hs1, hlen]; exact room
    have hled : w.params.followText "set-order" = true ∨ t1.led = true := hl.imp id fun z => q3.trans z
    refine wpAny_bind (hgw _ ?_)
    by_cases hp : t1.plain = true
    · rw [if_pos hp]
      refine wpAny_bind ?_
      rw [hashByValue_scannable 8 hsc]
      refine wpAny_pure ?_
      refine setS_tail (s1 := s1) ?_ ho hex hd g1 n1 hb1 ?_ ?_ ?_ ?_
      · intro b s₁ Q' q
        cases b
        · exact wpAny_pure q
        · exact wpAny_rule q
      · exact SetTable.fits_plain_off q1
      · exact q2
      · exact hled
      · intro h' s2 sb p2 r
        exact wpAny_pure (fin h' s2 sb p2 r)
    · rw [if_neg hp]
      refine wpAny_bind (wpAny_pure ?_)
      refine setS_tail (s1 := s1) ?_ ho hex hd g1 n1 hb1 ?_ ?_ ?_ ?_
      · intro b s₁ Q' q
        cases b
        · exact wpAny_pure q
        · exact wpAny_rule q
      · exact q1
      · exact q2
      · exact hled
      · intro h' s2 sb p2 r
        exact wpAny_pure (fin h' s2 sb p2 r)
/-- into the loop of set(..) -/
theorem upd_enter {S I : Addr} {R : Result → Shared → Prop} {s1 : Shared} (h : wpAny (model P w) A.in1 (Builtin.«set.update.loop» ⟨[.ref S, .ref I], []⟩) (fun fin s' => match fin with | .done f => R (.ok f) s' | .again c' => c'.quiet = true ∧ codeAny (model P w) A c' R s') (fun e s' => R (.error e) s') s1) :
    codeAny (model P w) A (.builtin "set.update.loop" ⟨[.ref S, .ref I], []⟩) R s1 :=
  codeAny_builtin PyProof.Rows.F.entry_set_update_loop (by rw [Around.under_plainId PyProof.Rows.F.plain_set_update_loop _]; exact h)
/-- the loop of set(..) over texts -/
theorem setS_loop {I : Addr} {fp wr : List Addr} {G : Array GenState → Array GenState → Prop} {n : Nat} {Pv : Nat → Value → Prop} {St : Nat → Shared → Prop} {R : Result → Shared → Prop} (W : WalksS P w A.in1 I fp wr G n Pv St) (S : Addr) (hSf : S ∉ fp) (xs : List Str) (hn : n = xs.length) (hb : n + 1 < scanBound)
    (hv : ∀ i v, Pv i v → ∃ x t, xs[i]? = some x ∧ v = .str x t) (hR : ∀ s' zs, Moved (S :: wr) G s s' → zs.length ≤ n → SetS w s'.heap S zs → (∀ y, y ∈ zs ↔ y ∈ xs) → R (.ok (.ret .none)) s') :
    ∀ (k i : Nat) (s1 : Shared) (zs : List Str), n - i = k → i ≤ n → St i s1 → SetS w s1.heap S zs → zs.length ≤ i → (∀ y, y ∈ zs ↔ y ∈ xs.take i) → Moved (S :: wr) G s s1 →
      codeAny (model P w) A (.builtin "set.update.loop" ⟨[.ref S, .ref I], []⟩) R s1
  | 0, i, s1, zs, hk, hi, hst, hS, hl, hm, mv => by
    have hin : i = n := by omega
    subst hin
    refine upd_enter (wpAny_bind (W.done s1 _ _ hst fun s' m2 => ?_))
    have nw : S ∉ wr := fun h => hSf (W.sub _ h)
    refine wpAny_pure (hR s' zs (Moved.trans W.gtrans mv (m2.mono fun b hb => List.mem_cons_of_mem _ hb)) hl (hS.at fun o e => m2.heap S o nw e) fun y => ?_)
    rw [hm y, List.take_of_length_le (by omega)]
  | k + 1, i, s1, zs, hk, hi, hst, hS, hl, hm, mv => by
    have hlt : i < n := by omega
    have nw : S ∉ wr := fun h => hSf (W.sub _ h)
    refine upd_enter (wpAny_bind (W.item i s1 _ _ hlt hst fun v s' hP hst' m2 => ?_))
    obtain ⟨x, t, hx, rfl⟩ := hv i v hP
    have hS' : SetS w s'.heap S zs := hS.at fun o e => m2.heap S o nw e
    show wpAny _ A.in1 (holding [Value.str x t] (setAdd S (.str x t)) >>= _) _ _ s'
    refine wpAny_bind (wpAny_holding ?_)
    unfold setAdd
    refine wpAny_holding (wpAny_bind (wpAny_pyHash_str ?_))
    refine setS_add (s := { s' with toks := s'.toks + 1 }) hS' (by omega) fun h' s2 b sb r hmem hlen => ?_
    have keepF : ∀ b ∈ fp, ∀ o, s'.heap.get? b = some o → h'.get? b = some o := fun b hb o e => (sb.2 b fun z => hSf (z ▸ hb)).trans e
    refine wpAny_pure ⟨plainId_quiet PyProof.Rows.F.plain_set_update_loop _, setS_loop W S hSf xs hn hb hv hR k (i + 1) _ s2 (by omega) hlt (W.frame _ s' _ _ hst' (Nat.le_succ _) fun b hb o e => keepF b hb o e) r (by omega) (fun y => ?_) ?_⟩
    · rw [hmem y, hm y, List.take_add_one, hx]
      simp
    · refine Moved.trans W.gtrans mv ((m2.mono fun b hb => List.mem_cons_of_mem _ hb).then_heap (Nat.le_succ _) fun b o hb e => (sb.2 b fun z => hb (by rw [z]; exact List.mem_cons_self)).trans e)
theorem setS_fresh (w : World) {h : Heap} {a : Addr} (ho : h.get? a = some { cls := .type "set", dict := none, data := .set #[] 0 (.fresh 0 0 (!w.params.followText "set-order")) }) : SetS w h a [] :=
  ⟨_, #[], 0, _, ho, ⟨rfl, rfl, rfl⟩, rfl, .nil, List.nodup_nil, by decide, by rfl, List.Pairwise.nil, by
    cases c : w.params.followText "set-order"
    · exact .inr rfl
    · exact .inl rfl⟩
/-- the new set gets its texts -/
theorem init_setS {S l : Addr} {items : Array Value} (xs : List Str) {R : Result → Shared → Prop} (hh : A.in1.in1.handled = none) (atS : s.heap.get? S = some { cls := .type "set", dict := none, data := .set #[] 0 (.fresh 0 0 (!w.params.followText "set-order")) }) (hl : s.heap.IsList l items) (hx : Vals (xs.map V.str) items.toList) (room : xs.length + 1 < scanBound)
    (h : ∀ (h' : Heap) (tk : Nat) (zs : List Str), SetS w h' S zs → (∀ y, y ∈ zs ↔ y ∈ xs) → (∀ b o, b ≠ S → s.heap.get? b = some o → h'.get? b = some o) → R (.ok (.ret .none)) { s with heap := h', toks := tk }) :
    wpAny (model P w) A.in1 (Builtin.«set.__init__» ⟨[.ref S, .ref l], []⟩) (fun fin s' => match fin with | .done f => R (.ok f) s' | .again c' => c'.quiet = true ∧ codeAny (model P w) A c' R s') (fun e s' => R (.error e) s') s := by
  obtain ⟨⟨cls, dct, dat, sl⟩, atL, isL, n, its⟩ := hl
  cases (show cls = .type "list" from isL)
  cases (show dat = .seq items n from its)
  have size : items.size = xs.length := (Array.length_toList ..).symm.trans (hx.length.symm.trans (List.length_map ..))
  have isL : s.heap.IsList l items := ⟨_, atL, rfl, n, rfl⟩
  have apart : l ≠ S := by
    rintro rfl
    exact Data.noConfusion (congrArg Obj.data (Option.some.inj (atS.symm.trans atL)))
  have belowS : S < s.heap.objs.size := Heap.lt_size atS
  have belowL : l < s.heap.objs.size := Heap.lt_size atL
  have isSet : s.TypeIs (.ref S) "set" := ⟨_, atS, rfl⟩
  have noDict : (Value.type "list" == Value.type "dict") = false := by decide
  have noSet := PySem.F.sub_list_set
  have noFrozen := PySem.F.sub_list_frozenset
  have texts : ∀ (i : Nat) (v : Value), items[i]? = some v → ∃ x t, xs[i]? = some x ∧ v = .str x t := by
    intro i v at_
    have below : i < xs.length := size ▸ (Array.getElem?_eq_some_iff.mp at_).1
    obtain ⟨u, hu, t, rfl⟩ := hx.get (i := i) (x := V.str xs[i]) (by simp [below])
    exact ⟨xs[i], t, List.getElem?_eq_getElem below, Option.some.inj (at_.symm.trans ((Array.getElem?_toList ..).symm.trans hu))⟩
  have outside : S ∉ [s.heap.objs.size, l] := by
    intro z
    rcases List.mem_cons.mp z with z | z
    · exact Nat.ne_of_lt belowS z
    · exact apart (List.mem_singleton.mp z).symm
  unfold Builtin.«set.__init__» Builtin.Frozenset.updateFrom noKeywords
  generalize turns : pyIter = iter
  wp_walk
  subst turns
  refine wpAny_pyIter_list isL (wpAny_bind (wpAny_runValue ?_))
  refine setS_loop (A := A.in1) (s := { s with heap := s.heap.push { cls := .type "list_iterator", data := .fields #[.ref l, .int 0 0] } }) (Walks.list hh _ l (Nat.ne_of_lt belowL) items).toS S outside xs size (size ▸ room) texts ?_ (items.size - 0) 0 _ [] rfl (Nat.zero_le _)
    ⟨⟨_, Heap.get?_push_size _ rfl, rfl, rfl⟩, isL.push _⟩ (setS_fresh w (Heap.get?_push_of_some _ atS)) (Nat.le_refl _) (fun y => by simp) ⟨fun _ _ _ e => e, rfl, rfl, rfl, Nat.le_refl _⟩
  rintro ⟨h', g, d, tk, o⟩ zs moved - isS same
  cases (show g = s.gens from moved.gens)
  cases (show d = s.drawn from moved.drawn)
  cases (show o = s.os from moved.os)
  suffices done : R (.ok (.ret .none)) { s with heap := h', toks := tk } from wpAny_pure (wpAny_pure done)
  refine h h' tk zs isS same fun b o ne e => moved.heap b o ?_ (Heap.get?_push_of_some _ e)
  intro z
  rcases List.mem_cons.mp z with z | z
  · exact ne z
  · exact Nat.ne_of_lt (Heap.lt_size e) (List.mem_singleton.mp z)
/-- set(a list of texts) -/
theorem call_setS {l : Addr} {items : Array Value} (xs : List Str) {Q : Value → Shared → Prop} (hh : A.handled = none) (hl : s.heap.IsList l items) (hx : Vals (xs.map V.str) items.toList) (hb : xs.length + 1 < scanBound)
    (h : ∀ (h' : Heap) (tk : Nat) (zs : List Str), SetS w h' s.heap.objs.size zs → (∀ y, y ∈ zs ↔ y ∈ xs) → (∀ b o, s.heap.get? b = some o → h'.get? b = some o) → Q (.ref s.heap.objs.size) { s with heap := h', toks := tk }) : wpAny (model P w) A (call (.type "set") [.ref l]) Q E s := by
  let fresh : Obj := { cls := .type "set", dict := none, data := .set #[] 0 (.fresh 0 0 (!w.params.followText "set-order")) }
  have made := PySem.F.called_set
  obtain ⟨top, rest, order⟩ := made.mro
  have f1 := made.made
  have f2 := made.sub
  have f3 := made.notType
  have f4 := made.canCreate
  have f5 := PySem.F.typeCall_set_1 (.ref l)
  refine wpAny_call (codeAny_of_tree (wpAny_pure (a := Fin.again (.builtin "type.__call__" ⟨[.type "set", .ref l], []⟩)) ⟨Code.quiet_builtin _ (by decide +kernel), codeAny_builtin PySem.F.entry_type_call ?_⟩))
  rw [Around.under_plain (weight_type_call_type "set" _ []) rfl]
  repeat any_goals first | assumption | wp_step
  refine codeAny_mono (code_set_led1 _ (E := E) (Q₁ := fun obj s1 => obj = .ref s.heap.objs.size ∧ s1 = { s with heap := s.heap.push fresh }) ⟨rfl, rfl⟩) fun r s1 z => ?_
  match r, z with
  | .error _, z => exact z
  | .ok (.ret _), z =>
    obtain ⟨rfl, rfl⟩ := z
    have atS : (s.heap.push fresh).get? s.heap.objs.size = some fresh := Heap.get?_push_size _ rfl
    have isSet : Shared.TypeIs { s with heap := s.heap.push fresh } (.ref s.heap.objs.size) "set" := ⟨_, atS, rfl⟩
    have f6 := made.init.lookup
    have f7 := made.init.bind (.ref s.heap.objs.size)
    repeat any_goals first | assumption | wp_step
    have filled : codeAny (model P w) A.in1 (.call (.builtin "set.__init__") ⟨[.ref s.heap.objs.size, .ref l], []⟩) (wants (fun r s2 => r = .none ∧ Q (.ref s.heap.objs.size) s2) E) { s with heap := s.heap.push fresh } := codeAny_call_builtin made.init.plain PySem.F.entry_set_init (check_set_init_1 isSet (init_setS (A := A.in1) (s := { s with heap := s.heap.push fresh }) (R := wants (fun r s2 => r = .none ∧ Q (.ref s.heap.objs.size) s2) E) xs (by simp [hh]) atS (hl.push _) hx hb
      fun h' tk zs isS same kept => ⟨rfl, h h' tk zs isS same fun b o e => kept b o (Nat.ne_of_lt (Heap.lt_size e)) (Heap.get?_push_of_some _ e)⟩))
    refine codeAny_mono filled fun r2 s2 z => ?_
    match r2, z with
    | .error _, z => exact z
    | .ok (.ret _), z =>
      obtain ⟨rfl, z⟩ := z
      repeat any_goals first | assumption | wp_step
end
end DS
end
section
set_option Elab.async false
set_option linter.all false
set_option maxRecDepth 100000
set_option maxHeartbeats 2000000
namespace DS
open PySem PySem.Spec PyProof.Rows L2
open Evl (Ex ex_l ex_t ex_rd)

/-! ### texts in their order -/
def leT (a b : Str) : Bool := decide (a.cps.toList ≤ b.cps.toList)
def sortT (ss : List Str) : List Str := ss.mergeSort leT
theorem leT_trans (a b c : Str) (h : leT a b = true) (k : leT b c = true) : leT a c = true := decide_eq_true (List.le_trans (of_decide_eq_true h) (of_decide_eq_true k))
theorem leT_total (a b : Str) : (leT a b || leT b a) = true := by
  rw [Bool.or_eq_true]
  exact (List.le_total a.cps.toList b.cps.toList).imp decide_eq_true decide_eq_true
theorem leT_anti {a b : Str} (h : leT a b = true) (k : leT b a = true) : a = b := by
  have e := List.le_antisymm (of_decide_eq_true h) (of_decide_eq_true k)
  obtain ⟨⟨l⟩⟩ := a
  obtain ⟨⟨m⟩⟩ := b
  have e' : l = m := e
  rw [e']
theorem sortT_sorted (ss : List Str) : (sortT ss).Pairwise (fun a b => leT a b = true) := List.pairwise_mergeSort leT_trans leT_total ss
theorem sortT_perm (ss : List Str) : (sortT ss).Perm ss := List.mergeSort_perm ss leT
theorem sorted_unique : ∀ {xs ys : List Str}, xs.Perm ys → xs.Pairwise (fun a b => leT a b = true) → ys.Pairwise (fun a b => leT a b = true) → xs = ys
  | [], ys, p, _, _ => by rw [List.Perm.nil_eq p]
  | x :: xs, [], p, _, _ => by have := p.length_eq; simp at this
  | x :: xs, y :: ys, p, h1, h2 => by
    obtain ⟨a1, a2⟩ := List.pairwise_cons.mp h1
    obtain ⟨b1, b2⟩ := List.pairwise_cons.mp h2
    have e : x = y := by
      have hx : x ∈ y :: ys := p.mem_iff.mp List.mem_cons_self
      have hy : y ∈ x :: xs := p.mem_iff.mpr List.mem_cons_self
      rcases List.mem_cons.mp hx with e | hx
      · exact e
      · rcases List.mem_cons.mp hy with e | hy
        · exact e.symm
        · exact leT_anti (a1 y hy) (b1 x hx)
    subst e
    rw [sorted_unique ((List.perm_cons _).mp p) a2 b2]
/-- each once -/
def once : List Str → List Str
  | [] => []
  | x :: xs => if x ∈ xs then once xs else x :: once xs
theorem mem_once {y : Str} : ∀ {xs : List Str}, y ∈ once xs ↔ y ∈ xs
  | [] => Iff.rfl
  | x :: xs => by
    have ih := mem_once (y := y) (xs := xs)
    unfold once
    by_cases c : x ∈ xs
    · rw [if_pos c, ih, List.mem_cons]
      exact ⟨.inr, fun h => h.elim (fun e => e ▸ c) id⟩
    · rw [if_neg c, List.mem_cons, List.mem_cons, ih]
theorem once_nodup : ∀ xs : List Str, (once xs).Nodup
  | [] => List.nodup_nil
  | x :: xs => by
    unfold once
    by_cases c : x ∈ xs
    · rw [if_pos c]; exact once_nodup xs
    · rw [if_neg c]; exact List.nodup_cons.mpr ⟨fun h => c (mem_once.mp h), once_nodup xs⟩
/-- the texts, each once, in their order -/
def canon (xs : List Str) : List Str := sortT (once xs)
theorem mem_canon {xs : List Str} {y : Str} : y ∈ canon xs ↔ y ∈ xs := by rw [canon, (sortT_perm _).mem_iff, mem_once]
theorem canon_of {xs zs : List Str} (nd : zs.Nodup) (h : ∀ y, y ∈ zs ↔ y ∈ xs) : sortT zs = canon xs := by
  refine sorted_unique ?_ (sortT_sorted _) (sortT_sorted _)
  refine (sortT_perm _).trans (List.Perm.trans ?_ (sortT_perm _).symm)
  exact (List.perm_ext_iff_of_nodup nd (once_nodup xs)).mpr fun y => by rw [h y, mem_once]
theorem once_len : ∀ xs : List Str, (once xs).length ≤ xs.length
  | [] => Nat.le_refl _
  | x :: xs => by
    have ih := once_len xs
    unfold once
    by_cases c : x ∈ xs
    · rw [if_pos c, List.length_cons]; omega
    · rw [if_neg c, List.length_cons, List.length_cons]; omega
theorem canon_len (xs : List Str) : (canon xs).length ≤ xs.length := by rw [canon, (sortT_perm _).length_eq]; exact once_len xs

section
variable {P : Program} {w : World} {A : Around} {E : Value → Shared → Prop} {s : Shared}
theorem each_txt : ∀ {ss : List Str} {vs : List Value}, Vals (ss.map V.str) vs → PySem.W.EachIs (fun (v : Value) (x : Str) => ∃ t, v = .str x t) vs ss
  | [], _, .nil => .nil
  | _ :: _, _, .cons r t => .cons r (each_txt t)
theorem txt_each : ∀ {ss : List Str} {vs : List Value}, PySem.W.EachIs (fun (v : Value) (x : Str) => ∃ t, v = .str x t) vs ss → Vals (ss.map V.str) vs
  | _, _, .nil => .nil
  | _, _, .cons r t => .cons r (txt_each t)
/-- xs.sort() of a list of texts, however many -/
theorem sort_at {p : Addr} {n : Nat} {vs : List Value} {ss : List Str} {Q : Value → Shared → Prop} (ho : s.heap.get? p = some (seqObj "list" vs.toArray n)) (hv : Vals (ss.map V.str) vs) (hL : ss.length ≤ sizeLine) (hu : A.units + 2 < cLine)
    (h : ∀ out, Vals ((sortT ss).map V.str) out → Q .none { s with heap := sortedHeap s.heap p vs out.toArray }) : wpAny (model P w) A (call (.builtin "list.sort") [.ref p]) Q E s := by
  refine PySem.W.list_sort_data (enc := PyData.str) ho (each_txt hv) ((each_txt hv).mono fun v x ⟨t, e⟩ => ⟨[], by rw [e]; exact .str x t, by simp⟩) (PySem.W.AllAlike.of fun _ _ => rfl) (PySem.W.Sortable.others fun b => ⟨(by intro z; cases z), (by intro _ z; cases z)⟩) hL (fun b _ => by show _ + 0 < _; omega) fun out hl he => ?_
  have e : PySem.W.dataLe false (fun b => PyData.str b) = leT := PySem.W.dataLe_str id
  have he' : PySem.W.EachIs (fun (v : Value) (x : Str) => ∃ t, v = .str x t) out (ss.mergeSort leT) := by rw [← e]; exact he
  exact h out (txt_each he')
end
theorem txe_vals {w : World} : ∀ {l : List (Int × Value)} {zs : List Str}, Paired (TxE w) l zs → Paired (fun (v : Value) (x : Str) => ∃ t, v = .str x t) (l.map (·.2)) zs
  | _, _, .nil => .nil
  | _, _, .cons ⟨tk, e⟩ t => .cons ⟨tk, by rw [e]⟩ (txe_vals t)
theorem vals_txt : ∀ {vs : List Value} {zs : List Str}, Paired (fun (v : Value) (x : Str) => ∃ t, v = .str x t) vs zs → Vals (zs.map V.str) vs
  | _, _, .nil => .nil
  | _, _, .cons h t => .cons h (vals_txt t)
section
variable {X : Cx}
/-- what is gathered, sorted -/
theorem sorted_tail {pins : List (Addr × Obj)} {σ : L2.St} {H : Hp} {s1 : Shared} {acc : List Value} {ss : List Str} {Q : VK} (I1 : Inv X pins σ H s1) (hv : Vals (ss.map V.str) acc) (hL : ss.length ≤ sizeLine) (hu : X.A.units + 64 < cLine)
    (q : ∀ p, H p = none → Q (.ref p) (upd H p (.lst ((sortT ss).map V.str)))) :
    wpAny (model X.prog X.w) X.A.in1 (newList acc >>= fun l => holding [l] (call (.builtin "list.sort") [l]) >>= fun _ => ret l) (fun fin s' => ∃ v, fin = .done (.ret v) ∧ EP X pins σ Q v s') X.xe s1 := by
  have hlen : acc.length = ss.length := by rw [← Paired.length hv, List.length_map]
  refine wpAny_bind (wpAny_newList ?_ (by rw [hlen]; exact hL))
  have hoL : (s1.heap.push (seqObj "list" acc.toArray 0)).get? s1.heap.objs.size = some (seqObj "list" acc.toArray 0) := Heap.get?_push_size _ rfl
  refine wpAny_bind (wpAny_holding (sort_at (s := { s1 with heap := s1.heap.push (seqObj "list" acc.toArray 0) }) hoL hv hL (by show X.A.units + 1 + 2 < _; omega) fun out ho => ?_))
  obtain ⟨c, hc⟩ := sortedHeap_at (vs := acc) (out := out.toArray) hoL
  refine wpAny_pure ⟨_, rfl, .ref s1.heap.objs.size, _, I1.laid (t' := s1.toks) (fun b u e => ?_) (Nat.le_refl _) (show ObjOk X.prog X.w _ _ _ (.lst ((sortT ss).map V.str)) from ⟨by rw [List.length_map, (sortT_perm ss).length_eq]; exact hL, out, c, ho, hc⟩), rfl, q _ (I1.hok.fresh (Nat.le_refl _))⟩
  have hb : b < s1.heap.objs.size := Heap.lt_size e
  rw [sortedHeap_old (Nat.ne_of_lt hb) (by rw [size_push']; exact Nat.lt_succ_of_lt hb)]
  exact Heap.get?_push_of_some _ e
/-- the set of texts at a, as it is tracked -/
def SetO (w : World) (a : Addr) (ss : List Str) : HO := .ext fun h => SetS w h a ss
theorem call_setL (hc : X.calm = true) : CallR X (.type "set") (fun xs H Q => ∃ (l : Addr) (ss : List Str), xs = [.ref l] ∧ SqL X.K H l (ss.map V.str) ∧ ss.length + 1 < scanBound ∧ ∀ p zs, zs.Nodup → (∀ y, y ∈ zs ↔ y ∈ ss) → H p = none → Q (.ref p) (upd H p (SetO X.w p zs))) := by
  intro pins s σ H xs us Q I r h
  obtain ⟨l, ss, rfl, hs, hb, q⟩ := h
  obtain ⟨u, rfl, rx⟩ := r.one
  cases rx
  obtain ⟨its, rv, pl, hz⟩ := I.list hs
  refine call_setS ss (I.ok.hd hc) pl.isList rv hb fun h' tk zs hS hm hk => ?_
  have hnd : zs.Nodup := by obtain ⟨_, _, _, _, _, _, _, _, n, _⟩ := hS; exact n
  refine ⟨.ref s.heap.objs.size, _, I.laid (t' := tk) (a := s.heap.objs.size) (o := SetO X.w s.heap.objs.size zs) hk (Nat.le_refl _) ?_, rfl, q _ zs hnd hm (I.hok.fresh (Nat.le_refl _))⟩
  refine ⟨hS, ?_, fun h1 h2 z k => ?_⟩
  · obtain ⟨o, _, _, _, e, _⟩ := hS
    exact ⟨o, e⟩
  · obtain ⟨o, es, ep, t, e, r⟩ := z
    exact ⟨o, es, ep, t, k _ e, r⟩
/-- into the body of sorted(v) -/
theorem sorted_enter {prog : Program} {w : World} {A : Around} {E : Value → Shared → Prop} {s : Shared} {Q : Value → Shared → Prop} {v : Value}
    (h : wpAny (model prog w) A.in1 (collect v) (fun items s1 => wpAny (model prog w) A.in1 (do let l ← newList items; let _ ← holding [l] (call (.builtin "list.sort") [l] []); ret l) (fun fin s' => ∃ u, fin = .done (.ret u) ∧ Q u s') E s1) E s) :
    wpAny (model prog w) A (call (.builtin "sorted") [v]) Q E s :=
  Calls.call_function_entry PyProof.Rows.kind_sorted PyProof.Rows.plain_sorted PyProof.Rows.entry_sorted (PyProof.Rows.args_sorted1 _) (by
    unfold Builtin.«sorted»
    exact wpAny_bind (m := checkCount "sorted" 1 1 _) (wpAny_pure (wpAny_bind h)))
theorem call_sortedS (hc : X.calm = true) (hu : X.A.units + 64 < cLine) : CallR X (.builtin "sorted") (fun xs H Q => ∃ (a : Addr) (zs : List Str), xs = [.ref a] ∧ H a = some (SetO X.w a zs) ∧ zs.length ≤ sizeLine ∧ ∀ p, H p = none → Q (.ref p) (upd H p (.lst ((sortT zs).map V.str)))) := by
  rintro pins s σ H _ us Q I r ⟨a, zs, rfl, ha, hL, q⟩
  obtain ⟨_, rfl, ⟨⟩⟩ := r.one
  obtain ⟨o, es, ep, t, ho, hex, hd, g, nd, hb, hf, hr, hl⟩ : SetS X.w s.heap a zs := (I.hok a _ ha).1
  refine sorted_enter (collect_set (A := X.A.in1) (I.ok.hd hc) ⟨o, ho, hex.1, hd⟩ hf hb hr hl fun s1 vs k1 hz g1 o1 pm => ?_)
  have hv : ∃ ss : List Str, Vals (ss.map V.str) vs ∧ ss.Perm zs := by
    obtain ⟨ss, h1, h2⟩ := paired_perm pm (txe_vals g)
    exact ⟨ss, vals_txt h1, h2⟩
  obtain ⟨ss, hv, hp⟩ := hv
  have I1 : Inv X pins σ H s1 := by
    obtain ⟨h1, gg, dd, tt, oo⟩ := s1
    have e1 : gg = s.gens := g1
    have e2 : oo = s.os := o1
    subst e1 e2
    exact I.call (ch := []) (h' := h1) (g' := s.gens) (d' := dd) (t' := tt) (H' := H) (Un.kept k1) (I.hok.kept k1) I.bare (fun _ z => nomatch z)
  have e : sortT ss = sortT zs := sorted_unique ((sortT_perm _).trans (hp.trans (sortT_perm _).symm)) (sortT_sorted _) (sortT_sorted _)
  exact sorted_tail I1 hv (by rw [hp.length_eq]; exact hL) hu fun p hp => by rw [e]; exact q p hp
end
end DS
end
section
set_option Elab.async false
set_option linter.all false
set_option maxRecDepth 100000
set_option maxHeartbeats 1000000
namespace KD
open PySem PySem.Spec PyProof.Rows L2 DS KT KM
/-- the built-in names are the built-in ones -/
structure Free (mg : Str → Option Value) : Prop where
  isi : mg "isinstance" = none
  str : mg "str" = none
  len : mg "len" = none
  all : mg "all" = none
  tuple : mg "tuple" = none
  bool : mg "bool" = none
  enum : mg "enumerate" = none
  list : mg "list" = none
  sorted : mg "sorted" = none
  set : mg "set" = none
  range : mg "range" = none
  int : mg "int" = none
  min : mg "min" = none
  repr : mg "repr" = none

section
variable {P : Program} {w : World} {K : PySem.W.Frag} {mg : Str → Option Value} {base : Heap}

def R_is_of : Rel := fun xs z => ∃ x sg lo hi, xs = [x, .str sg, .int lo, .int hi] ∧ ok x ∧ z = .bool (isOf x sg lo hi)
def inSg (sg : Str) : PyData → Bool
  | .str t => decide (t.cps.toList.getD 0 0 ∈ sg.cps.toList)
  | _ => false
theorem isStr_of {x : PyData} (h : isStr x = true) : ∃ s, x = .str s := by
  cases x <;> first | exact ⟨_, rfl⟩ | cases h
theorem signs_mem {s : Str} {x : PyData} (h : x ∈ sgnsD s) : ∃ c, c ∈ s.cps.toList ∧ x = .str ⟨#[c]⟩ := by
  unfold sgnsD at h
  obtain ⟨c, hc, rfl⟩ := List.mem_map.mp h
  exact ⟨c, hc, rfl⟩
theorem b_is_of (m : Free mg) : BodyOk P w K mg base N_is_of "is_of" s_is_of 0 R_is_of := by
  intro f cdv A outer s H E F0 xs z hr hR
  obtain ⟨x, sg, lo, hi, rfl, hx, rfl⟩ := hR
  refine dw_ret (x := .bool (isOf x sg lo hi)) ?_ rfl
  cases hs : isStr x with
  | false =>
    refine dx_is (dx_and (k := false) (k' := false) (dx_isi m.isi m.str PyProof.Rows.boot_str (dx_var 0) (by rw [kit_str, hs])) (fun h => nomatch h)) ?_
    cases x <;> first | rfl | cases hs
  | true =>
    obtain ⟨t, rfl⟩ := isStr_of hs
    have hl := (okN_str hx).1
    refine dx_is (dx_and (k := true) (k' := (decide (lo ≤ (t.length : Int)) && decide ((t.length : Int) ≤ hi)) && t.cps.toList.all (fun c => decide (c ∈ sg.cps.toList))) (dx_isi m.isi m.str PyProof.Rows.boot_str (dx_var 0) (kit_str _)) (fun _ => ?_)) rfl
    refine dx_and (dx_leLe (dx_var 2) (dx_lenS m.len (dx_var 0) (by omega)) (dx_var 3)) (fun _ => dx_one ?_)
    refine dx_is (dx_all (bs := t.cps.toList.map fun c => decide (c ∈ sg.cps.toList)) rfl m.all ?_) (by rw [List.all_map]; rfl)
    refine dls_ofO (dg_imp (do_lc (own := [("sign", 4)]) (xs := sgnsD t) (g := tg1 4) (fun _ => true) (fun x => .bool (inSg sg x)) rfl sc_is_of.nd (dig_of (di_str (dx_var 0))) (blkOk_by (N := N_is_of) (sc := defScope s_is_of) (by decide +kernel)) ?_ (fun s H C cl fp => dtg1 4 sc_is_of.nd) (fun x hx => ⟨_, rfl⟩) (fun s H C cl fp x ds1 hx e => pts_no) (fun s H C cl fp x ds1 hx _ e => ?_)) fun _ _ _ _ r => ?_)
    · unfold sgnsD; rw [List.length_map]; exact Nat.le_trans hl (by decide)
    · cases e
      obtain ⟨c, hc, rfl⟩ := signs_mem hx
      exact dx_inS (dx_var 4) (dx_var 1)
    · rw [filter_yes] at r
      have : (sgnsD t).map (fun x => PyData.bool (inSg sg x)) = (t.cps.toList.map fun c => decide (c ∈ sg.cps.toList)).map PyData.bool := by
        unfold sgnsD
        rw [List.map_map, List.map_map]
        rfl
      rw [this] at r
      exact r
end
end KD
end
section
set_option Elab.async false
set_option linter.all false
set_option maxRecDepth 100000
set_option maxHeartbeats 1000000
namespace KD
open PySem PySem.Spec PyProof.Rows L2 DS KT KM
/-- the module's constants -/
structure Cons (K : PySem.W.Frag) (mg : Str → Option Value) : Prop where
  let_ : ∃ t, mg "LETTERS" = some (.str LET t)
  fig : ∃ t, mg "FIGURES" = some (.str FIG t)
  mname : ∃ t, mg "MOST_IN_NAME" = some (.int 12 t)
  kinds : GTup K mg "KINDS" KIN
  ari : GTup K mg "ARITIES" ARI
  mopt : ∃ t, mg "MOST_OPTIONS" = some (.int 24 t)
  mpla : ∃ t, mg "MOST_PLACES" = some (.int 5 t)
  short : ∃ t, mg "SHORT" = some (.int 0 t)
abbrev P_is_of : List Str := ["thing", "signs", "least", "most"]
section
variable {P : Program} {w : World} {K : PySem.W.Frag} {mg : Str → Option Value} {base : Heap}
theorem str_pos {s : Str} (h : 1 ≤ s.length) : atI s.cps.toList 0 = some (s.cps.toList.getD 0 0) := by
  have : 0 < s.cps.toList.length := by rw [Array.length_toList]; exact h
  unfold atI ixN
  rw [if_pos (Int.le_refl 0), if_pos (show (0 : Int) < (s.cps.toList.length : Int) by omega)]
  show s.cps.toList[(0 : Int).toNat]? = _
  rw [show (0 : Int).toNat = 0 from rfl, List.getElem?_eq_getElem this, List.getD_eq_getElem?_getD, List.getElem?_eq_getElem this] <;> rfl
theorem str_last {s : Str} (h : 1 ≤ s.length) : atI s.cps.toList (-1) = some (s.cps.toList.getD (s.length - 1) 0) := by
  have hl : s.cps.toList.length = s.length := by rw [Array.length_toList] <;> rfl
  have : s.length - 1 < s.cps.toList.length := by rw [hl]; omega
  have e : ((-1 : Int) + (s.cps.toList.length : Int)).toNat = s.length - 1 := by rw [hl]; omega
  unfold atI ixN
  rw [if_neg (show ¬ ((0 : Int) ≤ -1) by omega), if_pos (show -(s.cps.toList.length : Int) ≤ -1 by rw [hl]; omega)]
  show s.cps.toList[((-1 : Int) + (s.cps.toList.length : Int)).toNat]? = _
  rw [e, List.getElem?_eq_getElem this, List.getD_eq_getElem?_getD, List.getElem?_eq_getElem this] <;> rfl
def R_is_name : Rel := fun xs z => ∃ x, xs = [x] ∧ ok x ∧ z = .bool (isName x)
theorem isOf_str {x : PyData} {sg : Str} {lo hi : Int} (h : isOf x sg lo hi = true) : ∃ s, x = .str s ∧ lo ≤ (s.length : Int) := by
  cases x with
  | str s => unfold isOf at h; simp only [Bool.and_eq_true, decide_eq_true_eq] at h; exact ⟨s, rfl, h.1.1⟩
  | _ => cases h
theorem b_is_name (m : Free mg) (c : Cons K mg) (D : Def P w K mg base "is_of" 1 P_is_of (spD K R_is_of)) : BodyOk P w K mg base N_is_name "is_name" s_is_name 1 R_is_name := by
  intro f cdv A outer s H E F0 xs z hr hR
  obtain ⟨x, rfl, hx, rfl⟩ := hR
  refine dw_ret (x := .bool (isName x)) ?_ rfl
  refine dx_and (dx_call D hr (da_cons (dx_var 0) (da_cons (dx_is (dx_addS (dx_gS c.let_) dx_str (by decide +kernel)) (by rw [letd_eq])) (da_cons dx_int (da_one (dx_gI c.mname))))) ⟨x, LETD, 2, 12, rfl, hx, rfl⟩) (fun h => ?_)
  obtain ⟨t, rfl, hl⟩ := isOf_str h
  have hl2 := (okN_str hx).1
  refine dx_and (k := !decide (headS (.str t) = "-")) (dx_neS (dx_ixS (dx_var 0) dx_int (str_pos (by omega)) (by omega)) dx_str) (fun _ => ?_)
  exact dx_one (dx_neS (dx_ixS (dx_var 0) dx_neg1 (str_last (by omega)) (by omega)) dx_str)
def R_is_letter : Rel := fun xs z => ∃ x, xs = [x] ∧ ok x ∧ z = .bool (isLetter x)
theorem one_sign {s : Str} (h : s.length = 1) : s = ⟨#[s.cps.toList.getD 0 0]⟩ := by
  obtain ⟨⟨l⟩⟩ := s
  match l, h with
  | [a], _ => rfl
theorem b_is_letter (m : Free mg) (c : Cons K mg) : BodyOk P w K mg base N_is_letter "is_letter" s_is_letter 0 R_is_letter := by
  intro f cdv A outer s H E F0 xs z hr hR
  obtain ⟨x, rfl, hx, rfl⟩ := hR
  refine dw_ret (x := .bool (isLetter x)) ?_ rfl
  cases hs : isStr x with
  | false =>
    refine dx_is (dx_and (k := false) (k' := false) (dx_isi m.isi m.str PyProof.Rows.boot_str (dx_var 0) (by rw [kit_str, hs])) (fun h => nomatch h)) ?_
    cases x <;> first | rfl | cases hs
  | true =>
    obtain ⟨t, rfl⟩ := isStr_of hs
    have hl := (okN_str hx).1
    refine dx_is (dx_and (k := true) (k' := decide ((t.length : Int) = 1) && decide (t.cps.toList.getD 0 0 ∈ LETF.cps.toList)) (dx_isi m.isi m.str PyProof.Rows.boot_str (dx_var 0) (kit_str _)) (fun _ => ?_)) rfl
    refine dx_and (dx_eqI (dx_lenS m.len (dx_var 0) (by omega)) dx_int) (fun h => dx_one ?_)
    have h1 : t.length = 1 := by have := of_decide_eq_true h; omega
    refine dx_inS (z := LETF) (dx_is (dx_var 0) ?_) (dx_is (dx_addS (dx_gS c.let_) (dx_gS c.fig) (by decide +kernel)) (by rw [letf_eq]))
    exact congrArg PyData.str (one_sign h1)
end
end KD
end
section
set_option Elab.async false
set_option linter.all false
set_option maxRecDepth 100000
set_option maxHeartbeats 1000000
namespace KD
open PySem PySem.Spec PyProof.Rows L2 DS KT KM
section
variable {P : Program} {w : World} {K : PySem.W.Frag} {mg : Str → Option Value} {base : Heap}
theorem isTup_of {x : PyData} (h : isTup x = true) : ∃ xs, x = .tuple xs := by
  cases x <;> first | exact ⟨_, rfl⟩ | cases h
/-- .. as values: isinstance(e, tuple), isinstance(e, str) -/
theorem dx_isTup {X : Cx} {O : Own} {ds : List Sl} {a : Expr} {x : PyData} {p p1 pos : Pos} (m : Free X.mg) (ha : DX X O ds a x)
    (hg : Gl X "isinstance" := by rfl) (hgT : Gl X "tuple" := by rfl)
    (h1 : starEach [a, .Name "tuple" p1] X.env = (false, eval a X.env) :: starEach [.Name "tuple" p1] X.env := by rfl) (h2 : starEach [.Name "tuple" p1] X.env = (false, eval (.Name "tuple" p1) X.env) :: starEach [] X.env := by rfl)
    (hpl : (backTo pos (starEach [.Name "tuple" p1] X.env)).any (·.1) = false := by rfl) : DX X O ds (.Call (.Name "isinstance" p) [a, .Name "tuple" p1] [] pos) (.bool (isTup x)) :=
  dx_isi m.isi m.tuple PyProof.Rows.boot_tuple ha (kit_tup x) hg hgT (by decide) (by decide) h1 h2 hpl
theorem dx_isStr {X : Cx} {O : Own} {ds : List Sl} {a : Expr} {x : PyData} {p p1 pos : Pos} (m : Free X.mg) (ha : DX X O ds a x)
    (hg : Gl X "isinstance" := by rfl) (hgT : Gl X "str" := by rfl)
    (h1 : starEach [a, .Name "str" p1] X.env = (false, eval a X.env) :: starEach [.Name "str" p1] X.env := by rfl) (h2 : starEach [.Name "str" p1] X.env = (false, eval (.Name "str" p1) X.env) :: starEach [] X.env := by rfl)
    (hpl : (backTo pos (starEach [.Name "str" p1] X.env)).any (·.1) = false := by rfl) : DX X O ds (.Call (.Name "isinstance" p) [a, .Name "str" p1] [] pos) (.bool (isStr x)) :=
  dx_isi m.isi m.str PyProof.Rows.boot_str ha (kit_str x) hg hgT (by decide) (by decide) h1 h2 hpl
theorem dx_isBool {X : Cx} {O : Own} {ds : List Sl} {a : Expr} {x : PyData} {p p1 pos : Pos} (m : Free X.mg) (ha : DX X O ds a x)
    (hg : Gl X "isinstance" := by rfl) (hgT : Gl X "bool" := by rfl)
    (h1 : starEach [a, .Name "bool" p1] X.env = (false, eval a X.env) :: starEach [.Name "bool" p1] X.env := by rfl) (h2 : starEach [.Name "bool" p1] X.env = (false, eval (.Name "bool" p1) X.env) :: starEach [] X.env := by rfl)
    (hpl : (backTo pos (starEach [.Name "bool" p1] X.env)).any (·.1) = false := by rfl) : DX X O ds (.Call (.Name "isinstance" p) [a, .Name "bool" p1] [] pos) (.bool (isBool x)) :=
  dx_isi m.isi m.bool PyProof.Rows.boot_bool ha (kit_bool x) hg hgT (by decide) (by decide) h1 h2 hpl
/-- not isinstance(x, tuple) or len(x) != n, a tuple of some other length or none -/
def notTup (n : Nat) : PyData → Bool
  | .tuple xs => !decide ((xs.length : Int) = (n : Int))
  | _ => true
theorem notTup_of {n : Nat} {x : PyData} (h : notTup n x = false) : ∃ xs, x = .tuple xs ∧ xs.length = n := by
  cases x with
  | tuple xs => exact ⟨xs, rfl, by have : decide ((xs.length : Int) = (n : Int)) = true := by simpa [notTup] using h
                                   have := of_decide_eq_true this; omega⟩
  | _ => cases h
theorem dw_notTup {X : Cx} {O : Own} {ds : List Sl} {a a' : Expr} {x : PyData} {p p1 p2 p3 p4 p5 p6 p7 pos : Pos} {n k : Nat} (m : Free X.mg) (ha : DX X O ds a x) (ha' : DX X O ds a' x)
    (hn : ∀ whole, isTrue (.Call (.Name "isinstance" p) [a, .Name "tuple" p1] [] p2) X.env whole = (do let v ← whole; standAt (Expr.Call (.Name "isinstance" p) [a, .Name "tuple" p1] [] p2).pos; holding [v] (truthy v)) := by intro _; rfl)
    (hg : Gl X "isinstance" := by rfl) (hgT : Gl X "tuple" := by rfl) (hgl : Gl X "len" := by rfl)
    (h1 : starEach [a, .Name "tuple" p1] X.env = (false, eval a X.env) :: starEach [.Name "tuple" p1] X.env := by rfl) (h2 : starEach [.Name "tuple" p1] X.env = (false, eval (.Name "tuple" p1) X.env) :: starEach [] X.env := by rfl)
    (hpl : (backTo p2 (starEach [.Name "tuple" p1] X.env)).any (·.1) = false := by rfl) (h3 : starEach [a'] X.env = (false, eval a' X.env) :: starEach [] X.env := by rfl) :
    DT X O ds (.BoolOp .Or [.UnaryOp .Not (.Call (.Name "isinstance" p) [a, .Name "tuple" p1] [] p2) p3, .Compare (.Call (.Name "len" p4) [a'] [] p5) [.NotEq] [.Constant (.int (n : Int)) k p6] p7] pos) (notTup n x) := by
  have h0 : DT X O ds (.UnaryOp .Not (.Call (.Name "isinstance" p) [a, .Name "tuple" p1] [] p2) p3) (!isTup x) := dt_not (dt_val (dx_isTup m ha hg hgT h1 h2 hpl) hn)
  cases hx : isTup x with
  | false =>
    rw [hx] at h0
    refine dt_is (dw_pt (dw_or (k' := true) h0 fun z => nomatch z)) ?_
    cases x <;> first | rfl | cases hx
  | true =>
    obtain ⟨xs, rfl⟩ := isTup_of hx
    rw [hx] at h0
    exact dt_is (dw_pt (dw_or h0 fun _ => dw_or1 (dt_cmp op_ne (dx_len m.len (dl_ofT ha') hgl h3) dx_int op2_neI))) rfl
theorem ok_mem {xs : List PyData} (h : ok (.tuple xs)) : ∀ x ∈ xs, ok x := fun _ hx => ok_item h hx
def R_is_option : Rel := fun xs z => ∃ x, xs = [x] ∧ ok x ∧ z = .bool (isOption x)
theorem b_is_option (m : Free mg) (c : Cons K mg) (D1 : Def P w K mg base "is_name" 2 ["thing"] (spD K R_is_name)) (D2 : Def P w K mg base "is_letter" 1 ["thing"] (spD K R_is_letter)) : BodyOk P w K mg base N_is_option "is_option" s_is_option 2 R_is_option := by
  intro f cdv A outer s H E F0 xs z hr hR
  obtain ⟨x, rfl, hx, rfl⟩ := hR
  refine dw_ifR (dw_notTup (n := 3) m (dx_var 0) (dx_var 0)) (fun h => dw_ret (x := .bool false) dx_bl ?_) (fun h => ?_)
  · show Sl.d _ = Sl.d _
    congr 2
    unfold isOption
    split
    · cases h
    · rfl
  obtain ⟨ys, rfl, hl⟩ := notTup_of h
  obtain ⟨a, b, k, rfl⟩ : ∃ a b k, ys = [a, b, k] := by
    match ys, hl with
    | [a, b, k], _ => exact ⟨a, b, k, rfl⟩
  have ha := ok_mem hx a (by simp)
  have hb := ok_mem hx b (by simp)
  have hk := ok_mem hx k (by simp)
  refine dw_unp (dx_var 0) (dtg3 1 2 3 rfl sc_is_option.nd (gn 1 sc_is_option.nd) (gn 2 sc_is_option.nd) (gn 3 sc_is_option.nd)) rfl ?_
  refine dw_ret (x := .bool (isOption (.tuple [a, b, k]))) ?_ rfl
  refine dx_and (dx_call D1 hr (da_one (dx_var 1)) ⟨a, rfl, ha, rfl⟩) (fun _ => ?_)
  refine dx_and (k := letOk b) (dx_is (dx_or (dx_eq hr.units (dx_var 2) dx_str (ok_shaped hb (by decide)) (by decide +kernel)) fun _ => dx_one (dx_call D2 (hr.mono (by decide)) (da_one (dx_var 2)) ⟨b, rfl, hb, rfl⟩)) (by rw [letter_ok])) (fun _ => ?_)
  cases hs : isStr k with
  | false =>
    refine dx_is (dx_and (k := false) (k' := false) (dx_is (dx_isStr m (dx_var 3)) (by rw [hs])) (fun h => nomatch h)) ?_
    cases k <;> first | rfl | cases hs
  | true =>
    obtain ⟨t, rfl⟩ := isStr_of hs
    exact dx_is (dx_and (k := true) (k' := decide (t ∈ KIN)) (dx_is (dx_isStr m (dx_var 3)) rfl) fun _ => dx_one (dx_in (dx_var 3) (dl_ofT (dx_gT c.kinds)))) rfl
def R_is_place : Rel := fun xs z => ∃ x, xs = [x] ∧ ok x ∧ z = .bool (isPlace x)
theorem b_is_place (m : Free mg) (c : Cons K mg) (D1 : Def P w K mg base "is_name" 2 ["thing"] (spD K R_is_name)) : BodyOk P w K mg base N_is_place "is_place" s_is_place 2 R_is_place := by
  intro f cdv A outer s H E F0 xs z hr hR
  obtain ⟨x, rfl, hx, rfl⟩ := hR
  refine dw_ifR (dw_notTup (n := 2) m (dx_var 0) (dx_var 0)) (fun h => dw_ret (x := .bool false) dx_bl ?_) (fun h => ?_)
  · show Sl.d _ = Sl.d _
    congr 2
    unfold isPlace
    split
    · cases h
    · rfl
  obtain ⟨ys, rfl, hl⟩ := notTup_of h
  obtain ⟨a, b, rfl⟩ : ∃ a b, ys = [a, b] := by
    match ys, hl with
    | [a, b], _ => exact ⟨a, b, rfl⟩
  have ha := ok_mem hx a (by simp)
  have hb := ok_mem hx b (by simp)
  refine dw_ret (x := .bool (isPlace (.tuple [a, b]))) ?_ rfl
  refine dx_and (dx_call D1 hr (da_one (dx_ixT (dx_var 0) dx_int rfl)) ⟨a, rfl, ha, rfl⟩) (fun _ => ?_)
  cases hs : isStr b with
  | false =>
    refine dx_is (dx_and (k := false) (k' := false) (dx_is (dx_isStr m (dx_ixT (dx_var 0) dx_int rfl)) (by rw [hs])) (fun h => nomatch h)) ?_
    cases b <;> first | rfl | cases hs
  | true =>
    obtain ⟨t, rfl⟩ := isStr_of hs
    exact dx_is (dx_and (k := true) (k' := decide (t ∈ ARI)) (dx_is (dx_isStr m (dx_ixT (dx_var 0) dx_int rfl)) rfl) fun _ => dx_one (dx_in (dx_ixT (dx_var 0) dx_int rfl) (dl_ofT (dx_gT c.ari)))) rfl
end
end KD
end
section
set_option Elab.async false
set_option linter.all false
set_option maxRecDepth 100000
set_option maxHeartbeats 1000000
namespace DS
open PySem PySem.Spec PyProof.Rows L2
section
variable {X : Cx} {O : Own} {ds : List Sl} {e a b c : Expr} {pos : Pos}
theorem dt_in {s : Str} {ss : List Str} (ha : DX X O ds a (.str s)) (hb : DL X O ds b (ss.map PyData.str)) (hm : behindInMarks .In b = false := by rfl) : DT X O ds (.Compare a [.In] [b] pos) (decide (s ∈ ss)) :=
  pt_mono (pt_cmpR op_in_seq ha hb hm) fun σ H Q ⟨F, st, q⟩ => ⟨F, st, fun v F1 H1 g1 j1 d1 => ⟨F1, st.grow g1 j1, fun w F2 H2 g2 j2 r2 => by
    obtain ⟨p, vs, rfl, h1, h2⟩ := r2
    have hv := dpAll_strs h2
    subst hv
    rw [Dp.str_eq d1]
    refine ⟨p, _, rfl, h1, rfl, flat_strs, ?_⟩
    exact ⟨decide (s ∈ ss), by show V.bl (if false = true then _ else inV (.str s) (ss.map V.str)) = _; rw [if_neg Bool.false_ne_true, inV_strs], q F2 H2 (g1.trans g2) j2⟩⟩⟩
theorem dt_notInS {c : Nat} {z : Str} (ha : DX X O ds a (.str ⟨#[c]⟩)) (hb : DX X O ds b (.str z)) (hm : behindInMarks .NotIn b = false := by rfl) : DT X O ds (.Compare a [.NotIn] [b] pos) (!decide (c ∈ z.cps.toList)) :=
  dt_cmp op_notIn_sign ha hb (op2_pure fun F H v w Q e d1 d2 q => ⟨c, z, d1.str_eq, d2.str_eq, q _ (.bl _)⟩) hm
theorem dt_leLe {c : Expr} {i j k : Int} (ha : DX X O ds a (.int i)) (hb : DX X O ds b (.int j)) (hc : DX X O ds c (.int k)) (hm : lastMarks [.LtE, .LtE] [b, c] = false := by with_unfolding_all rfl) : DT X O ds (.Compare a [.LtE, .LtE] [b, c] pos) (decide (i ≤ j) && decide (j ≤ k)) :=
  pt_mono (pt_chain op_le op_le ha hb hc hm) fun σ H Q ⟨F, st, q⟩ => ⟨F, st, fun v F1 H1 g1 j1 d1 => ⟨F1, st.grow g1 j1, fun w F2 H2 g2 j2 d2 => by
    refine ⟨i, j, Dp.int_eq d1, Dp.int_eq d2, decide (i ≤ j), rfl, ?_⟩
    cases h : decide (i ≤ j) with
    | false => rw [h, Bool.false_and] at q; exact iteF ⟨false, rfl, q F2 H2 (g1.trans g2) j2⟩
    | true => rw [h, Bool.true_and] at q; exact iteT ⟨F2, (st.grow g1 j1).grow g2 j2, fun u F3 H3 g3 j3 d3 => ⟨j, k, Dp.int_eq d2, Dp.int_eq d3, decide (j ≤ k), rfl, q F3 H3 ((g1.trans g2).trans g3) j3⟩⟩⟩⟩
theorem dt_isN {x : PyData} (ha : DX X O ds a x) {j : Nat} {p : Pos} : DT X O ds (.Compare a [.Is] [.Constant .none j p] pos) (isNone x) := dt_cmp op_isN ha dx_non (op2_pure fun F H v w Q e d1 d2 q => by
  refine ⟨d2.none_eq, ?_⟩
  rw [d1.is_none]
  exact q _ (by cases x <;> exact .bl _))
theorem dt_notN {x : PyData} (ha : DX X O ds a x) {j : Nat} {p : Pos} : DT X O ds (.Compare a [.IsNot] [.Constant .none j p] pos) (!isNone x) := dt_cmp op_notN ha dx_non (op2_pure fun F H v w Q e d1 d2 q => by
  refine ⟨d2.none_eq, ?_⟩
  rw [d1.is_none]
  exact q _ (by cases x <;> exact .bl _))
end
end DS
namespace KD
open PySem PySem.Spec PyProof.Rows L2 DS KT KM
section
variable {P : Program} {w : World} {K : PySem.W.Frag} {mg : Str → Option Value} {base : Heap}
/-- no tuple, or too long a one -/
def badTup (n : Nat) : PyData → Bool
  | .tuple xs => decide ((n : Int) < (xs.length : Int))
  | _ => true
theorem badTup_of {n : Nat} {x : PyData} (h : badTup n x = false) : ∃ xs, x = .tuple xs ∧ xs.length ≤ n := by
  cases x with
  | tuple xs => exact ⟨xs, rfl, by have := of_decide_eq_false h; omega⟩
  | _ => cases h
theorem dw_badTup {X : Cx} {O : Own} {ds : List Sl} {a a' b : Expr} {x : PyData} {p p1 p2 p3 p4 p5 p7 pos : Pos} {n : Nat} (m : Free X.mg) (ha : DX X O ds a x) (ha' : DX X O ds a' x) (hb : DX X O ds b (.int (n : Int)))
    (hn : ∀ whole, isTrue (.Call (.Name "isinstance" p) [a, .Name "tuple" p1] [] p2) X.env whole = (do let v ← whole; standAt (Expr.Call (.Name "isinstance" p) [a, .Name "tuple" p1] [] p2).pos; holding [v] (truthy v)) := by intro _; rfl)
    (hg : Gl X "isinstance" := by rfl) (hgT : Gl X "tuple" := by rfl) (hgl : Gl X "len" := by rfl)
    (h1 : starEach [a, .Name "tuple" p1] X.env = (false, eval a X.env) :: starEach [.Name "tuple" p1] X.env := by rfl) (h2 : starEach [.Name "tuple" p1] X.env = (false, eval (.Name "tuple" p1) X.env) :: starEach [] X.env := by rfl)
    (hpl : (backTo p2 (starEach [.Name "tuple" p1] X.env)).any (·.1) = false := by rfl) (h3 : starEach [a'] X.env = (false, eval a' X.env) :: starEach [] X.env := by rfl) :
    DT X O ds (.BoolOp .Or [.UnaryOp .Not (.Call (.Name "isinstance" p) [a, .Name "tuple" p1] [] p2) p3, .Compare (.Call (.Name "len" p4) [a'] [] p5) [.Gt] [b] p7] pos) (badTup n x) := by
  have h0 : DT X O ds (.UnaryOp .Not (.Call (.Name "isinstance" p) [a, .Name "tuple" p1] [] p2) p3) (!isTup x) := dt_not (dt_val (dx_isTup m ha hg hgT h1 h2 hpl) hn)
  cases hx : isTup x with
  | false =>
    rw [hx] at h0
    refine dt_is (dw_pt (dw_or (k' := true) h0 fun z => nomatch z)) ?_
    cases x <;> first | rfl | cases hx
  | true =>
    obtain ⟨xs, rfl⟩ := isTup_of hx
    rw [hx] at h0
    exact dt_is (dw_pt (dw_or h0 fun _ => dw_or1 (dt_cmp op_gt (dx_len m.len (dl_ofT ha') hgl h3) hb (op2_II (h := fun i j => .bool (decide (j < i))) fun _ => .bl _)))) rfl
def R_option_fault : Rel := fun xs z => ∃ x, xs = [x] ∧ ok x ∧ z = optionFault x
theorem drop_get {α : Type} {xs : List α} {i : Nat} {x : α} (h : xs[i]? = some x) : xs.drop i = x :: xs.drop (i + 1) := by
  obtain ⟨hl, e⟩ := List.getElem?_eq_some_iff.mp h
  rw [List.drop_eq_getElem_cons hl, e]
abbrev tx (ss : List Str) : List PyData := ss.map PyData.str
theorem tx_snoc (ss : List Str) (s : Str) : tx ss ++ [.str s] = tx (ss ++ [s]) := by rw [tx, tx, List.map_append] <;> rfl
theorem optF_cons (o : PyData) (r : List PyData) (n : Nat) (ns ls : List Str) : optF (o :: r) n ns ls = if isOption o = true ∧ txt 0 o ∉ ns ∧ txt 1 o ∉ ls then optF r (n + 1) (ns ++ [txt 0 o]) (if txt 1 o = "" then ls else ls ++ [txt 1 o]) else .tuple [.str "options", .int (n : Int)] := rfl
theorem plaF_cons (o : PyData) (r : List PyData) (n : Nat) (ns : List Str) (m : Bool) : plaF (o :: r) n ns m = if isPlace o = true ∧ txt 0 o ∉ ns ∧ ¬ (m = true ∧ txt 1 o = "many") then plaF r (n + 1) (ns ++ [txt 0 o]) (m || decide (txt 1 o = "many")) else .tuple [.str "places", .int (n : Int)] := rfl
/-- slots behind i turns -/
def If_opt (os : List PyData) (i : Nat) (ds : List Sl) : Prop := ∃ ns ls u v, ds = [.d (.tuple os), .l (tx ns), .l (tx ls), u, v] ∧ ns.length = i ∧ ls.length ≤ i ∧ optF os 0 [] [] = optF (os.drop i) i ns ls
theorem b_option_fault (m : Free mg) (c : Cons K mg) (D : Def P w K mg base "is_option" 3 ["thing"] (spD K R_is_option)) : BodyOk P w K mg base N_option_fault "option_fault" s_option_fault 3 R_option_fault := by
  intro f cdv A outer s H E F0 xs z hr hR
  obtain ⟨x, rfl, hx, rfl⟩ := hR
  refine dw_ifR (dw_badTup (n := 24) m (dx_var 0) (dx_var 0) (dx_gI c.mopt)) (fun h => dw_ret (x := .tuple [.str "options"]) (dx_tup (da_one dx_str)) ?_) (fun h => ?_)
  · show Sl.d _ = Sl.d _
    congr 1
    unfold optionFault
    split
    · rename_i os
      have h' : decide (((24 : Nat) : Int) < (os.length : Int)) = true := h
      rw [if_pos (by have := of_decide_eq_true h'; omega)]
    · rfl
  obtain ⟨os, rfl, hl⟩ := badTup_of h
  have eF : optionFault (.tuple os) = optF os 0 [] [] := if_neg (by omega)
  refine dw_par 1 2 rfl sc_option_fault.nd (rn_l (do_lst (xs := []) da_nil)) (rn_l (do_lst (xs := []) da_nil)) ?_ (by with_unfolding_all rfl)
  refine dw_for (xs := enumD os) (g := tg2 3 4) PassesOwn.never rfl (di_enum m.enum (dx_var 0)) (fun _ => dtg2 3 4 rfl sc_option_fault.nd (gn 3 sc_option_fault.nd) (gn 4 sc_option_fault.nd)) (If_opt os) ⟨[], [], .u, .u, rfl, rfl, Nat.le_refl _, rfl⟩ (fun i y ds1 hy hI => ?_) (fun ds1 hI => ?_)
  · obtain ⟨ns, ls, u, v, rfl, hns, hls, hF⟩ := hI
    obtain ⟨o, ho, rfl⟩ := enumD_get hy
    have hil : i < os.length := (List.getElem?_eq_some_iff.mp ho).1
    have hok : ok o := ok_mem hx o (List.mem_of_getElem? ho)
    rw [drop_get ho] at hF
    refine ⟨_, rfl, ?_⟩
    have hbad : ∀ b : Bool, b = true → ¬ (isOption o = true ∧ txt 0 o ∉ ns ∧ txt 1 o ∉ ls) → optF os 0 [] [] = .tuple [.str "options", .int (i : Int)] := fun b _ hn => by
      rw [hF, optF_cons, if_neg hn]
    refine dw_ifR (k := !isOption o || (decide (txt 0 o ∈ ns) || decide (txt 1 o ∈ ls))) (dw_pt (dw_or (dt_not (dt_val (dx_call D hr (da_one (dx_var 4)) ⟨o, rfl, hok, rfl⟩))) fun h0 => ?_)) (fun h => ?_) (fun h => ?_)
    · obtain ⟨a, b, k, rfl, _⟩ := isOption_tup (by simpa using h0)
      exact dw_or (dt_in (s := a) (dx_ixT (dx_var 4) dx_int rfl) (dl_var 1)) fun _ => dw_or1 (dt_in (s := b) (dx_ixT (dx_var 4) dx_int rfl) (dl_var 2))
    · refine dw_ret (x := .tuple [.str "options", .int (i : Int)]) (dx_tup (da_cons dx_str (da_one (dx_var 3))) (by show 2 ≤ 100000; decide)) ?_
      show Sl.d _ = Sl.d _
      rw [eF, hbad _ h fun ⟨h1, h2, h3⟩ => by simp [h1, h2, h3] at h]
    · simp only [Bool.or_eq_false_iff, Bool.not_eq_false', decide_eq_false_iff_not] at h
      obtain ⟨h1, h2, h3⟩ := h
      obtain ⟨a, b, k, rfl, _⟩ := isOption_tup h1
      have hF2 : optF os 0 [] [] = optF (os.drop (i + 1)) (i + 1) (ns ++ [a]) (if b = "" then ls else ls ++ [b]) := by
        rw [hF, optF_cons, if_pos ⟨h1, h2, h3⟩]; rfl
      refine dw_append 1 (dx_ixT (dx_var 4) dx_int rfl) ?_ (by show (tx ns).length < _; rw [List.length_map]; omega)
      refine dw_if (k := !decide (b = "")) (dt_cmp op_ne (dx_ixT (dx_var 4) dx_int rfl) dx_str op2_neS) (fun hb => ?_) (fun hb => dw_nil (th_here (dw_nil ⟨rfl, ns ++ [a], ls, .d (.int (i : Int)), .d (.tuple [.str a, .str b, .str k]), ?_, ?_, ?_, ?_⟩)))
      · refine dw_append 2 (dx_ixT (dx_var 4) dx_int rfl) (dw_nil (th_here (dw_nil ⟨rfl, ns ++ [a], ls ++ [b], .d (.int (i : Int)), .d (.tuple [.str a, .str b, .str k]), ?_, ?_, ?_, ?_⟩))) (by show (tx ls).length < _; rw [List.length_map]; omega)
        · rw [← tx_snoc, ← tx_snoc]; rfl
        · rw [List.length_append, hns]; rfl
        · rw [List.length_append]; show _ + 1 ≤ _; omega
        · rw [hF2, if_neg (by simpa using hb)]
      · rw [← tx_snoc]; rfl
      · rw [List.length_append, hns]; rfl
      · omega
      · rw [hF2, if_pos (by simpa using hb)]
  · obtain ⟨ns, ls, u, v, rfl, hns, hls, hF⟩ := hI
    refine dw_ret (x := .none) dx_non ?_
    show Sl.d _ = Sl.d _
    rw [eF, hF, enumD_len, List.drop_length]
    rfl
def R_place_fault : Rel := fun xs z => ∃ x, xs = [x] ∧ ok x ∧ z = placeFault x
def If_pla (os : List PyData) (i : Nat) (ds : List Sl) : Prop := ∃ ns mm u v, ds = [.d (.tuple os), .l (tx ns), .d (.bool mm), u, v] ∧ ns.length = i ∧ plaF os 0 [] false = plaF (os.drop i) i ns mm
theorem b_place_fault (m : Free mg) (c : Cons K mg) (D : Def P w K mg base "is_place" 3 ["thing"] (spD K R_is_place)) : BodyOk P w K mg base N_place_fault "place_fault" s_place_fault 3 R_place_fault := by
  intro f cdv A outer s H E F0 xs z hr hR
  obtain ⟨x, rfl, hx, rfl⟩ := hR
  refine dw_ifR (dw_badTup (n := 5) m (dx_var 0) (dx_var 0) (dx_gI c.mpla)) (fun h => dw_ret (x := .tuple [.str "places"]) (dx_tup (da_one dx_str)) ?_) (fun h => ?_)
  · show Sl.d _ = Sl.d _
    congr 1
    unfold placeFault
    split
    · rename_i os
      have h' : decide (((5 : Nat) : Int) < (os.length : Int)) = true := h
      rw [if_pos (by have := of_decide_eq_true h'; omega)]
    · rfl
  obtain ⟨os, rfl, hl⟩ := badTup_of h
  have eF : placeFault (.tuple os) = plaF os 0 [] false := if_neg (by omega)
  refine dw_par 1 2 rfl sc_place_fault.nd (rn_l (do_lst (xs := []) da_nil)) (rn_d dx_bl) ?_ (by with_unfolding_all rfl)
  refine dw_for (xs := enumD os) (g := tg2 3 4) PassesOwn.never rfl (di_enum m.enum (dx_var 0)) (fun _ => dtg2 3 4 rfl sc_place_fault.nd (gn 3 sc_place_fault.nd) (gn 4 sc_place_fault.nd)) (If_pla os) ⟨[], false, .u, .u, rfl, rfl, rfl⟩ (fun i y ds1 hy hI => ?_) (fun ds1 hI => ?_)
  · obtain ⟨ns, mm, u, v, rfl, hns, hF⟩ := hI
    obtain ⟨o, ho, rfl⟩ := enumD_get hy
    have hil : i < os.length := (List.getElem?_eq_some_iff.mp ho).1
    have hok : ok o := ok_mem hx o (List.mem_of_getElem? ho)
    rw [drop_get ho] at hF
    refine ⟨_, rfl, ?_⟩
    refine dw_ifR (k := !isPlace o || (decide (txt 0 o ∈ ns) || (mm && decide (txt 1 o = "many")))) (dw_pt (dw_or (dt_not (dt_val (dx_call D hr (da_one (dx_var 4)) ⟨o, rfl, hok, rfl⟩))) fun h0 => ?_)) (fun h => ?_) (fun h => ?_)
    · obtain ⟨a, b, rfl, _⟩ := isPlace_tup (by simpa using h0)
      exact dw_or (dt_in (s := a) (dx_ixT (dx_var 4) dx_int rfl) (dl_var 1)) fun _ => dw_or1 (dw_pt (dw_and (dt_val (dx_var 2)) fun _ => dw_and1 (dt_cmp op_eq (dx_ixT (dx_var 4) dx_int rfl) dx_str op2_eqS)))
    · refine dw_ret (x := .tuple [.str "places", .int (i : Int)]) (dx_tup (da_cons dx_str (da_one (dx_var 3))) (by show 2 ≤ 100000; decide)) ?_
      show Sl.d _ = Sl.d _
      rw [eF, hF, plaF_cons, if_neg fun ⟨h1, h2, h3⟩ => by
        have h3' : (mm && decide (txt 1 o = "many")) = false := by
          cases mm with
          | false => rfl
          | true => simpa using h3
        rw [h1, decide_eq_false h2, h3'] at h
        cases h]
    · simp only [Bool.or_eq_false_iff, Bool.not_eq_false', decide_eq_false_iff_not] at h
      obtain ⟨h1, h2, h3⟩ := h
      obtain ⟨a, b, rfl, _⟩ := isPlace_tup h1
      have hF2 : plaF os 0 [] false = plaF (os.drop (i + 1)) (i + 1) (ns ++ [a]) (mm || decide (b = "many")) := by
        rw [hF, plaF_cons, if_pos ⟨h1, h2, fun ⟨e1, e2⟩ => by rw [e1, decide_eq_true e2] at h3; cases h3⟩]; rfl
      refine dw_append 1 (dx_ixT (dx_var 4) dx_int rfl) ?_ (by show (tx ns).length < _; rw [List.length_map]; omega)
      refine dw_set 2 sc_place_fault.nd (dx_or (dx_var 2) fun _ => dx_one (dx_eqS (dx_ixT (dx_var 4) dx_int rfl) dx_str)) (dw_nil ⟨rfl, ns ++ [a], mm || decide (b = "many"), .d (.int (i : Int)), .d (.tuple [.str a, .str b]), ?_, ?_, hF2⟩)
      · rw [← tx_snoc]; rfl
      · rw [List.length_append, hns]; rfl
  · obtain ⟨ns, mm, u, v, rfl, hns, hF⟩ := hI
    refine dw_ret (x := .none) dx_non ?_
    show Sl.d _ = Sl.d _
    rw [eF, hF, enumD_len, List.drop_length]
    rfl
end
end KD
end
section
set_option Elab.async false
set_option linter.all false
set_option maxRecDepth 100000
set_option maxHeartbeats 1000000
namespace KD
open PySem PySem.Spec PyProof.Rows L2 DS KT KM
section
variable {P : Program} {w : World} {K : PySem.W.Frag} {mg : Str → Option Value} {base : Heap}
theorem modesOk_of {ms : List PyData} (h : ms.length = 3) : modesOk (.tuple ms) = (ms.map isBool).all id := by
  match ms, h with
  | [a, b, c], _ => simp [modesOk]
def R_fault : Rel := fun xs z => ∃ x, xs = [x] ∧ ok x ∧ z = KM.fault x
theorem fault3 (o p q : PyData) : KM.fault (.tuple [o, p, q]) = if isNone (optionFault o) = false then optionFault o else if isNone (placeFault p) = false then placeFault p else if modesOk q = true then .none else .tuple [.str "modes"] := rfl
theorem b_fault (m : Free mg) (D1 : Def P w K mg base "option_fault" 4 ["options"] (spD K R_option_fault)) (D2 : Def P w K mg base "place_fault" 4 ["places"] (spD K R_place_fault)) : BodyOk P w K mg base N_fault "fault" s_fault 4 R_fault := by
  intro f cdv A outer s H E F0 xs z hr hR
  obtain ⟨x, rfl, hx, rfl⟩ := hR
  refine dw_ifR (dw_notTup (n := 3) m (dx_var 0) (dx_var 0)) (fun h => dw_ret (x := .tuple []) (dx_tup da_nil) ?_) (fun h => ?_)
  · show Sl.d _ = Sl.d _
    congr 1
    unfold KM.fault
    split
    · cases h
    · rfl
  obtain ⟨ys, rfl, hl⟩ := notTup_of h
  obtain ⟨o, p, q, rfl⟩ : ∃ a b k, ys = [a, b, k] := by
    match ys, hl with
    | [a, b, k], _ => exact ⟨a, b, k, rfl⟩
  have ho := ok_mem hx o (by simp)
  have hp := ok_mem hx p (by simp)
  have hq := ok_mem hx q (by simp)
  rw [fault3]
  refine dw_unp (dx_var 0) (dtg3 2 3 4 rfl sc_fault.nd (gn 2 sc_fault.nd) (gn 3 sc_fault.nd) (gn 4 sc_fault.nd)) rfl ?_
  refine dw_set 1 sc_fault.nd (dx_call D1 hr (da_one (dx_var 2)) ⟨o, rfl, ho, rfl⟩) ?_
  -- behind both
  have tail : ∀ fd : PyData, (isNone fd = true → KM.fault (.tuple [o, p, q]) = if modesOk q = true then .none else .tuple [.str "modes"]) → (isNone fd = false → KM.fault (.tuple [o, p, q]) = fd) →
      DW (Bx P w K mg base N_fault "fault" (defScope s_fault) f cdv A outer s H E) (Bm F0 H) [.d (.tuple [o, p, q]), .d fd, .d o, .d p, .d q, .u] ((defBody s_fault).drop 4) (Cr (KM.fault (.tuple [o, p, q]))) := by
    intro fd h1 h2
    refine dw_ifR (dt_notN (dx_var 1)) (fun h => dw_ret (x := fd) (dx_var 1) (by show Sl.d _ = Sl.d _; rw [h2 (by simpa using h)])) (fun h => ?_)
    have h1' := h1 (by simpa using h)
    rw [h1']
    refine dw_ifR (k := !modesOk q) ?_ (fun h => dw_ret (x := .tuple [.str "modes"]) (dx_tup (da_one dx_str)) ?_) (fun h => dw_ret (x := .none) dx_non ?_)
    · cases hq' : isTup q with
      | false =>
        refine dt_is (dw_pt (dw_or (k := true) (k' := true) (dt_is (dt_not (dt_val (dx_isTup m (dx_var 4)))) (by rw [hq'] <;> rfl)) fun z => nomatch z)) ?_
        cases q <;> first | rfl | cases hq'
      | true =>
        obtain ⟨ms, rfl⟩ := isTup_of hq'
        refine dt_is (dw_pt (dw_or (k := false) (k' := !decide ((ms.length : Int) = 3) || !(ms.map isBool).all id) (dt_is (dt_not (dt_val (dx_isTup m (dx_var 4)))) rfl) fun _ => dw_or (dt_cmp op_ne (dx_len m.len (dl_ofT (dx_var 4))) dx_int op2_neI) fun hl3 => dw_or1 (dt_not (dt_val ?_)))) ?_
        · have hl3' : ms.length = 3 := by have := of_decide_eq_true (show decide ((ms.length : Int) = 3) = true by simpa using hl3); omega
          refine dx_all (bs := ms.map isBool) rfl m.all (dls_ofO (dg_imp (do_lc (own := [("mode", 5)]) (xs := ms) (g := tg1 5) (fun _ => true) (fun x => .bool (isBool x)) rfl sc_fault.nd (dig_of (di_tup (dx_var 4))) (blkOk_by (N := N_fault) (sc := defScope s_fault) (by decide +kernel)) (by omega) (fun s H C cl fp => dtg1 5 sc_fault.nd) (fun x hx => ⟨_, rfl⟩) (fun s H C cl fp x ds1 hx e => pts_no) (fun s H C cl fp x ds1 hx _ e => ?_)) fun _ _ _ _ r => ?_))
          · cases e
            exact dx_isBool m (dx_var 5)
          · rw [filter_yes] at r
            rw [List.map_map]
            exact r
        · by_cases hl3 : ms.length = 3
          · rw [modesOk_of hl3, decide_eq_true (show (ms.length : Int) = 3 by omega)] <;> rfl
          · rw [decide_eq_false (show ¬ (ms.length : Int) = 3 by omega)]
            have : modesOk (.tuple ms) = false := by
              unfold modesOk
              split
              · rename_i e; cases e; exact absurd rfl hl3
              · rfl
            rw [this] <;> rfl
    · show Sl.d _ = Sl.d _
      rw [if_neg (by simpa using h)]
    · show Sl.d _ = Sl.d _
      rw [if_pos (by simpa using h)]
  refine dw_if (dt_isN (dx_var 1)) (fun h => ?_) (fun h => dw_nil (th_here (tail _ (fun e => by rw [e] at h; cases h) (fun _ => ?_))))
  · refine dw_set 1 sc_fault.nd (dx_call D2 hr (da_one (dx_var 3)) ⟨p, rfl, hp, rfl⟩) (dw_nil (th_here (tail _ (fun e => ?_) (fun e => ?_))))
    · rw [fault3, if_neg (by rw [h]; decide), if_neg (by rw [e]; decide)]
    · rw [fault3, if_neg (by rw [h]; decide), if_pos e]
  · rw [fault3, if_pos h]
end
end KD
end
section
set_option Elab.async false
set_option linter.all false
set_option maxRecDepth 100000
set_option maxHeartbeats 2000000
namespace DS
open PySem PySem.Spec PyProof.Rows L2
/-- the call's form -/
abbrev InitForm (X : Cx) (nm : Str) (e : Expr) (es : List Expr) (p1 p2 pos : Pos) (pl : Sem Bool) : Prop :=
  eval (.Call (.Attribute (.Name nm p1) "__init__" p2) (e :: es) [] pos) X.env = (do let ov ← eval (.Name nm p1) X.env; standAt p2.atName; let (f, first) ← holding [ov] (getMethod ov "__init__" pl); callWith pos f first (backTo pos (starEach (e :: es) X.env)) (backToKw pos (keywordEach [] X.env)))
/-- X.__init__(self, ..) where the own class X has ValueError's -/
theorem pe_keinit {X : Cx} {e : Expr} {es : List Expr} {ta : TA} {nm : Str} {C : Addr} {p1 p2 pos : Pos} {pl : Sem Bool} (hg : Gl X nm) (hm : X.mg nm = some (.ref C)) (r : ClX.CRead X.K C (.type "type")) (vV : PySem.W.findCls X.K (.ref C) (.type "type") "__init__" = some (.val (.builtin "ValueError.__init__"))) (ha : PA X (e :: es) ta)
    (noD : (nm == ("__debug__" : Str)) = false := by decide) (form : InitForm X nm e es p1 p2 pos pl := by rfl) (each : starEach (e :: es) X.env = (false, eval e X.env) :: starEach es X.env := by rfl) (noStar : (backTo pos (starEach es X.env)).any (·.1) = false := by rfl) :
    PE X (.Call (.Attribute (.Name nm p1) "__init__" p2) (e :: es) [] pos) (tVeI X.K ta) := by
  constructor
  intro pins s σ H Q I wish
  have inits : ∀ s0, Inv X pins σ H s0 → wpAny (model X.prog X.w) X.A (callWith pos (.builtin "ValueError.__init__") [] (backTo pos (starEach (e :: es) X.env)) []) (EP X pins σ Q) X.xe s0 := by
    intro s0 I0
    refine PyProof.Rows.callWith_method1 (thn (ha.run pos pins s0 σ H _ I0 wish) ?_) each noStar
    rintro us s1 ⟨vs, H1, J, vals, a, D, ws, rfl, few, T, isE, q⟩
    rcases vals with _ | ⟨⟨⟩, rest⟩
    exact oinit_ok T J isE (by rw [← Paired.length rest, sizeLine_eq]; omega) fun s' J => ⟨.non, H1, J, rfl, q⟩
  exact PySem.W.methodCall_KW (ld_glob I hg hm (PySem.W.method_cls I.kIn r.ga (PySem.W.cls_value I.kIn r.rd vV rfl (inits _ (I.tok _)))) noD) form
end DS
namespace KD
open PySem PySem.Spec PyProof.Rows L2 DS KT KM
/-- the __init__ within a class -/
def clsInit : Stmt → Stmt
  | .ClassDef _ _ _ body _ _ _ _ _ _ _ => body.getD 0 (.Pass ⟨0, 0, 0, 0⟩)
  | s => s
abbrev s_init : Stmt := clsInit (topS 2)
abbrev N_init : List Str := ["self", "place"]
theorem sc_init : FnScope N_init ["self", "place"] (defScope s_init) := ⟨rfl, rfl, rfl, by decide +kernel, rfl, by decide +kernel, by decide +kernel⟩
/-- what the error's class bears -/
structure ErrC (K : PySem.W.Frag) (mg : Str → Option Value) (Cb Ck fI : Addr) : Prop where
  gB : mg "BadGrammar" = some (.ref Cb)
  gK : mg "KeptError" = some (.ref Ck)
  T : OexC K Cb
  rd : ClX.CRead K Ck (.type "type")
  vV : PySem.W.findCls K (.ref Ck) (.type "type") "__init__" = some (.val (.builtin "ValueError.__init__"))
  noP : PySem.W.findIn K (.ref Cb) "place" = some none
  iC : PySem.W.findIn K (.ref Cb) "__init__" = some (some (.ref fI))
  tI : PySem.W.typeIn K (.ref fI) = some (.type "function")
def spInit (Cb : Addr) : Sp := fun vs H Q _ => ∃ a v, vs = [.ref a, v] ∧ H a = some (exo a Cb none) ∧ ∀ dx, H dx = none → dx ≠ a → Q .non (upd (upd H dx (exd dx [("place", v)])) a (exo a Cb (some dx)))
section
variable {P : Program} {w : World} {K : PySem.W.Frag} {mg : Str → Option Value} {base : Heap} {Cb Ck fI : Addr}
theorem ok_init {fd : FuncData} (F : Fun K "__init__" "BadGrammar.__init__" s_init fI fd) (T : ErrC K mg Cb Ck fI) : FnOk P w K mg base (L2.CX P w) 1 fI fd ["self", "place"] (spInit Cb) := by
  refine F.okX sc_init (fun vs H Q E h => ?_) (fun cdv A outer s H vs Q E hr h => ?_)
  · obtain ⟨a, v, rfl, _⟩ := h
    rfl
  · obtain ⟨a, v, rfl, ha, q⟩ := h
    refine ⟨_, pss_cons (ps_expr (pe_keinit (X := cxOf (L2.CX P w) P w K mg base N_init "BadGrammar.__init__" (defScope s_init) fI cdv A outer s H E) (by rfl) T.gK T.rd T.vV (pa_cons (pe_var (i := 0) rfl (.inl rfl) (by decide) (by decide)) (pa_cons pe_str pa_nil))) (by rfl))
      (pss_cons (ps_ost (pe_var (i := 0) rfl (.inl rfl) (by decide) (by decide)) (pe_var (i := 1) rfl (.inl rfl) (by decide) (by decide))) pss_nil), ?_⟩
    refine ⟨_, rfl, a, Cb, [.str "not a grammar"], rfl, by show 1 ≤ 1000; decide, T.T, ha, ?_⟩
    refine ⟨_, rfl, _, rfl, a, Cb, rfl, T.T, T.noP, .inl ⟨ha, fun dx hd hne => q dx hd hne⟩⟩
def R_need : RelE := fun xs z b => ∃ x, xs = [x] ∧ ok x ∧ (KM.fault x = .none → z (.d x)) ∧ (KM.fault x ≠ .none → b (KM.fault x))
theorem isNone_of {x : PyData} (h : isNone x = true) : x = .none := by cases x <;> first | rfl | cases h
theorem b_need_grammar {fd : FuncData} {ps : List Str} (T : ErrC K mg Cb Ck fI) (G : FnOk P w K mg base (L2.CX P w) 1 fI fd ps (spInit Cb)) (bI : Binds K fd ps []) (D : Def P w K mg base "fault" 5 ["thing"] (spD K R_fault)) : BodyOkE P w K mg base N_need_grammar "need_grammar" s_need_grammar Cb 5 R_need := by
  intro f cdv A outer s H E F0 xs z b hr hR hE
  obtain ⟨x, rfl, hx, h1, h2⟩ := hR
  refine dw_set 1 sc_need_grammar.nd (dx_call D hr (da_one (dx_var 0)) ⟨x, rfl, hx, rfl⟩) ?_
  refine dw_ifR (dt_notN (dx_var 1)) (fun h => dw_one ?_) (fun h => dw_ret (x := x) (dx_var 0) (h1 (isNone_of (by simpa using h))))
  have hn : KM.fault x ≠ .none := fun e => by rw [e] at h; cases h
  refine d1_raise (M := Bm F0 H) (W := fun cls d _ H => E cls d H) (takes_of rfl rfl rfl rfl) rfl T.T T.iC T.tI G (hr.mono (by decide)) bI T.gB (dx_var 1) (fun v a H Q ha q => ⟨a, v, rfl, ha, q⟩) (fun σ F H1 dx v F' H' a g d e1 e2 e3 => ?_)
  refine hE (KM.fault x) v dx F' H' (bo_no (a.g.trans g)) (h2 hn) d (a.g.free e1) e2 e3
end
end KD
end
section
set_option Elab.async false
set_option linter.all false
set_option maxRecDepth 100000
set_option maxHeartbeats 1000000
/-! A grammar without a fault. -/
namespace KM
open PySem DS
def nm (o : PyData) : Str := txt 0 o
/-- a grammar without a fault: its options, its places, its modes -/
structure GV (g : PyData) (os ps : List PyData) (b0 b1 b2 : Bool) : Prop where
  eq : g = .tuple [.tuple os, .tuple ps, .tuple [.bool b0, .bool b1, .bool b2]]
  op : ∀ o ∈ os, isOption o = true
  pl : ∀ p ∈ ps, isPlace p = true
  nd : (os.map nm).Nodup
  ol : os.length ≤ 24
  ql : ps.length ≤ 5
theorem isBool_of {x : PyData} (h : isBool x = true) : ∃ b, x = .bool b := by
  cases x <;> first | exact ⟨_, rfl⟩ | cases h
theorem modes_of {m : PyData} (h : modesOk m = true) : ∃ a b c, m = .tuple [.bool a, .bool b, .bool c] := by
  unfold modesOk at h
  split at h
  · simp only [Bool.and_eq_true] at h
    obtain ⟨h1, h2, h3⟩ := h
    obtain ⟨a, rfl⟩ := isBool_of h1
    obtain ⟨b, rfl⟩ := isBool_of h2
    obtain ⟨c, rfl⟩ := isBool_of h3
    exact ⟨a, b, c, rfl⟩
  · cases h
theorem optF_none : ∀ {os : List PyData} {n : Nat} {ns ls : List Str}, optF os n ns ls = .none → (∀ o ∈ os, isOption o = true ∧ nm o ∉ ns) ∧ (os.map nm).Nodup
  | [], _, _, _, _ => ⟨fun o h => (nomatch h), List.nodup_nil⟩
  | o :: r, n, ns, ls, h => by
    have h' : (if isOption o = true ∧ txt 0 o ∉ ns ∧ txt 1 o ∉ ls then optF r (n + 1) (ns ++ [txt 0 o]) (if txt 1 o = "" then ls else ls ++ [txt 1 o]) else .tuple [.str "options", .int (n : Int)]) = PyData.none := h
    by_cases c : isOption o = true ∧ txt 0 o ∉ ns ∧ txt 1 o ∉ ls
    · rw [if_pos c] at h'
      obtain ⟨i1, i2⟩ := optF_none h'
      refine ⟨fun p hp => ?_, ?_⟩
      · rcases List.mem_cons.mp hp with e | hp
        · rw [e]; exact ⟨c.1, c.2.1⟩
        · exact ⟨(i1 p hp).1, fun z => (i1 p hp).2 (List.mem_append_left _ z)⟩
      · rw [List.map_cons]
        refine List.nodup_cons.mpr ⟨fun z => ?_, i2⟩
        obtain ⟨p, hp, e⟩ := List.mem_map.mp z
        exact (i1 p hp).2 (List.mem_append_right _ (by rw [e]; exact List.mem_singleton.mpr rfl))
    · rw [if_neg c] at h'; cases h'
theorem plaF_none : ∀ {os : List PyData} {n : Nat} {ns : List Str} {m : Bool}, plaF os n ns m = .none → ∀ o ∈ os, isPlace o = true
  | [], _, _, _, _ => fun o h => (nomatch h)
  | o :: r, n, ns, m, h => by
    have h' : (if isPlace o = true ∧ txt 0 o ∉ ns ∧ ¬ (m = true ∧ txt 1 o = "many") then plaF r (n + 1) (ns ++ [txt 0 o]) (m || decide (txt 1 o = "many")) else .tuple [.str "places", .int (n : Int)]) = PyData.none := h
    by_cases c : isPlace o = true ∧ txt 0 o ∉ ns ∧ ¬ (m = true ∧ txt 1 o = "many")
    · rw [if_pos c] at h'
      intro p hp
      rcases List.mem_cons.mp hp with e | hp
      · rw [e]; exact c.1
      · exact plaF_none h' p hp
    · rw [if_neg c] at h'; cases h'
theorem isNone_none {x : PyData} (h : ¬ isNone x = false) : x = .none := by
  cases x <;> first | rfl | exact absurd rfl h
theorem gv_of {g : PyData} (h : fault g = .none) : ∃ os ps b0 b1 b2, GV g os ps b0 b1 b2 := by
  unfold fault at h
  split at h
  · rename_i o p m
    by_cases c1 : isNone (optionFault o) = false
    · rw [if_pos c1] at h; rw [h] at c1; cases c1
    · rw [if_neg c1] at h
      by_cases c2 : isNone (placeFault p) = false
      · rw [if_pos c2] at h; rw [h] at c2; cases c2
      · rw [if_neg c2] at h
        by_cases c3 : modesOk m = true
        · obtain ⟨a, b, c, rfl⟩ := modes_of c3
          have e1 := isNone_none c1
          have e2 := isNone_none c2
          unfold optionFault at e1
          split at e1
          · rename_i os
            by_cases l1 : os.length > 24
            · rw [if_pos l1] at e1; cases e1
            · rw [if_neg l1] at e1
              unfold placeFault at e2
              split at e2
              · rename_i ps
                by_cases l2 : ps.length > 5
                · rw [if_pos l2] at e2; cases e2
                · rw [if_neg l2] at e2
                  obtain ⟨i1, i2⟩ := optF_none e1
                  exact ⟨os, ps, a, b, c, rfl, fun o ho => (i1 o ho).1, plaF_none e2, i2, by omega, by omega⟩
              · cases e2
          · cases e1
        · rw [if_neg c3] at h; cases h
  · cases h
/-- option_told -/
def told (os : List PyData) (b : Bool) (t : Str) : PyData := match os.find? (fun o => decide (nm o = t)) with
  | some o => o
  | none => if (b && (!decide (t = "") && decide (((os.filter fun o => Txt.startswith (nm o) t).length : Int) = 1))) = true then (os.filter fun o => Txt.startswith (nm o) t).getD 0 .none else .none
/-- numbers_of -/
def ars (ps : List PyData) : List Str := ps.map (txt 1)
def numOf (ps : List PyData) : PyData := .tuple [.int ((ars ps).count ("one" : Str) : Nat), if ("many" : Str) ∈ ars ps then .none else .int (((ars ps).count ("one" : Str) : Nat) + ((ars ps).count ("may" : Str) : Nat))]
end KM
end
section
set_option Elab.async false
set_option linter.all false
set_option maxRecDepth 100000
set_option maxHeartbeats 2000000
namespace KD
open PySem PySem.Spec PyProof.Rows L2 DS KT KM
section
variable {P : Program} {w : World} {K : PySem.W.Frag} {mg : Str → Option Value} {base : Heap} {Cb Ck fI : Addr}
theorem opt_eq {o : PyData} (h : isOption o = true) : ∃ b k, o = .tuple [.str (nm o), .str b, .str k] := by
  obtain ⟨a, b, k, rfl, _⟩ := isOption_tup h
  exact ⟨b, k, rfl⟩
theorem opt_len {o : PyData} (h : isOption o = true) : 2 ≤ (nm o).length ∧ (nm o).length ≤ 12 := by
  obtain ⟨a, b, k, rfl, h1, _⟩ := isOption_tup h
  obtain ⟨s, e, h2, h3⟩ := isName_str h1
  cases e
  exact ⟨h2, h3⟩
theorem pla_eq {o : PyData} (h : isPlace o = true) : o = .tuple [.str (txt 0 o), .str (txt 1 o)] := by
  obtain ⟨a, b, rfl, _⟩ := isPlace_tup h
  rfl
/-- e[0] of an option -/
theorem dx_nm {X : Cx} {O : Own} {ds : List Sl} {a : Expr} {o : PyData} {p pos : Pos} {j : Nat} (h : isOption o = true) (ha : DX X O ds a o) : DX X O ds (.Subscript a (.Constant (.int 0) j p) pos) (.str (nm o)) := by
  obtain ⟨b, k, e⟩ := opt_eq h
  rw [e] at ha
  exact dx_ixT ha dx_int rfl
def R_option_told : Rel := fun xs z => ∃ g t os ps b0 b1 b2, xs = [g, .str t] ∧ GV g os ps b0 b1 b2 ∧ t.length ≤ 100 ∧ z = told os b0 t
theorem told_none {os : List PyData} {t : Str} (h : ∀ o ∈ os, nm o ≠ t) : os.find? (fun o => decide (nm o = t)) = none := by
  rw [List.find?_eq_none]
  intro o ho
  simpa using h o ho
theorem b_option_told (m : Free mg) (c : Cons K mg) : BodyOk P w K mg base N_option_told "option_told" s_option_told 0 R_option_told := by
  intro f cdv A outer s H E F0 xs z hr hR
  obtain ⟨g, t, os, ps, b0, b1, b2, rfl, hg, ht, rfl⟩ := hR
  obtain ⟨rfl, hop, hpl, hnd, hol, hql⟩ := hg
  refine dw_for (xs := os) (g := tg1 2) PassesOwn.never rfl (di_tup (dx_ixT (dx_var 0) dx_int rfl)) (fun _ => dtg1 2 sc_option_told.nd) (fun i ds => (∃ u, ds = [.d (.tuple [.tuple os, .tuple ps, .tuple [.bool b0, .bool b1, .bool b2]]), .d (.str t), u, .u]) ∧ ∀ o ∈ os.take i, nm o ≠ t) ⟨⟨.u, rfl⟩, fun o h => by rw [List.take_zero] at h; cases h⟩ (fun i o ds1 hy hI => ?_) (fun ds1 hI => ?_)
  · obtain ⟨⟨u, rfl⟩, hI⟩ := hI
    have ho := hop o (List.mem_of_getElem? hy)
    refine ⟨_, rfl, ?_⟩
    refine dw_ifR (dt_cmp op_eq (dx_nm ho (dx_var 2)) (dx_var 1) op2_eqS) (fun h => dw_ret (x := o) (dx_var 2) ?_) (fun h => dw_nil ⟨rfl, ⟨.d o, rfl⟩, fun p hp => ?_⟩)
    · show Sl.d _ = Sl.d _
      have : os.find? (fun o => decide (nm o = t)) = some o := by
        rw [List.find?_eq_some_iff_append]
        refine ⟨h, os.take i, os.drop (i + 1), ?_, fun a ha => by simpa using hI a ha⟩
        rw [← drop_get hy, List.take_append_drop]
      unfold told
      rw [this]
    · rw [take_snoc hy] at hp
      rcases List.mem_append.mp hp with hp | hp
      · exact hI p hp
      · rw [List.mem_singleton.mp hp]; exact of_decide_eq_false h
  · obtain ⟨⟨u, rfl⟩, hI⟩ := hI
    rw [List.take_length] at hI
    have e0 := told_none hI
    refine dw_setLc (i := 3) (own := [("option", 2)]) (xs := os) (g := tg1 2) (fun o => Txt.startswith (nm o) t) (fun o => o) rfl sc_option_told.nd (dig_of (di_tup (dx_ixT (dx_var 0) dx_int rfl))) (blkOk_by (N := N_option_told) (sc := defScope s_option_told) (by decide +kernel)) (by omega) (fun s H C cl fp => dtg1 2 sc_option_told.nd) (fun x hx => ⟨_, rfl⟩) (fun s H C cl fp o ds1 hx e => ?_) (fun s H C cl fp o ds1 hx _ e => ?_) ?_
    · cases e
      exact pts_one (dt_val (dx_starts (dx_nm (hop o hx) (dx_var 2)) (dx_var 1)))
    · cases e
      exact dx_var 2
    · rw [List.map_id']
      have hz : told os b0 t = if (b0 && (!decide (t = "") && decide (((os.filter fun o => Txt.startswith (nm o) t).length : Int) = 1))) = true then (os.filter fun o => Txt.startswith (nm o) t).getD 0 .none else .none := by
        unfold told; rw [e0]
      rw [hz]
      refine dw_ret (dx_if (k := b0 && (!decide (t = "") && decide (((os.filter fun o => Txt.startswith (nm o) t).length : Int) = 1))) (dw_pt (dw_and (dt_val (dx_ixT (dx_ixT (dx_var 0) dx_int rfl) (dx_gI c.short) rfl)) fun _ => dw_and (dt_cmp op_ne (dx_var 1) dx_str op2_neS) fun _ => dw_and1 (dt_cmp op_eq (dx_len m.len (dl_var 3)) dx_int op2_eqI))) (fun h => ?_) (fun h => ?_)) rfl
      · have hl : (os.filter fun o => Txt.startswith (nm o) t).length = 1 := by
          simp only [Bool.and_eq_true, decide_eq_true_eq] at h
          omega
        rw [if_pos h]
        refine dx_ixLt (dlt_var 3) dx_int ?_
        match os.filter fun o => Txt.startswith (nm o) t, hl with
        | [o], _ => rfl
      · rw [if_neg (by rw [h]; decide)]
        exact dx_non
/-! ### numbers_of -/
theorem countIn_strs (k : Str) : ∀ ss : List Str, countIn (.str k) (ss.map PyData.str) = ((ss.count k : Nat) : Int)
  | [] => rfl
  | s :: ss => by
    have ih := countIn_strs k ss
    rw [List.map_cons]
    unfold countIn
    rw [ih, List.count_cons]
    have : PySem.Spec.same (.str s) (.str k) = (s == k) := by unfold PySem.Spec.same; rfl
    rw [this]
    by_cases e : s == k
    · rw [if_pos e, if_pos e]; omega
    · rw [if_neg e, if_neg e]; omega
def R_numbers_of : Rel := fun xs z => ∃ g os ps b0 b1 b2, xs = [g] ∧ GV g os ps b0 b1 b2 ∧ z = numOf ps
theorem b_numbers_of (m : Free mg) : BodyOk P w K mg base N_numbers_of "numbers_of" s_numbers_of 0 R_numbers_of := by
  intro f cdv A outer s H E F0 xs z hr hR
  obtain ⟨g, os, ps, b0, b1, b2, rfl, hg, rfl⟩ := hR
  obtain ⟨rfl, hop, hpl, hnd, hol, hql⟩ := hg
  refine dw_setLc (i := 1) (own := [("place", 3)]) (xs := ps) (g := tg1 3) (fun _ => true) (fun o => .str (txt 1 o)) rfl sc_numbers_of.nd (dig_of (di_tup (dx_ixT (dx_var 0) dx_int rfl))) (blkOk_by (N := N_numbers_of) (sc := defScope s_numbers_of) (by decide +kernel)) (by omega) (fun s H C cl fp => dtg1 3 sc_numbers_of.nd) (fun x hx => ⟨_, rfl⟩) (fun s H C cl fp o ds1 hx e => pts_no) (fun s H C cl fp o ds1 hx _ e => ?_) ?_
  · cases e
    have e1 := pla_eq (hpl o hx)
    refine dx_ixT (xs := [.str (txt 0 o), .str (txt 1 o)]) (dx_is (dx_var 3) e1) dx_int rfl
  · rw [filter_yes]
    have e2 : ps.map (fun o => PyData.str (txt 1 o)) = (ars ps).map PyData.str := by unfold ars; rw [List.map_map]; rfl
    rw [e2]
    refine dw_set 2 sc_numbers_of.nd (dx_is (dx_count (dlt_var 1) dx_str) (by rw [countIn_strs])) ?_
    refine dw_ret (x := numOf ps) (dx_tup (da_cons (dx_var 2) (da_one (dx_if (k := decide (("many" : Str) ∈ ars ps)) (dt_in dx_str (dl_var 1)) (fun h => ?_) (fun h => ?_)))) (by show 2 ≤ 100000; decide)) rfl
    · rw [if_pos (of_decide_eq_true h)]; exact dx_non
    · rw [if_neg (of_decide_eq_false h)]
      exact dx_add (dx_var 2) (dx_is (dx_count (dlt_var 1) dx_str) (by rw [countIn_strs]))
end
end KD
end
section
set_option Elab.async false
set_option linter.all false
set_option maxRecDepth 100000
set_option maxHeartbeats 2000000
namespace DS
open PySem PySem.Spec PyProof.Rows L2
section
variable {X : Cx} {O : Own} {ds : List Sl} {e tg : Expr} {es : List Expr} {R : Rs} {pos p : Pos} {nm : Str} {k : Nat} {ps : List Str} {sp : Sp} {M : Frm} {C : Cn} {rest : List Stmt}
/-- told where the body's entry is known -/
def tGA (K : PySem.W.Frag) (M : Frm) (ds : List Sl) (R : Rs) : TE := fun σ H Q => ∃ F, At K M F σ H ds ∧ ∀ v F' H', Grow M.O F H F' H' → M.O.J H' → R H F' H' v → Q v H'
abbrev DGA (X : Cx) (M : Frm) (ds : List Sl) (e : Expr) (R : Rs) : Prop := PE X e (tGA X.K M ds R)
theorem dga_of (h : DG X M.O ds e R) : DGA X M ds e R := pe_mono h fun σ H Q ⟨F, a, q⟩ => ⟨F, a.st, q⟩
/-- e never comes to an end -/
abbrev DNo (X : Cx) (M : Frm) (ds : List Sl) (e : Expr) : Prop := DGA X M ds e (fun _ _ _ _ => False)
theorem dg_callN (D : Def X.prog X.w X.K X.mg X.base nm k ps sp) (hr : Room k X.A) (ha : DNo X M ds e) (hg : Gl X nm := by rfl) (hdb : (nm == ("__debug__" : Str)) = false := by decide)
    (he : starEach [e] X.env = (false, eval e X.env) :: starEach [] X.env := by rfl) : DNo X M ds (.Call (.Name nm p) [e] [] pos) := by
  obtain ⟨f, fd, G, hm, hk, hb⟩ := D.ex
  exact pe_mono (pe_call G hr hg hm hk hb .nil passL (pa1 ha he) hdb he rfl) fun σ H Q ⟨F, st, q⟩ => ⟨F, st, fun v F1 H1 g1 j1 d1 => d1.elim⟩
/-- a call that may raise, where the entry is known -/
theorem dga_callW {zz : Sl → Prop} {bb : PyData → Prop} {E : XK} {W : WX} {Rl : RelE} {Cb : Addr} {xs : List PyData} (D : Def X.prog X.w X.K X.mg X.base nm k ps (spE X.K Cb Rl)) (hr : Room k X.A) (tk : Takes X W) (hW : ∀ cls d σ H, E cls d H → W cls d σ H) (ha : DA X M.O ds (e :: es) xs) (hR : Rl xs zz bb)
    (hE : ∀ σ F H F1 H1, At X.K M F σ H ds → Grow M.O F H F1 H1 → M.O.J H1 → Wb X.K Cb F1 H1 bb E) (hg : Gl X nm := by rfl) (hdb : (nm == ("__debug__" : Str)) = false := by decide)
    (he : starEach (e :: es) X.env = (false, eval e X.env) :: starEach es X.env := by rfl) (hpl : (backTo pos (starEach es X.env)).any (·.1) = false := by rfl) : DGA X M ds (.Call (.Name nm p) (e :: es) [] pos) (rR X.K zz) := by
  obtain ⟨f, fd, G, hm, hk, hb⟩ := D.ex
  refine pe_mono (pe_call G hr hg hm hk hb .nil (passes_call tk hW) ha hdb he hpl) fun σ H Q ⟨F, st, q⟩ => ⟨F, st.st, fun vs F1 H1 g1 j1 d1 => ?_⟩
  refine ⟨F1, xs, zz, bb, g1.s, (List.append_nil vs).symm ▸ d1, hR, fun v r F2 H2 g2 o hz => q v F2 H2 (g1.trans g2.lift) (g2.j j1) ⟨r, hz, ?_⟩, hE σ F H F1 H1 st g1 j1⟩
  cases r with
  | u => exact o
  | d x => exact o
  | v x => exact o
  | l xs => obtain ⟨p, vs, h1, h2, h3⟩ := o; exact ⟨p, vs, h1, g1.free h2, h3⟩
  | m kvs => obtain ⟨p, h1, h2, h3⟩ := o; exact ⟨p, h1, g1.free h2, h3⟩
theorem dno_ofR (h : DGA X M ds e (rR X.K (fun _ => False))) : DNo X M ds e := pe_mono h fun σ H Q ⟨F, a, q⟩ => ⟨F, a, fun v F' H' g j ⟨_, z, _⟩ => z.elim⟩
theorem d1_unpN {g : TG} (he : DNo X M ds e) (hg : PG X tg g) (hs : swapsWithSole [tg] e pos.line X.env = pure false := by rfl) (hw : swappedStores [tg] e X.env = pure none := by rfl)
    (h1 : (assignEach [tg] X.env).map (·.2) = [assign tg X.env] := by rfl) : D1 X M ds (.Assign [tg] e pos) C :=
  ps_mono (ps_asg he hg hs hw h1) fun D σ H ⟨F, a, q1, _⟩ => ⟨F, a, fun v F' H' g' j d => d.elim⟩
theorem dw_unpN {g : TG} (he : DNo X M ds e) (hg : PG X tg g) (hs : swapsWithSole [tg] e pos.line X.env = pure false := by rfl) (hw : swappedStores [tg] e X.env = pure none := by rfl)
    (h1 : (assignEach [tg] X.env).map (·.2) = [assign tg X.env] := by rfl) : DW X M ds (.Assign [tg] e pos :: rest) C :=
  dw_seq (N := fun _ => False) (d1_unpN he hg hs hw h1) fun _ z => z.elim
/-- return of a call, as it comes -/
theorem dw_retN (he : DNo X M ds e) : DW X M ds [.Return (some e) pos] C := pss_one (ps_mono (ps_ret he) fun D σ H ⟨F, a, _⟩ => ⟨F, a, fun v F' H' g j z => z.elim⟩)
theorem dw_retR {zz : Sl → Prop} (he : DGA X M ds e (rR X.K zz)) (h : ∀ r, zz r → C.rt M.O r) : DW X M ds [.Return (some e) pos] C :=
  pss_one (ps_mono (ps_ret he) fun D σ H ⟨F, a, _, q, _⟩ => ⟨F, a, fun v F' H' g j ⟨r, hz, o⟩ => by
    refine q v r F' H' M.O (Sm.refl _) (a.g.trans g) j ?_ (h r hz)
    cases r with
    | u => exact o
    | d x => exact o
    | v x => exact o
    | l xs => obtain ⟨p, vs, h1, h2, h3⟩ := o; exact ⟨p, vs, h1, a.g.free h2, h3⟩
    | m kvs => obtain ⟨p, h1, h2, h3⟩ := o; exact ⟨p, h1, a.g.free h2, h3⟩⟩)
end
end DS
namespace KD
open PySem PySem.Spec PyProof.Rows L2 DS KT KM
section
variable {P : Program} {w : World} {K : PySem.W.Frag} {mg : Str → Option Value} {base : Heap} {Cb Ck fI : Addr}
/-- need_grammar: no fault -/
theorem dx_need {X : Cx} {O : Own} {ds : List Sl} {e : Expr} {x : PyData} {p pos : Pos} (D : Def X.prog X.w X.K X.mg X.base "need_grammar" 6 ["thing"] (spE X.K Cb R_need)) (hr : Room 6 X.A) (ha : DX X O ds e x) (hx : ok x) (hf : KM.fault x = .none) (hg : Gl X "need_grammar" := by rfl)
    (he : starEach [e] X.env = (false, eval e X.env) :: starEach [] X.env := by rfl) : DX X O ds (.Call (.Name "need_grammar" p) [e] [] pos) x :=
  dx_ofR (dg_callE (zz := fun r => r = .d x) D hr (da_one ha he) ⟨x, rfl, hx, fun _ => rfl, fun z => z hf⟩ hg (by decide) he)
/-- .. a fault -/
theorem dn_need {X : Cx} {M : Frm} {ds : List Sl} {e : Expr} {x : PyData} {p pos : Pos} {E : XK} {W : WX} (D : Def X.prog X.w X.K X.mg X.base "need_grammar" 6 ["thing"] (spE X.K Cb R_need)) (hr : Room 6 X.A) (tk : Takes X W) (hW : ∀ cls d σ H, E cls d H → W cls d σ H) (ha : DX X M.O ds e x) (hx : ok x) (hf : KM.fault x ≠ .none)
    (hE : ∀ σ F H F1 H1, At X.K M F σ H ds → Grow M.O F H F1 H1 → M.O.J H1 → Wb X.K Cb F1 H1 (fun p => p = KM.fault x) E) (hg : Gl X "need_grammar" := by rfl)
    (he : starEach [e] X.env = (false, eval e X.env) :: starEach [] X.env := by rfl) : DNo X M ds (.Call (.Name "need_grammar" p) [e] [] pos) :=
  dno_ofR (dga_callW (zz := fun _ => False) (bb := fun p => p = KM.fault x) D hr tk hW (da_one ha he) ⟨x, rfl, hx, fun z => hf z, fun _ => rfl⟩ hE hg (by decide) he)
theorem wb_at {F0 H F H2 F1 H1 : Hp} {b b' : PyData → Prop} {E : XK} {σ : L2.St} {ds : List Sl} (h : Wb K Cb F0 H b E) (a : At K (Bm F0 H) F σ H2 ds) (g : Grow (Bo H) F H2 F1 H1) (i : ∀ p, b' p → b p) : Wb K Cb F1 H1 b' E :=
  fun p dv dx F' H' g' hb d e1 e2 e3 => by
    have g0 := bo_no (a.g.trans g)
    exact h p dv dx F' H' (g0.trans g') (i p hb) d (g0.free e1) e2 e3
def R_numbers : RelE := fun xs z b => ∃ x, xs = [x] ∧ ok x ∧ (∀ os ps b0 b1 b2, KM.fault x = .none → GV x os ps b0 b1 b2 → z (.d (numOf ps))) ∧ (KM.fault x ≠ .none → b (KM.fault x))
theorem b_numbers (D1 : Def P w K mg base "numbers_of" 1 ["grammar"] (spD K R_numbers_of)) (D2 : Def P w K mg base "need_grammar" 6 ["thing"] (spE K Cb R_need)) : BodyOkE P w K mg base N_numbers "numbers" s_numbers Cb 6 R_numbers := by
  intro f cdv A outer s H E F0 xs z b hr hR hE
  obtain ⟨x, rfl, hx, h1, h2⟩ := hR
  by_cases hf : KM.fault x = .none
  · obtain ⟨os, ps, b0, b1, b2, hg⟩ := gv_of hf
    exact dw_ret (x := numOf ps) (dx_call D1 (hr.mono (by decide)) (da_one (dx_need D2 hr (dx_var 0) hx hf)) ⟨x, os, ps, b0, b1, b2, rfl, hg, rfl⟩) (h1 os ps b0 b1 b2 hf hg)
  · exact dw_retN (dg_callN D1 (hr.mono (by decide)) (dn_need (M := Bm F0 H) (E := E) (W := fun cls d _ H => E cls d H) D2 hr (takes_of rfl rfl rfl rfl) (fun _ _ _ _ h => h) (dx_var 0) hx hf fun σ F H2 F1 H1 st g j => wb_at hE st g fun p e => e ▸ h2 hf))
def R_with : RelE := fun xs z b => ∃ x o, xs = [x, o] ∧ ok x ∧ (∀ os ps b0 b1 b2, KM.fault x = .none → GV x os ps b0 b1 b2 → ∃ more, o = .tuple more ∧ more.length ≤ 1000 ∧ ok (.tuple [.tuple (os ++ more), .tuple ps, .tuple [.bool b0, .bool b1, .bool b2]]) ∧
  (KM.fault (.tuple [.tuple (os ++ more), .tuple ps, .tuple [.bool b0, .bool b1, .bool b2]]) = .none → z (.d (.tuple [.tuple (os ++ more), .tuple ps, .tuple [.bool b0, .bool b1, .bool b2]]))) ∧
  (KM.fault (.tuple [.tuple (os ++ more), .tuple ps, .tuple [.bool b0, .bool b1, .bool b2]]) ≠ .none → b (KM.fault (.tuple [.tuple (os ++ more), .tuple ps, .tuple [.bool b0, .bool b1, .bool b2]])))) ∧ (KM.fault x ≠ .none → b (KM.fault x))
theorem b_with_options (D2 : Def P w K mg base "need_grammar" 6 ["thing"] (spE K Cb R_need)) : BodyOkE P w K mg base N_with_options "with_options" s_with_options Cb 6 R_with := by
  intro f cdv A outer s H E F0 xs z b hr hR hE
  obtain ⟨x, o, rfl, hx, h1, h2⟩ := hR
  by_cases hf : KM.fault x = .none
  · obtain ⟨os, ps, b0, b1, b2, hg⟩ := gv_of hf
    obtain ⟨more, rfl, hml, hy, h3, h4⟩ := h1 os ps b0 b1 b2 hf hg
    have eg := hg.eq
    subst eg
    refine dw_unp (dx_need D2 hr (dx_var 0) hx hf) (dtg3 2 3 4 rfl sc_with_options.nd (gn 2 sc_with_options.nd) (gn 3 sc_with_options.nd) (gn 4 sc_with_options.nd)) rfl ?_
    have hl := hg.ol
    have hd : ∀ {p p1 p2 p3 p4 p5 : Pos} {k : Nat}, DX (BxE P w K mg base N_with_options "with_options" (defScope s_with_options) f cdv A outer s H E) (Bm F0 H).O [.d (.tuple [.tuple os, .tuple ps, .tuple [.bool b0, .bool b1, .bool b2]]), .d (.tuple more), .d (.tuple os), .d (.tuple ps), .d (.tuple [.bool b0, .bool b1, .bool b2])]
        (.Tuple [.BinOp (.Name "own" p) .Add (.Name "options" p1) p2, .Name "places" p3, .Name "modes" p4] k p5) (.tuple [.tuple (os ++ more), .tuple ps, .tuple [.bool b0, .bool b1, .bool b2]]) :=
      dx_tup (da_cons (dx_catT (dx_var 2) (dx_var 1) (by omega)) (da_cons (dx_var 3) (da_one (dx_var 4)))) (by show 3 ≤ 100000; decide)
    by_cases hf2 : KM.fault (.tuple [.tuple (os ++ more), .tuple ps, .tuple [.bool b0, .bool b1, .bool b2]]) = .none
    · exact dw_ret (dx_need D2 hr hd hy hf2) (h3 hf2)
    · exact dw_retN (dn_need (M := Bm F0 H) (E := E) (W := fun cls d _ H => E cls d H) D2 hr (takes_of rfl rfl rfl rfl) (fun _ _ _ _ h => h) hd hy hf2 fun σ F H2 F1 H1 st g j => wb_at hE st g fun p e => e ▸ h4 hf2)
  · exact dw_unpN (dn_need (M := Bm F0 H) (E := E) (W := fun cls d _ H => E cls d H) D2 hr (takes_of rfl rfl rfl rfl) (fun _ _ _ _ h => h) (dx_var 0) hx hf fun σ F H2 F1 H1 st g j => wb_at hE st g fun p e => e ▸ h2 hf) (dtg3 2 3 4 rfl sc_with_options.nd (gn 2 sc_with_options.nd) (gn 3 sc_with_options.nd) (gn 4 sc_with_options.nd) (O := Bo H))
end
end KD
end
section
set_option Elab.async false
set_option linter.all false
set_option maxRecDepth 100000
set_option maxHeartbeats 2000000
namespace DS
open PySem PySem.Spec PyProof.Rows L2
open Evl (Ex ex_l ex_t ex_rd)
abbrev tX (ss : List Str) : List PyData := ss.map PyData.str
theorem dp_txt {K : PySem.W.Frag} {F : Hp} : ∀ ss : List Str, DpAll K F (ss.map V.str) (tX ss)
  | [] => .nil
  | s :: ss => .cons (.str s) (dp_txt ss)
section
variable {X : Cx} {O : Own} {ds : List Sl} {e a b : Expr} {xs ys : List PyData} {ss : List Str} {pos p p1 p2 apos cpos : Pos} {M : Frm} {C : Cn} {rest : List Stmt} {nm : Str} {kvs : List (Key × V)}
/-! ### sorted(set(e)) -/
def rSt (w : World) (ss : List Str) : Rs := fun _ F' H' v => ∃ p zs, v = .ref p ∧ H' p = some (SetO w p zs) ∧ zs.Nodup ∧ (∀ y, y ∈ zs ↔ y ∈ ss)
theorem dg_set (hc : X.calm = true) (hm : X.mg "set" = none) (ha : DLs X O ds e (tX ss)) (hl : ss.length ≤ 4000) (hg : Gl X "set" := by rfl) (he : starEach [e] X.env = (false, eval e X.env) :: starEach [] X.env := by rfl) : DG X O ds (.Call (.Name "set" p) [e] [] pos) (rSt X.w ss) :=
  dg_callT1 (call_setL hc) hm PyProof.Rows.boot_set ha (fun F0 H0 F H v Q g j r q => by
    obtain ⟨a, vs, rfl, h1, h2⟩ := r
    rw [dpAll_strs h2] at h1
    refine ⟨a, ss, rfl, h1, by show _ < 4096; omega, fun p zs hn hm hp => ?_⟩
    exact q _ F _ (Grow.own g.s hp) ⟨p, zs, rfl, upd_same, hn, hm⟩) hg (by decide) (by decide) he
theorem own_of {K : PySem.W.Frag} {O : Own} {F H F1 H1 : Hp} {l : Addr} {vs : List V} (g : Grow O F H F1 H1) (hl : H1 l = none) (d : DpAll K F1 vs xs) : Grow Own.no F1 H1 F1 (upd H1 l (.lst vs)) ∧ (∃ p us, V.ref l = .ref p ∧ H p = none ∧ F1 p = none ∧ upd H1 l (.lst vs) p = some (.lst us) ∧ DpAll K F1 us xs) := by
  refine ⟨Grow.own g.s hl, l, vs, rfl, g.free hl, ?_, upd_same, d⟩
  cases e : F1 l with
  | none => rfl
  | some u => rw [g.s l u e] at hl; cases hl
theorem do_sortedS (hc : X.calm = true) (hu : X.A.units + 64 < cLine) (hm : X.mg "sorted" = none) (ha : DG X O ds e (rSt X.w ss)) (hl : ss.length ≤ 4000) (hg : Gl X "sorted" := by rfl) (he : starEach [e] X.env = (false, eval e X.env) :: starEach [] X.env := by rfl) : DO X O ds (.Call (.Name "sorted" p) [e] [] pos) (tX (canon ss)) :=
  dg_call1 (call_sortedS hc hu) hm PyProof.Rows.boot_sorted ha (fun F0 H0 F H v Q g j r q => by
    obtain ⟨a, zs, rfl, h1, h2, h3⟩ := r
    have e := canon_of h2 h3
    refine ⟨a, zs, rfl, h1, ?_, fun l hl' => ?_⟩
    · rw [← (sortT_perm zs).length_eq, e]
      exact Nat.le_trans (canon_len ss) (Nat.le_trans hl (by rw [sizeLine_eq]; decide))
    · rw [e]
      obtain ⟨g1, o1⟩ := own_of (xs := tX (canon ss)) g hl' (dp_txt _)
      exact q _ F _ g1 o1) hg (by decide) (by decide) he

/-! ### dicts of one's own -/
def rMt (O : Own) (kvs : List (Key × V)) : Rs := fun _ F' H' v => ∃ p, v = .ref p ∧ ¬ O.S p ∧ F' p = none ∧ H' p = some (.dK kvs)
abbrev DMt (X : Cx) (O : Own) (ds : List Sl) (e : Expr) (kvs : List (Key × V)) : Prop := DG X O ds e (rMt O kvs)
theorem dmt_var (i : Nat) {nm : Str} (hd : ds[i]? = some (.m kvs) := by rfl) (hN : X.N[i]? = some nm := by rfl) (hv : Vis X.env.scope nm := by first | exact Or.inl rfl | exact Or.inr (Or.inl rfl) | exact Or.inr (Or.inr rfl))
    (h1 : (nm == ("__debug__" : Str)) = false := by decide) (h2 : (nm == ("__classdict__" : Str)) = false := by decide) : DMt X O ds (.Name nm pos) kvs :=
  pe_mono (pe_var hN hv h1 h2) fun σ H Q ⟨F, st, q⟩ => by
    obtain ⟨p, e1, f, ns, hp, w⟩ := st.dic hd
    exact ⟨.ref p, e1, q _ F H (Grow.refl st.ex) st.j ⟨p, rfl, ns, f, hp⟩⟩
theorem dmt_of (h : DM X O ds e kvs) : DMt X O ds e kvs :=
  pe_mono h fun σ H Q ⟨F, st, q⟩ => ⟨F, st, fun v F' H' g j ⟨p, e, h1, h2, h3⟩ => q v F' H' g j ⟨p, e, fun s => O.dom st.j s h1, h2, h3⟩⟩
/-- {} -/
theorem dm_nil : DM X O ds (.Dict [] [] pos) [] :=
  pe_mono pe_dnewK fun σ H Q ⟨F, st, q⟩ p hp => by
    refine q _ F _ (Grow.own st.ex hp) (own_new st.j hp) ⟨p, rfl, hp, ?_, upd_same⟩
    cases e : F p with
    | none => rfl
    | some u => rw [st.ex p u e] at hp; cases hp
theorem dv_ofS {s : Str} (h : DX X O ds e (.str s)) : DG X O ds e (rV (.str s)) := dg_imp h fun _ _ _ _ r => Dp.str_eq r
theorem dv_ofB {s : Bool} (h : DX X O ds e (.bool s)) : DG X O ds e (rV (.bl s)) := dg_imp h fun _ _ _ _ r => Dp.bool_eq r
/-- d[k] = v at a dict of one's own -/
theorem d1_dput (i : Nat) {nm : Str} {k : Str} {x : V} (hu : X.A.units + 64 < cLine) (hk : DX X M.O ds b (.str k)) (hv : DG X M.O ds e (rV x)) (h : C.nx M.O (ds.set i (.m (putK kvs (Sum.inr k) x)))) (hl : kvs.length < 100000) (hd : ds[i]? = some (.m kvs) := by rfl) (hN : X.N[i]? = some nm := by rfl)
    (hvs : Vis X.env.scope nm := by first | exact Or.inl rfl | exact Or.inr (Or.inl rfl) | exact Or.inr (Or.inr rfl)) (h1 : (nm == ("__debug__" : Str)) = false := by decide) (h2 : (nm == ("__classdict__" : Str)) = false := by decide)
    (hs : swapsWith e (some (.Subscript (.Name nm p) b p2)) pos.line X.env = pure false := by rfl) : D1 X M ds (.Assign [.Subscript (.Name nm p) b p2] e pos) C :=
  ps_mono (ps_dput (by omega) (pe_var hN hvs h1 h2) hk hv hs) fun D σ H ⟨F, a, q1, _⟩ => ⟨F, a.st, fun v F1 H1 g1 j1 ev => by
    have a1 := a.grow g1 j1
    obtain ⟨o, e1, f, ns, hp, w⟩ := a1.st.dic hd
    have ev : v = x := ev
    subst ev
    refine ⟨.ref o, e1, F1, a1.st, fun y F2 H2 g2 j2 dy => ?_⟩
    have ey := Dp.str_eq dy
    subst ey
    have a2 := a1.grow g2 j2
    have hp2 := g2.h _ _ ns hp
    refine ⟨o, _, rfl, DPut.k (k := Sum.inr k) hp2 (Evl.sz_lt hl), q1.here (g1.f.trans g2.f) (a2.write (s := .m kvs) (t := .m (putK kvs (Sum.inr k) v)) hd rfl e1 ⟨o, rfl, ?_, ns, upd_same, w⟩ rfl) h⟩
    obtain ⟨o', e1', f', _⟩ := a2.st.dic hd
    rw [e1] at e1'
    cases e1'
    exact f'⟩
theorem dw_dput (i : Nat) {nm : Str} {k : Str} {x : V} (hu : X.A.units + 64 < cLine) (hk : DX X M.O ds b (.str k)) (hv : DG X M.O ds e (rV x)) (h : DW X M (ds.set i (.m (putK kvs (Sum.inr k) x))) rest C) (hl : kvs.length < 100000) (hd : ds[i]? = some (.m kvs) := by rfl) (hN : X.N[i]? = some nm := by rfl)
    (hvs : Vis X.env.scope nm := by first | exact Or.inl rfl | exact Or.inr (Or.inl rfl) | exact Or.inr (Or.inr rfl)) (h1 : (nm == ("__debug__" : Str)) = false := by decide) (h2 : (nm == ("__classdict__" : Str)) = false := by decide)
    (hs : swapsWith e (some (.Subscript (.Name nm p) b p2)) pos.line X.env = pure false := by rfl) : DW X M ds (.Assign [.Subscript (.Name nm p) b p2] e pos :: rest) C :=
  dw_seq (N := fun d => d = ds.set i (.m (putK kvs (Sum.inr k) x))) (d1_dput i hu hk hv ⟨rfl, rfl⟩ hl hd hN hvs h1 h2 hs) fun _ e => e ▸ h
/-- d[k] -/
theorem dx_dget {k : Str} {x : V} {z : PyData} (hu : X.A.units + 64 < cLine) (ho : DMt X O ds a kvs) (hk : DX X O ds b (.str k)) (hx : valV kvs (Sum.inr k) = some x) (hz : ∀ F, Dp X.K F x z) (hs : NoSl b := by intro _ _; rfl) : DX X O ds (.Subscript a b pos) z :=
  pe_mono (pe_dget (by omega) ho hk hs) fun σ H Q ⟨F, st, q⟩ => ⟨F, st, fun v F1 H1 g1 j1 ⟨o, ev, ns, f, hp⟩ => ⟨F1, st.grow g1 j1, fun y F2 H2 g2 j2 dy => by
    have ey := Dp.str_eq dy
    subst ey
    refine ⟨o, x, ev, ?_, q _ F2 H2 (g1.trans g2) j2 (hz F2)⟩
    rw [← hx]
    exact DGet.k (k := Sum.inr k) (g2.h _ _ ns hp)⟩⟩
/-- sorted(d) -/
theorem call_sortedDk {X : Cx} (hc : X.calm = true) (hu : X.A.units + 64 < cLine) : CallR X (.builtin "sorted") (fun xs H Q => ∃ (a : Addr) (kvs : List (Key × V)) (ks : List Str), xs = [.ref a] ∧ H a = some (.dK kvs) ∧ kvs.map (·.1) = ks.map Sum.inr ∧ ∀ p, H p = none → Q (.ref p) (upd H p (.lst ((sortT ks).map V.str)))) := by
  rintro pins s σ H _ us Q I r ⟨a, kvs, ks, rfl, ha, hks, q⟩
  obtain ⟨_, rfl, ⟨⟩⟩ := r.one
  obtain ⟨small, lo, vs, rel, isD⟩ := dk_rd I.hok (.inl ha)
  obtain ⟨ep, hat⟩ := isD.dictAt
  have hkeys : vs.map (·.1) = ks.map Sum.inr := rel.keys.symm.trans hks
  have hl : vs.length = ks.length := (List.length_map ..).symm.trans ((congrArg List.length hkeys).trans (List.length_map ..))
  have hvl : vs.length ≤ sizeLine := rel.length ▸ small
  refine sorted_enter (PySem.W.kdu_collect (A := X.A.in1) (PySem.W.kdl_dict (knd := mixKind X.prog X.w) (kvs := vs) (ep := ep) lo) (I.ok.hd hc) hat hvl fun h' tk acc hk hacc => ?_)
  have hv : Vals (ks.map V.str) acc.toList := by
    have hk2 : Vals (vs.map fun p => kV p.1) acc.toList := keys_at (by rw [Array.length_toList]; exact hacc.1) fun j v e => hacc.2 j v (by rw [← Array.getElem?_toList]; exact e)
    have e : (vs.map fun p => kV p.1) = ks.map V.str := by
      have e := congrArg (List.map kV) hkeys
      rw [List.map_map, List.map_map] at e
      exact e
    rw [e] at hk2
    exact hk2
  exact sorted_tail (I.kept (h' := h') (t' := tk) hk) hv (by rw [← hl]; exact hvl) hu q
theorem do_sortedD {ks : List Str} (hc : X.calm = true) (hu : X.A.units + 64 < cLine) (hm : X.mg "sorted" = none) (ha : DMt X O ds e kvs) (hks : kvs.map (·.1) = ks.map Sum.inr) (hg : Gl X "sorted" := by rfl) (he : starEach [e] X.env = (false, eval e X.env) :: starEach [] X.env := by rfl) : DO X O ds (.Call (.Name "sorted" p) [e] [] pos) (tX (sortT ks)) :=
  dg_call1 (call_sortedDk hc hu) hm PyProof.Rows.boot_sorted ha (fun F0 H0 F H v Q g j r q => by
    obtain ⟨a, rfl, h1, h2, h3⟩ := r
    refine ⟨a, kvs, ks, rfl, h3, hks, fun l hl' => ?_⟩
    obtain ⟨g1, o1⟩ := own_of (xs := tX (sortT ks)) g hl' (dp_txt _)
    exact q _ F _ g1 o1) hg (by decide) (by decide) he
/-- list(d) -/
theorem do_listD {ks : List Str} (hc : X.calm = true) (hm : X.mg "list" = none) (ha : DMt X O ds e kvs) (hks : kvs.map (·.1) = ks.map Sum.inr) (hg : Gl X "list" := by rfl) (he : starEach [e] X.env = (false, eval e X.env) :: starEach [] X.env := by rfl) : DO X O ds (.Call (.Name "list" p) [e] [] pos) (tX ks) :=
  dg_callT1 (call_listD hc) hm PyProof.Rows.boot_list ha (fun F0 H0 F H v Q g j r q => by
    obtain ⟨a, rfl, h1, h2, h3⟩ := r
    refine ⟨a, kvs, rfl, .inl h3, fun l hl' => ?_⟩
    have e : (kvs.map fun kv => kV kv.1) = ks.map V.str := by
      have e := congrArg (List.map kV) hks
      rw [List.map_map, List.map_map] at e
      exact e
    rw [e]
    obtain ⟨g1, o1⟩ := own_of (xs := tX ks) g hl' (dp_txt _)
    exact q _ F _ g1 o1) hg (by decide) (by decide) he
/-- all that is new is frozen -/
def thaw (F H H' : Hp) : Hp := fun b => match H b with
  | none => H' b
  | some _ => F b
theorem thaw_new {F H H' : Hp} {b : Addr} (h : H b = none) : thaw F H H' b = H' b := by unfold thaw; rw [h]
theorem thaw_old {F H H' : Hp} {b : Addr} {o : HO} (h : H b = some o) : thaw F H H' b = F b := by unfold thaw; rw [h]
theorem Grow.thaw {O : Own} {F H H' : Hp} (s : Ex F H) (k : Ex H H') : Grow O F H (thaw F H H') H' := by
  refine ⟨fun b o e => by rw [thaw_old (s b o e)]; exact e, fun b o _ e => k b o e, fun b o e => ?_, fun b e1 e2 => ?_, fun b e => ?_⟩
  · cases q : H b with
    | none => rw [thaw_new q] at e; exact e
    | some u => rw [thaw_old q] at e; exact k b o (s b o e)
  · cases q : H b with
    | none => rfl
    | some u => rw [thaw_old q] at e2; exact absurd e1 e2
  · cases q : H b with
    | none => exact absurd q e
    | some u => rw [k b u q]; exact fun z => nomatch z
/-- pairs of texts, as a dict holds them; as data -/
def kvT (l : List (Str × Str)) : List (Key × V) := l.map fun p => (Sum.inr p.1, V.str p.2)
def pairD (l : List (Str × Str)) : List PyData := l.map fun p => .tuple [.str p.1, .str p.2]
theorem pair_dp {K : PySem.W.Frag} {F : Hp} : ∀ {l : List (Str × Str)} {ts : List Addr}, Paired (fun (t : Addr) (q : Key × V) => F t = some (.tup [kV q.1, q.2])) ts (kvT l) → DpAll K F (ts.map V.ref) (pairD l)
  | [], ts, h => by cases h; exact .nil
  | p :: l, ts, h => by
    cases h with
    | cons r t => exact .cons (.tup (SqT.of r) (.cons (.str _) (.cons (.str _) .nil))) (pair_dp t)
/-- list(d.items()) -/
theorem dx_items {l : List (Str × Str)} (hc : X.calm = true) (hm : X.mg "list" = none) (ha : DMt X O ds e (kvT l)) (hg : Gl X "list" := by rfl) (hbase : attributeBase e "items" X.env (eval e X.env) = eval e X.env := by rfl) (hline : (apos.endLine == cpos.line) = true := by rfl)
    (hs : starEach [.Call (.Attribute e "items" apos) [] [] cpos] X.env = (false, eval (.Call (.Attribute e "items" apos) [] [] cpos) X.env) :: starEach [] X.env := by rfl) :
    DX X O ds (.Call (.Name "list" p) [.Call (.Attribute e "items" apos) [] [] cpos] [] pos) (.list (pairD l)) :=
  pe_mono (LiI.pe_listItems hc ha hg hm PyProof.Rows.boot_list hbase hline hs) fun σ H Q ⟨F, st, q⟩ => ⟨F, st, fun v F1 H1 g1 j1 ⟨d, ev, ns, f, hd⟩ => ⟨d, kvT l, ev, hd, fun H2 p ts k hp hts hpt e1 e2 => by
    have g2 := Grow.thaw (O := O) g1.s k
    have j2 : O.J H2 := O.stay j1 fun a o _ h => k a o h
    refine q _ _ H2 (g1.trans g2) j2 (.lst (SqL.of (by rw [thaw_new hp]; exact e1)) (pair_dp ?_))
    clear e1
    have key : ∀ t ∈ ts, thaw F1 H1 H2 t = H2 t := fun t ht => thaw_new (hts t ht)
    clear hts hpt hd q
    generalize kvT l = kv at e2
    induction e2 with
    | nil => exact .nil
    | cons r t ih => exact .cons (by rw [key _ List.mem_cons_self]; exact r) (ih fun t ht => key t (List.mem_cons_of_mem _ ht))⟩⟩
end
end DS
end
section
set_option Elab.async false
set_option linter.all false
set_option maxRecDepth 100000
set_option maxHeartbeats 2000000
namespace DS
open PySem PySem.Spec PyProof.Rows L2
open Evl (Ex ex_l ex_t ex_rd)
/-- an object that no slot holds is written -/
theorem StOk.other {K : PySem.W.Frag} {O : Own} {F H : Hp} {σ : L2.St} {ds : List Sl} {D : Addr} {o u : HO} (h : StOk K O F σ H ds) (hF : F D = none) (nS : ¬ O.S D) (hu : H D = some u) (nX : ¬ IsX u) (hd : ∀ (i : Nat) (s : Sl), ds[i]? = some s → s.own = true → σ[i]? ≠ some (some (.ref D))) : StOk K O F σ (upd H D o) ds := by
  refine ⟨fun a v ha => ?_, h.sf, O.stay h.j fun a v sa ha => ?_, h.len, fun i s w e1 e2 => ?_, h.sep⟩
  · have hne : a ≠ D := fun z => by rw [z, hF] at ha; cases ha
    rw [upd_ne hne]; exact h.ex a v ha
  · have hne : a ≠ D := fun z => sa.elim (fun sa => nS (z ▸ sa)) fun sx => by rw [z, hu] at ha; cases ha; exact nX sx
    rw [upd_ne hne]; exact ha
  · have hb := h.sl i s w e1 e2
    cases s with
    | u => exact hb
    | d x => exact hb
    | v x => exact hb
    | l xs =>
      obtain ⟨p, vs, rfl, f, ns, hp, r⟩ := hb
      have hne : p ≠ D := fun z => hd i _ e1 rfl (by rw [e2, z])
      exact ⟨p, vs, rfl, f, ns, by rw [upd_ne hne]; exact hp, r⟩
    | m kvs =>
      obtain ⟨p, rfl, f, ns, hp, r⟩ := hb
      have hne : p ≠ D := fun z => hd i _ e1 rfl (by rw [e2, z])
      exact ⟨p, rfl, f, ns, by rw [upd_ne hne]; exact hp, r⟩
theorem wipeD_own {ds : List Sl} : ∀ {vs : List Nat} {i : Nat} {s : Sl}, (wipeD ds vs)[i]? = some s → s.own = true → i ∉ vs ∧ ds[i]? = some s
  | [], _, _, h, _ => ⟨by simp, h⟩
  | v :: vs, i, s, h, o => by
    have h' : ((wipeD ds vs).set v .u)[i]? = some s := h
    by_cases e : v = i
    · subst e
      have hl : v < (wipeD ds vs).length := by
        have := (List.getElem?_eq_some_iff.mp h').1
        rw [List.length_set] at this; exact this
      rw [List.getElem?_set_self hl] at h'
      cases h'; cases o
    · rw [List.getElem?_set_ne e] at h'
      obtain ⟨a, b⟩ := wipeD_own h' o
      exact ⟨fun z => (List.mem_cons.mp z).elim (fun z => e z.symm) a, b⟩
theorem dtg_more {X : Cx} {O : Own} {tg : Expr} {is js : List Nat} {g : PyData → List Sl → Option (List Sl)} (h : DTg X O tg is g) (hs : ∀ i ∈ is, i ∈ js) : DTg X O tg js g :=
  pg_mono h fun v σ H Q ⟨F, ds, x, ds', st, d, e, q⟩ => ⟨F, ds, x, ds', st, d, e, fun σ' a b c => q σ' a b fun j hj => c j fun z => hj (hs j z)⟩
section
variable {X : Cx} {O : Own} {ds : List Sl} {tg iter tg1 iter1 elt : Expr} {scope : Scope} {own : List (Str × Nat)} {vs1 : List Nat} {xs : List PyData} {pos : Pos} {g g1 : PyData → List Sl → Option (List Sl)}
/-- [f x y for x in xs for y in r x] -/
theorem do_lc2 (r : PyData → List PyData) (f : PyData → PyData → PyData) (hc : X.calm = true) (hN : X.N.Nodup) (hi : DI X O ds tg iter xs) (ok : BlkOk X.N X.env.scope scope own) (hv : ∀ i ∈ vs1, i ∈ own.map (·.2)) (hz : (xs.flatMap fun x => (r x).map (f x)).length ≤ 100000)
    (hg : ∀ (s : Shared) (H : Hp) (C : Addr) (cl : List (Str × Addr)) (fp : List Addr), DTg (Cx.bl X s H scope C cl fp) O tg (slotsOf own) g)
    (hgo : ∀ x, x ∈ xs → ∃ ds1, g x (wipeD ds (slotsOf own)) = some ds1)
    (hi1 : ∀ (s : Shared) (H : Hp) (C : Addr) (cl : List (Str × Addr)) (fp : List Addr) x ds1, x ∈ xs → g x (wipeD ds (slotsOf own)) = some ds1 → DI (Cx.bl X s H scope C cl fp) O ds1 tg1 iter1 (r x))
    (hg1 : ∀ (s : Shared) (H : Hp) (C : Addr) (cl : List (Str × Addr)) (fp : List Addr), DTg (Cx.bl X s H scope C cl fp) O tg1 vs1 g1)
    (hgo1 : ∀ x ds1 y, x ∈ xs → g x (wipeD ds (slotsOf own)) = some ds1 → y ∈ r x → ∃ ds2, g1 y (wipeD ds1 vs1) = some ds2)
    (he : ∀ (s : Shared) (H : Hp) (C : Addr) (cl : List (Str × Addr)) (fp : List Addr) x ds1 y ds2, x ∈ xs → g x (wipeD ds (slotsOf own)) = some ds1 → y ∈ r x → g1 y (wipeD ds1 vs1) = some ds2 → DX (Cx.bl X s H scope C cl fp) O ds2 elt (f x y))
    (hgd : ∀ x d1 d2, g x d1 = some d2 → ∀ (i : Nat) (s : Sl), d2[i]? = some s → s.own = true → d1[i]? = some s)
    (hs : ∀ x, foldedSetIterable iter X.env x = pure x := by intro _; rfl) (hs1 : ∀ env x, foldedSetIterable iter1 env x = pure x := by intro _ _; rfl) :
    DO X O ds (.ListComp elt [⟨tg, iter, [], 0⟩, ⟨tg1, iter1, [], 0⟩] scope pos) (xs.flatMap fun x => (r x).map (f x)) := by
  refine pe_mono (pe_lc2 (own := own) (vs1 := vs1) (g := tgD X.K O (slotsOf own) g) (g1 := tgD X.K O vs1 g1)
    (tt := fun σ H Q => ∃ ds1, tT X.K O ds1 true σ H Q) (tt1 := fun σ H Q => ∃ ds1, tT X.K O ds1 true σ H Q)
    (wi1 := fun σ H R => ∃ x ds1, x ∈ xs ∧ g x (wipeD ds (slotsOf own)) = some ds1 ∧ tI X.K O ds1 (r x) σ H R)
    (te := fun σ H Q => ∃ x ds1 y ds2, x ∈ xs ∧ g x (wipeD ds (slotsOf own)) = some ds1 ∧ y ∈ r x ∧ g1 y (wipeD ds1 vs1) = some ds2 ∧ tG X.K O ds2 (rD X.K (f x y)) σ H Q)
    hc hN hi ok hv hg (fun s H C cl fp => ⟨fun pins s' σ H' Q I ⟨ds1, q⟩ => pts_no.run pins s' σ H' Q I q⟩) (fun s H C cl fp => ⟨fun pins s' σ H' R I ⟨x, ds1, m, e, q⟩ => (hi1 s H C cl fp x ds1 m e).run pins s' σ H' R I q⟩)
    hg1 (fun s H C cl fp => ⟨fun pins s' σ H' Q I ⟨ds1, q⟩ => pts_no.run pins s' σ H' Q I q⟩) (fun s H C cl fp => ⟨fun pins s' σ H' Q I ⟨x, ds1, y, ds2, m, e, m1, e1, q⟩ => (he s H C cl fp x ds1 y ds2 m e m1 e1).run pins s' σ H' Q I q⟩) hs hs1) fun σ H Q ⟨F, st, q⟩ => ?_
  refine ⟨F, st, fun J F1 H1 gr1 j1 w D hD => ?_⟩
  have nS : ¬ O.S D := fun s => O.dom j1 s hD
  have hFD : F1 D = none := by
    cases e : F1 D with
    | none => rfl
    | some u => rw [gr1.s D u e] at hD; cases hD
  let Pv : List PyData → Hp → Prop := fun ys H' => ∃ F' acc, Grow O F1 H1 F' H' ∧ O.J H' ∧ F' D = none ∧ H' D = some (.lst acc) ∧ DpAll X.K F' acc ys
  have nF : ∀ {Fa Ha Fb Hb : Hp}, Grow O Fa Ha Fb Hb → Fa D = none → Ha D ≠ none → Fb D = none := fun {Fa Ha Fb Hb} g h1 h2 => by
    cases e : Fb D with
    | none => rfl
    | some u => exact absurd (g.n D h1 (by rw [e]; exact fun z => nomatch z)) h2
  have nn : ∀ {o : HO} {Ha : Hp}, Ha D = some o → Ha D ≠ none := fun h z => by rw [h] at z; cases z
  have wr : ∀ {F' H' : Hp} {acc acc' : List V}, Grow O F1 H1 F' H' → O.J H' → F' D = none → H' D = some (.lst acc) → Grow O F1 H1 F' (upd H' D (.lst acc')) ∧ O.J (upd H' D (.lst acc')) := fun {F' H' acc acc'} g j hf hn =>
    ⟨⟨g.f, fun a u sa ha => by
        have hne : a ≠ D := fun z => by rw [z, hD] at ha; cases ha
        rw [upd_ne hne]; exact g.h a u sa ha, fun a u ha => by
        have hne : a ≠ D := fun z => by rw [z, hf] at ha; cases ha
        rw [upd_ne hne]; exact g.s a u ha, g.n, fun a ha => by
        by_cases z : a = D
        · rw [z, upd_same]; exact fun y => nomatch y
        · rw [upd_ne z]; exact g.t a ha⟩,
     O.stay j fun a u sa ha => by
        have hne : a ≠ D := fun z => sa.elim (fun sa => nS (z ▸ sa)) fun ⟨φ, e⟩ => by rw [z, hn] at ha; cases ha; cases e
        rw [upd_ne hne]; exact ha⟩
  let part : Nat → List PyData := fun i => (xs.take i).flatMap fun x => (r x).map (f x)
  refine ⟨fun i m H' => m = xs.length - i ∧ i ≤ xs.length ∧ Pv (part i) H', ⟨xs.length, by simp, Nat.zero_le _, F1, [], Grow.own gr1.s hD, own_new j1 hD, hFD, upd_same, .nil⟩, ?_⟩
  rintro i m H' ⟨rfl, hil, F', acc, g', j', hf, hacc, hys⟩
  obtain ⟨w1, w2, w3⟩ := w F' H' g'.f g'.s
  by_cases hlt : i < xs.length
  · have hx : xs[i]? = some xs[i] := List.getElem?_eq_getElem hlt
    have hm : xs[i] ∈ xs := List.getElem_mem hlt
    have hp1 : part (i + 1) = part i ++ (r xs[i]).map (f xs[i]) := by
      show ((xs.take (i + 1)).flatMap _) = _
      rw [take_snoc hx, List.flatMap_append]
      simp [part]
    have hzz : (part i ++ (r xs[i]).map (f xs[i])).length ≤ 100000 := by
      rw [← hp1]
      refine Nat.le_trans ?_ hz
      have e : xs.flatMap (fun x => (r x).map (f x)) = part (i + 1) ++ (xs.drop (i + 1)).flatMap fun x => (r x).map (f x) := by
        show _ = (xs.take (i + 1)).flatMap _ ++ _
        rw [← List.flatMap_append, List.take_append_drop]
      rw [e, List.length_append]
      exact Nat.le_add_right _ _
    refine .inr ⟨w1 i hlt, Pv (part (i + 1)), fun H2 p2 => ⟨xs.length - (i + 1), by omega, rfl, hlt, p2⟩, fun v H2 hy => ?_⟩
    obtain ⟨F2, g2, dv⟩ := w3 i v H2 _ hx hy
    obtain ⟨ds1, hg1e⟩ := hgo _ hm
    have j2 := g2.j j'
    have gA := g'.trans (g2.lift (O := O))
    have stA : StOk X.K O F2 (wipe σ (slotsOf own)) H2 (wipeD ds (slotsOf own)) := st_wipe (st.grow (gr1.trans gA) j2) _
    have hacc2 := g2.h _ _ (fun z => z) hacc
    have hf2 : F2 D = none := nF g2.lift hf (nn hacc)
    refine ⟨F2, _, _, ds1, stA, dv, hg1e, fun σ3 st3 hl3 hs3 => ⟨?_, ds1, F2, st3, fun F3 H3 g3 j3 => iteT ⟨xs[i], ds1, hm, hg1e, F3, st3.grow g3 j3, fun J1 F4 H4 g4 j4 wi => ?_⟩⟩⟩
    · rw [wipe_same hl3 hs3, wipe_wipe]
    · have gB := (gA.trans g3).trans g4
      have hacc4 := g4.h _ _ nS (g3.h _ _ nS hacc2)
      have hf4 := nF g4 (nF g3 hf2 (nn hacc2)) (nn (g3.h _ _ nS hacc2))
      have hnd : ∀ (k : Nat) (s : Sl), ds1[k]? = some s → s.own = true → σ3[k]? ≠ some (some (.ref D)) := fun k s e1 o1 e2 => by
        obtain ⟨n1, n2⟩ := wipeD_own (hgd _ _ _ hg1e k s e1 o1) o1
        rw [hs3 k n1, wipe_get, if_neg n1] at e2
        have := gr1.t D (st.ownAt n2 o1 e2).1
        exact this hD
      refine ⟨fun j k H5 => k = (r xs[i]).length - j ∧ j ≤ (r xs[i]).length ∧ ∃ F5 acc5, StOk X.K O F5 σ3 H5 ds1 ∧ Ex F4 F5 ∧ Grow O F1 H1 F5 H5 ∧ F5 D = none ∧ H5 D = some (.lst acc5) ∧ DpAll X.K F5 acc5 (part i ++ ((r xs[i]).take j).map (f xs[i])), ⟨_, rfl, Nat.zero_le _, F4, acc, (st3.grow g3 j3).grow g4 j4, Ex.refl F4, gB, hf4, hacc4, ?_⟩, ?_⟩
      · rw [List.take_zero, List.map_nil, List.append_nil]
        exact hys.up ((g2.f.trans g3.f).trans g4.f)
      rintro j k H5 ⟨rfl, hjl, F5, acc5, st5, x5, g5, hf5, hacc5, hys5⟩
      obtain ⟨v1, v2, v3⟩ := wi F5 H5 x5 st5.ex
      have j5 := st5.j
      by_cases hj : j < (r xs[i]).length
      · have hyx : (r xs[i])[j]? = some (r xs[i])[j] := List.getElem?_eq_getElem hj
        have hym : (r xs[i])[j] ∈ r xs[i] := List.getElem_mem hj
        refine .inr ⟨v1 j hj, fun H6 => ∃ F5 acc5, StOk X.K O F5 σ3 H6 ds1 ∧ Ex F4 F5 ∧ Grow O F1 H1 F5 H6 ∧ F5 D = none ∧ H6 D = some (.lst acc5) ∧ DpAll X.K F5 acc5 (part i ++ ((r xs[i]).take (j + 1)).map (f xs[i])), fun H6 p6 => ⟨_, by omega, rfl, hj, p6⟩, fun v H6 hy6 => ?_⟩
        obtain ⟨F6, g6, dv6⟩ := v3 j v H6 _ hyx hy6
        obtain ⟨ds2, he2⟩ := hgo1 _ ds1 _ hm hg1e hym
        have j6 := g6.j j5
        have stB : StOk X.K O F6 (wipe σ3 vs1) H6 (wipeD ds1 vs1) := st_wipe (st5.grow (g6.lift (O := O)) j6) _
        have hacc6 := g6.h _ _ (fun z => z) hacc5
        have hf6 : F6 D = none := nF g6.lift hf5 (nn hacc5)
        refine ⟨F6, _, _, ds2, stB, dv6, he2, fun σ7 st7 hl7 hs7 => ⟨?_, ds2, F6, st7, fun F7 H7 g7 j7 => iteT ⟨xs[i], ds1, _, ds2, hm, hg1e, hym, he2, F7, st7.grow g7 j7, fun y F8 H8 g8 j8 d8 => ?_⟩⟩⟩
        · rw [wipe_same hl7 hs7, wipe_wipe]
        · have hacc8 := g8.h _ _ nS (g7.h _ _ nS hacc6)
          have hf8 := nF g8 (nF g7 hf6 (nn hacc6)) (nn (g7.h _ _ nS hacc6))
          have g68 := ((g6.lift (O := O)).trans g7).trans g8
          have hlen : acc5.length < 100000 := by
            rw [hys5.len]
            refine Nat.lt_of_lt_of_le ?_ hzz
            rw [List.length_append, List.length_append, List.length_map, List.length_map, List.length_take]
            omega
          obtain ⟨gD, jD⟩ := wr (acc' := acc5 ++ [y]) (g5.trans g68) j8 hf8 hacc8
          have st8 := st5.grow g68 j8
          refine ⟨acc5, hacc8, Evl.sz_lt hlen, F8, acc5 ++ [y], st8.other hf8 nS hacc8 (fun ⟨φ, e⟩ => by cases e) hnd, x5.trans g68.f, gD, hf8, upd_same, ?_⟩
          rw [take_snoc hyx, List.map_append, ← List.append_assoc]
          exact (hys5.up ((g6.f.trans g7.f).trans g8.f)).app (.cons d8 .nil)
      · have e : j = (r xs[i]).length := by omega
        subst e
        rw [List.take_length] at hys5
        exact .inl ⟨v2, F5, acc5, g5, j5, hf5, hacc5, by rw [hp1]; exact hys5⟩
  · have e : i = xs.length := by omega
    subst e
    have hp : part xs.length = xs.flatMap fun x => (r x).map (f x) := by show (xs.take xs.length).flatMap _ = _; rw [List.take_length]
    rw [hp] at hys
    exact .inl ⟨w2, q _ F' H' (gr1.trans g') j' ⟨D, acc, rfl, gr1.free hD, hf, hacc, hys⟩⟩
end
end DS
end
section
set_option Elab.async false
set_option linter.all false
set_option maxRecDepth 100000
set_option maxHeartbeats 1000000
/-! The names that options can be told by. -/
namespace KM
open PySem DS L2 PyProof.Rows
/-- the first n signs -/
def pref (s : Str) (n : Int) : Str := cutS s none (some n)
def preT (os : List PyData) : List Str := os.flatMap fun o => (List.range (nm o).length).map fun (i : Nat) => pref (nm o) (1 + (i : Int))
def tellI (os : List PyData) (b : Bool) (t : Str) : Option Str := if isNone (told os b t) = true then none else some (nm (told os b t))
def tellP (os : List PyData) (b : Bool) (t : Str) : Option (Str × Str) := (tellI os b t).map fun x => (t, x)
def tellOf (os : List PyData) (b : Bool) (ts : List Str) : List (Str × Str) := ts.filterMap (tellP os b)
def tellings (os : List PyData) (b : Bool) : List (Str × Str) := tellOf os b (canon (preT os))
theorem tellOf_keys {os : List PyData} {b : Bool} {ts : List Str} {k : Str} (h : k ∈ (tellOf os b ts).map (·.1)) : k ∈ ts := by
  obtain ⟨p, hp, rfl⟩ := List.mem_map.mp h
  obtain ⟨t, ht, e⟩ := List.mem_filterMap.mp hp
  unfold tellP at e
  cases q : tellI os b t with
  | none => rw [q] at e; cases e
  | some x => rw [q] at e; cases e; exact ht
theorem told_mem {os : List PyData} {b : Bool} {t : Str} : isNone (told os b t) = true ∨ told os b t ∈ os := by
  unfold told
  cases h : os.find? (fun o => decide (nm o = t)) with
  | some o => exact .inr (List.mem_of_find?_eq_some h)
  | none =>
    by_cases c : (b && (!decide (t = "") && decide (((os.filter fun o => Txt.startswith (nm o) t).length : Int) = 1))) = true
    · show _ ∨ (if _ then _ else _) ∈ os
      rw [if_pos c]
      right
      have hl : (os.filter fun o => Txt.startswith (nm o) t).length = 1 := by
        simp only [Bool.and_eq_true, decide_eq_true_eq] at c
        omega
      have hm : (os.filter fun o => Txt.startswith (nm o) t).getD 0 .none ∈ os.filter fun o => Txt.startswith (nm o) t := by
        match os.filter fun o => Txt.startswith (nm o) t, hl with
        | [o], _ => exact List.mem_singleton.mpr rfl
      exact (List.mem_filter.mp hm).1
    · left
      show isNone (if _ then _ else _) = true
      rw [if_neg c]
      rfl
theorem tellOf_snoc (os : List PyData) (b : Bool) (ts : List Str) (t : Str) : tellOf os b (ts ++ [t]) = tellOf os b ts ++ (match tellI os b t with | some x => [(t, x)] | none => []) := by
  unfold tellOf
  rw [List.filterMap_append]
  congr 1
  rw [List.filterMap_cons, List.filterMap_nil]
  unfold tellP
  cases tellI os b t <;> rfl
theorem preT_len {os : List PyData} (h : ∀ o ∈ os, isOption o = true) (hl : os.length ≤ 24) : (preT os).length ≤ 300 := by
  unfold preT
  rw [List.length_flatMap]
  have : ∀ o ∈ os, ((List.range (nm o).length).map fun (i : Nat) => pref (nm o) (1 + (i : Int))).length ≤ 12 := fun o ho => by
    rw [List.length_map, List.length_range]
    obtain ⟨a, b, k, rfl, h1, _⟩ := isOption_tup (h o ho)
    obtain ⟨s, e, _, h3⟩ := isName_str h1
    cases e
    exact h3
  have key : ∀ (l : List PyData), (∀ o ∈ l, ((List.range (nm o).length).map fun (i : Nat) => pref (nm o) (1 + (i : Int))).length ≤ 12) → (l.map fun o => ((List.range (nm o).length).map fun (i : Nat) => pref (nm o) (1 + (i : Int))).length).sum ≤ 12 * l.length := by
    intro l
    induction l with
    | nil => intro _; exact Nat.le_refl _
    | cons x l ih =>
      intro h
      have h1 := h x List.mem_cons_self
      have h2 := ih fun o ho => h o (List.mem_cons_of_mem _ ho)
      rw [List.map_cons, List.sum_cons, List.length_cons]
      omega
  have := key os this
  omega
theorem cut_len (s : Str) (a b : Option Int) : (cutS s a b).length ≤ s.length := by
  unfold cutS
  show (List.toArray _).size ≤ s.cps.size
  rw [List.size_toArray, List.length_take, List.length_drop, Array.length_toList]
  omega
theorem canon_nodup (xs : List Str) : (canon xs).Nodup := (sortT_perm _).nodup_iff.mpr (once_nodup xs)
end KM
end
section
set_option Elab.async false
set_option linter.all false
set_option maxRecDepth 100000
set_option maxHeartbeats 2000000
namespace KD
open PySem PySem.Spec PyProof.Rows L2 DS KT KM
section
variable {P : Program} {w : World} {K : PySem.W.Frag} {mg : Str → Option Value} {base : Heap} {Cb Ck fI : Addr}
theorem preT_data (os : List PyData) : (os.flatMap fun o => (intsD 1 (((nm o).length : Int) + 1 - 1).toNat).map fun y => PyData.str (match y with | .int n => pref (nm o) n | _ => Str.empty)) = tX (preT os) := by
  induction os with
  | nil => rfl
  | cons o r ih =>
    have e : preT (o :: r) = ((List.range (nm o).length).map fun (i : Nat) => pref (nm o) (1 + (i : Int))) ++ preT r := by unfold preT; rw [List.flatMap_cons]
    rw [List.flatMap_cons, ih, e]
    show _ = List.map _ _
    rw [List.map_append]
    congr 1
    unfold intsD
    rw [List.map_map, List.map_map]
    have : (((nm o).length : Int) + 1 - 1).toNat = (nm o).length := by omega
    rw [this]
    rfl
def R_tellings_of : RelE := fun xs z b => ∃ g os ps b0 b1 b2, xs = [g] ∧ GV g os ps b0 b1 b2 ∧ z (.m (kvT (KM.tellings os b0)))
def If_tell (g : PyData) (os : List PyData) (b0 : Bool) (i : Nat) (ds : List Sl) : Prop := ∃ u v t, ds = [.d g, .d (.list (tX (canon (preT os)))), .m (kvT (tellOf os b0 ((canon (preT os)).take i))), u, v, t]
theorem kvT_new {l : List (Str × Str)} {k x : Str} (h : k ∉ l.map (·.1)) : putK (kvT l) (Sum.inr k) (V.str x) = kvT (l ++ [(k, x)]) := by
  rw [putK_new]
  · unfold kvT; rw [List.map_append]; rfl
  · unfold valV
    have : (kvT l).find? (fun kv => decide (kv.1 = Sum.inr k)) = none := by
      rw [List.find?_eq_none]
      intro p hp
      unfold kvT at hp
      obtain ⟨q, hq, rfl⟩ := List.mem_map.mp hp
      have : q.1 ≠ k := fun e => h (List.mem_map.mpr ⟨q, hq, e⟩)
      simpa using this
    rw [this]; rfl
theorem b_tellings_of (m : Free mg) (D : Def P w K mg base "option_told" 1 ["grammar", "text"] (spD K R_option_told)) : BodyOkE P w K mg base N_tellings_of "tellings_of" s_tellings_of Cb 1 R_tellings_of := by
  intro f cdv A outer s H E F0 xs z b hr hR hE
  obtain ⟨g, os, ps, b0, b1, b2, rfl, hg, hz⟩ := hR
  refine PSs.nox ?_
  show DW (Bx P w K mg base N_tellings_of "tellings_of" (defScope s_tellings_of) f cdv A outer s H E) (Bm F0 H) (startD N_tellings_of [g]) (defBody s_tellings_of) (Cz z)
  have eg := hg.eq
  have hop := hg.op
  have hol := hg.ol
  have hpl := preT_len hop hol
  have hcl := canon_len (preT os)
  refine dw_setO 1 sc_tellings_of.nd (do_sortedS rfl hr.units m.sorted (dg_set rfl m.set (dls_ofO (xs := tX (preT os)) ?_) (by omega)) (by omega)) ?_
  · rw [← preT_data os]
    subst eg
    refine do_lc2 (own := [("option", 4), ("many", 5)]) (vs1 := [5]) (g := tg1 4) (g1 := tg1 5) (xs := os) (fun o => intsD 1 (((nm o).length : Int) + 1 - 1).toNat) (fun o y => PyData.str (match y with | .int n => pref (nm o) n | _ => Str.empty)) rfl sc_tellings_of.nd ?_ (blkOk_by (N := N_tellings_of) (sc := defScope s_tellings_of) (by decide +kernel)) (by decide) (by rw [preT_data, List.length_map]; omega)
      ?_ (fun x hx => ⟨_, rfl⟩) (fun s H C cl fp x ds1 hx e => ?_) ?_ (fun x ds1 y hx e hy => ⟨_, rfl⟩) (fun s H C cl fp x ds1 y ds2 hx e hy e2 => ?_) ?_
    · exact di_tup (dx_ixT (dx_var 0) dx_int rfl)
    · exact fun s H C cl fp => dtg_more (dtg1 4 sc_tellings_of.nd) (by decide)
    · cases e
      have hln := opt_len (hop x hx)
      exact di_rng2 m.range dx_int (dx_add (dx_lenS m.len (dx_nm (hop x hx) (dx_var 4)) (by omega)) dx_int) (by omega)
    · exact fun s H C cl fp => dtg1 5 sc_tellings_of.nd
    · cases e
      cases e2
      have hln := opt_len (hop x hx)
      obtain ⟨j, hj⟩ := List.getElem?_of_mem hy
      obtain ⟨_, rfl⟩ := intsD_get hj
      exact dx_cutS (dx_nm (hop x hx) (dx_var 4)) pt_no (pt_at (dx_var 5)) (by omega)
    · intro x d1 d2 e i s hs ho
      cases e
      by_cases c : 4 = i
      · subst c
        have hl : 4 < d1.length := by
          have := (List.getElem?_eq_some_iff.mp hs).1
          rw [List.length_set] at this; exact this
        rw [List.getElem?_set_self hl] at hs
        cases hs; cases ho
      · rw [List.getElem?_set_ne c] at hs; exact hs
  · refine dw_setM 2 sc_tellings_of.nd dm_nil ?_
    refine dw_freeze 1 rfl ?_
    refine dw_for (xs := tX (canon (preT os))) (g := tg1 3) PassesOwn.never rfl (di_list (dx_var 1)) (fun _ => dtg1 3 sc_tellings_of.nd) (If_tell g os b0) ⟨.u, .u, .u, rfl⟩ (fun i y ds1 hy hI => ?_) (fun ds1 hI => ?_)
    · obtain ⟨u, v, t, rfl⟩ := hI
      rw [List.getElem?_map] at hy
      obtain ⟨x, hx, rfl⟩ : ∃ x, (canon (preT os))[i]? = some x ∧ y = .str x := by
        cases q : (canon (preT os))[i]? with
        | none => rw [q] at hy; cases hy
        | some x => rw [q] at hy; cases hy; exact ⟨x, rfl, rfl⟩
      have hxm : x ∈ preT os := mem_canon.mp (List.mem_of_getElem? hx)
      have hxl : x.length ≤ 100 := by
        unfold preT at hxm
        obtain ⟨o, ho, h2⟩ := List.mem_flatMap.mp hxm
        obtain ⟨j, _, rfl⟩ := List.mem_map.mp h2
        have h1 := opt_len (hop o ho)
        have h3 := cut_len (nm o) none (some (1 + (j : Int)))
        show (cutS _ _ _).length ≤ _
        omega
      refine ⟨_, rfl, ?_⟩
      refine dw_set 4 sc_tellings_of.nd (dx_call D hr (da_cons (dx_var 0) (da_one (dx_var 3))) ⟨g, x, os, ps, b0, b1, b2, rfl, hg, hxl, rfl⟩) ?_
      have hsn := tellOf_snoc os b0 ((canon (preT os)).take i) x
      rw [← take_snoc hx] at hsn
      refine dw_if (dt_notN (dx_var 4)) (fun h => ?_) (fun h => dw_nil (th_here (dw_nil ⟨rfl, .d (.str x), .d (told os b0 x), t, ?_⟩)))
      · have hn : isNone (told os b0 x) = false := by simpa using h
        have hto : told os b0 x ∈ os := by
          rcases told_mem (os := os) (b := b0) (t := x) with e | e
          · rw [hn] at e; cases e
          · exact e
        have hnew : x ∉ (tellOf os b0 ((canon (preT os)).take i)).map (·.1) := fun hm => by
          have h1 := tellOf_keys hm
          have h2 := List.getElem?_eq_some_iff.mp hx
          obtain ⟨j, hj⟩ := List.getElem?_of_mem h1
          have hj1 := (List.getElem?_eq_some_iff.mp hj).1
          rw [List.length_take] at hj1
          rw [List.getElem?_take_of_lt (by omega)] at hj
          have := (List.getElem?_inj (by have := h2.1; omega) (canon_nodup (preT os))).mp (hj.trans hx.symm)
          omega
        have hti : tellI os b0 x = some (nm (told os b0 x)) := by unfold tellI; rw [if_neg (by rw [hn]; decide)]
        rw [hti] at hsn
        have hlen : (kvT (tellOf os b0 ((canon (preT os)).take i))).length < 100000 := by
          unfold kvT tellOf
          rw [List.length_map]
          refine Nat.lt_of_le_of_lt (List.length_filterMap_le _ _) ?_
          rw [List.length_take]
          omega
        refine dw_dput 2 hr.units (dx_var 3) (dv_ofS (dx_nm (hop _ hto) (dx_var 4))) (dw_nil (th_here (dw_nil ⟨rfl, .d (.str x), .d (told os b0 x), t, ?_⟩))) hlen
        rw [kvT_new hnew, ← hsn]
        rfl
      · have hn : isNone (told os b0 x) = true := by simpa using h
        have hti : tellI os b0 x = none := by unfold tellI; rw [if_pos hn]
        rw [hti, List.append_nil] at hsn
        rw [hsn]
        rfl
    · obtain ⟨u, v, t, rfl⟩ := hI
      refine dw_retM 2 rfl ?_
      show z _
      rw [List.length_map, List.take_length]
      exact hz
end
end KD
end
section
set_option Elab.async false
set_option linter.all false
set_option maxRecDepth 100000
set_option maxHeartbeats 1000000
/-! The law's way to look for a fault. -/
namespace KM
open PySem DS L2 PyProof.Rows
def EXC : List Str := ["", "one", "may"]
/-- one row may stand behind prev -/
def fits (V : PyData → Bool) (prev : List PyData) (o : PyData) : Bool := V o && (!decide (txt 0 o ∈ prev.map (txt 0)) && !(decide (txt 1 o ∈ prev.map (txt 1)) && !decide (txt 1 o ∈ EXC)))
def gF (V : PyData → Bool) (word : Str) : List PyData → Nat → List PyData → PyData
  | [], _, _ => .none
  | o :: r, n, prev => if fits V prev o = true then gF V word r (n + 1) (prev ++ [o]) else .tuple [.str word, .int (n : Int)]
theorem gF_cons (V : PyData → Bool) (word : Str) (o : PyData) (r : List PyData) (n : Nat) (prev : List PyData) : gF V word (o :: r) n prev = if fits V prev o = true then gF V word r (n + 1) (prev ++ [o]) else .tuple [.str word, .int (n : Int)] := rfl
/-- the letters that are one -/
def lets (prev : List PyData) : List Str := (prev.map (txt 1)).filter fun s => !decide (s = "")
theorem len_empty : (("" : Str)).length = 0 := by decide +kernel
theorem len_one : (("one" : Str)).length = 3 := by decide +kernel
theorem len_may : (("may" : Str)).length = 3 := by decide +kernel
theorem b3 {p q : Prop} [Decidable p] [Decidable q] : (true && (!decide p && !decide q)) = decide (true = true ∧ ¬ p ∧ ¬ q) := by
  by_cases hp : p <;> by_cases hq : q <;> simp [hp, hq]
theorem dec_snoc (x y : Str) (l : List Str) : decide (x ∈ l ++ [y]) = (decide (x ∈ l) || decide (y = x)) := by
  rw [Bool.eq_iff_iff, Bool.or_eq_true, decide_eq_true_eq, decide_eq_true_eq, decide_eq_true_eq, List.mem_append, List.mem_singleton]
  exact ⟨fun h => h.imp id Eq.symm, fun h => h.imp id Eq.symm⟩
theorem opt_fits {prev : List PyData} {o : PyData} : fits isOption prev o = decide (isOption o = true ∧ txt 0 o ∉ prev.map (txt 0) ∧ txt 1 o ∉ lets prev) := by
  unfold fits
  by_cases h : isOption o = true
  · obtain ⟨a, b, k, rfl, _, h2, _⟩ := isOption_tup h
    obtain ⟨s, e, hl⟩ := letOk_str h2
    cases e
    have e3 : decide (b ∈ EXC) = decide (b = "") := by
      by_cases c : b = ""
      · subst c; decide +kernel
      · rw [decide_eq_false c]
        refine decide_eq_false fun z => ?_
        rcases List.mem_cons.mp z with e | z
        · exact c e
        · rcases List.mem_cons.mp z with e | z
          · rw [e, len_one] at hl; omega
          · rw [List.mem_singleton.mp z, len_may] at hl; omega
    show (isOption _ && (!decide (a ∈ _) && !(decide (b ∈ prev.map (txt 1)) && !decide (b ∈ EXC)))) = decide (_ ∧ a ∉ _ ∧ b ∉ lets prev)
    have e4 : decide (b ∈ lets prev) = (decide (b ∈ prev.map (txt 1)) && !decide (b = "")) := by
      unfold lets
      rw [Bool.eq_iff_iff]
      simp [List.mem_filter]
    rw [h, e3, ← e4]
    rw [Bool.eq_iff_iff]
    simp
  · have : isOption o = false := by simpa using h
    rw [this]
    simp
theorem pla_fits {prev : List PyData} {o : PyData} : fits isPlace prev o = decide (isPlace o = true ∧ txt 0 o ∉ prev.map (txt 0) ∧ ¬ (decide (("many" : Str) ∈ prev.map (txt 1)) = true ∧ txt 1 o = "many")) := by
  unfold fits
  by_cases h : isPlace o = true
  · obtain ⟨a, b, rfl, _, h2⟩ := isPlace_tup h
    show (isPlace _ && (!decide (a ∈ _) && !(decide (b ∈ prev.map (txt 1)) && !decide (b ∈ EXC)))) = decide (_ ∧ a ∉ _ ∧ ¬ (_ ∧ b = "many"))
    have e3 : (decide (b ∈ prev.map (txt 1)) && !decide (b ∈ EXC)) = decide (decide (("many" : Str) ∈ prev.map (txt 1)) = true ∧ b = "many") := by
      rcases List.mem_cons.mp h2 with e | h2
      · subst e
        have e5 : decide (("one" : Str) ∈ EXC) = true := by decide +kernel
        have e6 : ¬ (("one" : Str) = "many") := by decide +kernel
        rw [e5]; simp [e6]
      · rcases List.mem_cons.mp h2 with e | h2
        · subst e
          have e5 : decide (("may" : Str) ∈ EXC) = true := by decide +kernel
          have e6 : ¬ (("may" : Str) = "many") := by decide +kernel
          rw [e5]; simp [e6]
        · have e := List.mem_singleton.mp h2
          subst e
          have e5 : decide (("many" : Str) ∈ EXC) = false := by decide +kernel
          rw [e5]; simp
    rw [h, e3]
    exact b3
  · have : isPlace o = false := by simpa using h
    rw [this]
    simp
theorem optF_gF : ∀ (r : List PyData) (n : Nat) (prev : List PyData), optF r n (prev.map (txt 0)) (lets prev) = gF isOption "options" r n prev
  | [], _, _ => rfl
  | o :: r, n, prev => by
    have e : optF (o :: r) n (prev.map (txt 0)) (lets prev) = if isOption o = true ∧ txt 0 o ∉ prev.map (txt 0) ∧ txt 1 o ∉ lets prev then optF r (n + 1) (prev.map (txt 0) ++ [txt 0 o]) (if txt 1 o = "" then lets prev else lets prev ++ [txt 1 o]) else .tuple [.str "options", .int (n : Int)] := rfl
    rw [e, gF_cons, opt_fits]
    by_cases c : isOption o = true ∧ txt 0 o ∉ prev.map (txt 0) ∧ txt 1 o ∉ lets prev
    · rw [if_pos c, if_pos (decide_eq_true c), ← optF_gF r (n + 1) (prev ++ [o]), List.map_append]
      congr 1
      unfold lets
      rw [List.map_append, List.filter_append]
      by_cases c2 : txt 1 o = ""
      · rw [if_pos c2]; simp [c2]
      · rw [if_neg c2]; simp [c2]
    · rw [if_neg c, if_neg (by simpa using c)]
theorem plaF_gF : ∀ (r : List PyData) (n : Nat) (prev : List PyData), plaF r n (prev.map (txt 0)) (decide (("many" : Str) ∈ prev.map (txt 1))) = gF isPlace "places" r n prev
  | [], _, _ => rfl
  | o :: r, n, prev => by
    have e : plaF (o :: r) n (prev.map (txt 0)) (decide (("many" : Str) ∈ prev.map (txt 1))) = if isPlace o = true ∧ txt 0 o ∉ prev.map (txt 0) ∧ ¬ (decide (("many" : Str) ∈ prev.map (txt 1)) = true ∧ txt 1 o = "many") then plaF r (n + 1) (prev.map (txt 0) ++ [txt 0 o]) (decide (("many" : Str) ∈ prev.map (txt 1)) || decide (txt 1 o = "many")) else .tuple [.str "places", .int (n : Int)] := rfl
    rw [e, gF_cons, pla_fits]
    by_cases c : isPlace o = true ∧ txt 0 o ∉ prev.map (txt 0) ∧ ¬ (decide (("many" : Str) ∈ prev.map (txt 1)) = true ∧ txt 1 o = "many")
    · rw [if_pos c, if_pos (decide_eq_true c), ← plaF_gF r (n + 1) (prev ++ [o]), List.map_append]
      congr 1
      rw [List.map_append]
      exact (dec_snoc _ _ _).symm
    · rw [if_neg c, if_neg (by simpa using c)]
theorem optionFault_gF (os : List PyData) (h : os.length ≤ 24) : optionFault (.tuple os) = gF isOption "options" os 0 [] := by
  show (if os.length > 24 then _ else optF os 0 [] []) = _
  rw [if_neg (by omega)]
  exact optF_gF os 0 []
theorem placeFault_gF (os : List PyData) (h : os.length ≤ 5) : placeFault (.tuple os) = gF isPlace "places" os 0 [] := by
  show (if os.length > 5 then _ else plaF os 0 [] false) = _
  rw [if_neg (by omega)]
  exact plaF_gF os 0 []
end KM
end
section
set_option Elab.async false
set_option linter.all false
set_option maxRecDepth 100000
set_option maxHeartbeats 2000000
namespace KL
open PySem PySem.Spec PyProof.Rows L2 DS KT KM KD
section
variable {P : Program} {w : World} {K : PySem.W.Frag} {mg : Str → Option Value} {base : Heap} {Cb Ck fI : Addr}
def R_lis_of : Rel := R_is_of
theorem strOk_sign {s : Str} (h : PyData.strOk s = true) {c : Nat} (hc : c ∈ s.cps.toList) : PyData.strOk ⟨#[c]⟩ = true := by
  unfold PyData.strOk at *
  rw [← Array.all_toList, List.all_eq_true] at h ⊢
  intro x hx
  have e : x = c := List.mem_singleton.mp hx
  rw [e]; exact h c hc
theorem eqv_nil (xs : List PyData) : PyData.eqv (.list xs) (.list []) = decide (xs = []) := by
  cases xs <;> simp [PyData.eqv, PyData.eqvAll]
theorem b_lis_of (m : Free mg) : BodyOk P w K mg base N_law_is_of "_law_is_of" s_law_is_of 0 R_is_of := by
  intro f cdv A outer s H E F0 xs z hr hR
  obtain ⟨x, sg, lo, hi, rfl, hx, rfl⟩ := hR
  cases hs : isStr x with
  | false =>
    refine dw_ifR (k := true) (dt_is (dw_pt (dw_or (k := true) (k' := true) (dt_is (dt_not (dt_val (dx_isStr m (dx_var 0)))) (by rw [hs] <;> rfl)) fun z => nomatch z)) rfl) (fun _ => dw_ret (x := .bool false) dx_bl ?_) (fun z => nomatch z)
    show Sl.d _ = Sl.d _
    cases x <;> first | rfl | cases hs
  | true =>
    obtain ⟨t, rfl⟩ := isStr_of hs
    have hl := okN_str hx
    refine dw_ifR (k := false || !(decide (lo ≤ (t.length : Int)) && decide ((t.length : Int) ≤ hi))) (dw_pt (dw_or (dt_is (dt_not (dt_val (dx_isStr m (dx_var 0)))) rfl) fun _ => dw_or1 (dt_not (dt_leLe (dx_var 2) (dx_lenS m.len (dx_var 0) (by omega)) (dx_var 3))))) (fun h => dw_ret (x := .bool false) dx_bl ?_) (fun h => ?_)
    · show Sl.d _ = Sl.d _
      rw [Bool.false_or] at h
      have h' : (decide (lo ≤ (t.length : Int)) && decide ((t.length : Int) ≤ hi)) = false := by rw [Bool.not_eq_true'] at h; exact h
      congr 2
      show false = (_ && _)
      rw [h', Bool.false_and]
    · rw [Bool.false_or] at h
      have h' : (decide (lo ≤ (t.length : Int)) && decide ((t.length : Int) ≤ hi)) = true := by rw [Bool.not_eq_false'] at h; exact h
      have e1 : isOf (.str t) sg lo hi = t.cps.toList.all (fun c => decide (c ∈ sg.cps.toList)) := by
        show (_ && _) = _
        rw [h', Bool.true_and]
      rw [e1]
      have hsh : SeqAt.shaped (.list ((sgnsD t).filter fun x => !inSg sg x)) = true := by
        refine ok_shaped (n := 1) ?_ (by decide)
        unfold okN
        simp only [Bool.and_eq_true, decide_eq_true_eq, List.all_eq_true]
        refine ⟨Nat.le_trans (List.length_filter_le _ _) (by unfold sgnsD; rw [List.length_map]; exact hl.1), fun y hy => ?_⟩
        obtain ⟨k, hk, rfl⟩ := signs_mem (List.mem_filter.mp hy).1
        show (decide _ && _) = true
        rw [strOk_sign hl.2 hk]
        rfl
      refine dw_ret (x := .bool (t.cps.toList.all (fun c => decide (c ∈ sg.cps.toList)))) (dx_is (dx_eq hr.units (dx_ofO (dg_imp (do_lc (own := [("sign", 4)]) (xs := sgnsD t) (g := tg1 4) (fun x => !inSg sg x) (fun x => x) rfl sc_law_is_of.nd (dig_of (di_str (dx_var 0))) (blkOk_by (N := N_law_is_of) (sc := defScope s_law_is_of) (by decide +kernel)) ?_ (fun s H C cl fp => dtg1 4 sc_law_is_of.nd) (fun x hx => ⟨_, rfl⟩) (fun s H C cl fp x ds1 hx e => ?_) (fun s H C cl fp x ds1 hx _ e => ?_)) fun _ _ _ _ r => ?_)) (dx_lst da_nil) hsh (by decide +kernel)) ?_) rfl
      · unfold sgnsD; rw [List.length_map]; exact Nat.le_trans hl.1 (by decide)
      · cases e
        obtain ⟨k, hk, rfl⟩ := signs_mem hx
        exact pts_one (dt_notInS (dx_var 4) (dx_var 1))
      · cases e
        exact dx_var 4
      · rw [List.map_id'] at r
        exact r
      · rw [eqv_nil]
        congr 1
        rw [Bool.eq_iff_iff, decide_eq_true_eq, List.filter_eq_nil_iff, List.all_eq_true]
        unfold sgnsD
        constructor
        · intro h k hk
          have := h _ (List.mem_map.mpr ⟨k, hk, rfl⟩)
          simpa [inSg] using this
        · intro h x hx
          obtain ⟨k, hk, rfl⟩ := List.mem_map.mp hx
          have := h k hk
          simpa [inSg] using this
end
end KL
end
section
set_option Elab.async false
set_option linter.all false
set_option maxRecDepth 100000
set_option maxHeartbeats 2000000
namespace KL
open PySem PySem.Spec PyProof.Rows L2 DS KT KM KD
section
variable {P : Program} {w : World} {K : PySem.W.Frag} {mg : Str → Option Value} {base : Heap} {Cb Ck fI : Addr}
abbrev P_lis_of : List Str := ["thing", "signs", "low", "high"]
theorem b_lis_name (D : Def P w K mg base "_law_is_of" 1 P_lis_of (spD K R_is_of)) : BodyOk P w K mg base N_law_is_name "_law_is_name" s_law_is_name 1 R_is_name := by
  intro f cdv A outer s H E F0 xs z hr hR
  obtain ⟨x, rfl, hx, rfl⟩ := hR
  refine dw_ifR (dt_not (dt_val (dx_call D hr (da_cons (dx_var 0) (da_cons dx_str (da_cons dx_int (da_one dx_int)))) ⟨x, LETD, 2, 12, rfl, hx, rfl⟩))) (fun h => dw_ret (x := .bool false) dx_bl ?_) (fun h => ?_)
  · show Sl.d _ = Sl.d _
    congr 2
    have h' : isOf x LETD 2 12 = false := by rw [Bool.not_eq_true'] at h; exact h
    show false = (_ && _)
    rw [h', Bool.false_and]
  · have h' : isOf x LETD 2 12 = true := by rw [Bool.not_eq_false'] at h; exact h
    obtain ⟨t, rfl, hl⟩ := isOf_str h'
    have hl2 := (okN_str hx).1
    have e : isName (.str t) = (!decide (headS (.str t) = "-") && !decide (lastS (.str t) = "-")) := by
      show (_ && _) = _
      rw [h', Bool.true_and]
    rw [e]
    refine dw_ret (dx_and (k := !decide (headS (.str t) = "-")) (k' := !decide (lastS (.str t) = "-")) (dx_neS (dx_ixS (dx_var 0) dx_int (str_pos (by omega)) (by omega)) dx_str) (fun _ => ?_)) rfl
    exact dx_one (dx_neS (dx_ixS (dx_var 0) dx_neg1 (str_last (by omega)) (by omega)) dx_str)
theorem b_lis_option (m : Free mg) (D1 : Def P w K mg base "_law_is_of" 1 P_lis_of (spD K R_is_of)) (D2 : Def P w K mg base "_law_is_name" 2 ["thing"] (spD K R_is_name)) : BodyOk P w K mg base N_law_is_option "_law_is_option" s_law_is_option 2 R_is_option := by
  intro f cdv A outer s H E F0 xs z hr hR
  obtain ⟨x, rfl, hx, rfl⟩ := hR
  have out : ∀ {b : Bool}, b = false → isOption x = false → Sl.d (.bool b) = Sl.d (.bool (isOption x)) := fun h1 h2 => by rw [h1, h2]
  cases hx' : isTup x with
  | false =>
    refine dw_ifR (k := true) (dt_is (dw_pt (dw_or (k := true) (k' := true) (dt_is (dt_not (dt_val (dx_isTup m (dx_var 0)))) (by rw [hx'] <;> rfl)) fun z => nomatch z)) rfl) (fun _ => dw_ret (x := .bool false) dx_bl (out rfl ?_)) (fun z => nomatch z)
    cases x <;> first | rfl | cases hx'
  | true =>
    obtain ⟨ys, rfl⟩ := isTup_of hx'
    by_cases hl : ys.length = 3
    · obtain ⟨a, b, k, rfl⟩ : ∃ a b k, ys = [a, b, k] := by
        match ys, hl with
        | [a, b, k], _ => exact ⟨a, b, k, rfl⟩
      have ha := ok_mem hx a (by simp)
      have hb := ok_mem hx b (by simp)
      have hk := ok_mem hx k (by simp)
      refine dw_ifR (k := false || (false || !isName a)) (dw_pt (dw_or (dt_is (dt_not (dt_val (dx_isTup m (dx_var 0)))) rfl) fun _ => dw_or (dt_is (dt_cmp op_ne (dx_len m.len (dl_ofT (dx_var 0))) dx_int op2_neI) rfl) fun _ => dw_or1 (dt_not (dt_val (dx_call D2 hr (da_one (dx_ixT (dx_var 0) dx_int rfl)) ⟨a, rfl, ha, rfl⟩))))) (fun h => dw_ret (x := .bool false) dx_bl (out rfl ?_)) (fun h => ?_)
      · have h' : isName a = false := by simpa using h
        show (isName a && _) = false
        rw [h', Bool.false_and]
      · have h1 : isName a = true := by simpa using h
        refine dw_ifR (k := !letOk b || !isStr k) (dw_pt (dw_or (dt_not (dt_val (dx_call D1 (hr.mono (by decide)) (da_cons (dx_ixT (dx_var 0) dx_int rfl) (da_cons dx_str (da_cons dx_int (da_one dx_int)))) ⟨b, LETF, 0, 1, rfl, hb, rfl⟩))) fun _ => dw_or1 (dt_not (dt_val (dx_isStr m (dx_ixT (dx_var 0) dx_int rfl)))))) (fun h => dw_ret (x := .bool false) dx_bl (out rfl ?_)) (fun h => ?_)
        · show (isName a && (letOk b && inKin k)) = false
          cases hs : isStr k with
          | false =>
            have : inKin k = false := by cases k <;> first | rfl | cases hs
            rw [this, Bool.and_false, Bool.and_false]
          | true =>
            rw [hs] at h
            have : letOk b = false := by simpa using h
            rw [this, Bool.false_and, Bool.and_false]
        · have h2 : letOk b = true ∧ isStr k = true := by simpa using h
          obtain ⟨t, rfl⟩ := isStr_of h2.2
          have e : isOption (.tuple [a, b, .str t]) = decide (t ∈ KIN) := by
            show (isName a && (letOk b && decide (t ∈ KIN))) = _
            rw [h1, h2.1, Bool.true_and, Bool.true_and]
          rw [e]
          exact dw_ret (dx_in (ss := KIN) (dx_ixT (dx_var 0) dx_int rfl) (dl_ofT (dx_tup (da_cons dx_str (da_cons dx_str (da_cons dx_str (da_cons dx_str (da_cons dx_str (da_one dx_str)))))) (by show 6 ≤ 100000; decide)))) rfl
    · refine dw_ifR (k := true) (dt_is (dw_pt (dw_or (k := false) (k' := true) (dt_is (dt_not (dt_val (dx_isTup m (dx_var 0)))) rfl) fun _ => dw_or (k := true) (k' := true) (dt_is (dt_cmp op_ne (dx_len m.len (dl_ofT (dx_var 0))) dx_int op2_neI) (by rw [decide_eq_false (show ¬ (ys.length : Int) = 3 by omega)] <;> rfl)) fun z => nomatch z)) rfl) (fun _ => dw_ret (x := .bool false) dx_bl (out rfl ?_)) (fun z => nomatch z)
      unfold isOption
      split
      · rename_i e; cases e; exact absurd rfl hl
      · rfl
theorem b_lis_place (m : Free mg) (D2 : Def P w K mg base "_law_is_name" 2 ["thing"] (spD K R_is_name)) : BodyOk P w K mg base N_law_is_place "_law_is_place" s_law_is_place 2 R_is_place := by
  intro f cdv A outer s H E F0 xs z hr hR
  obtain ⟨x, rfl, hx, rfl⟩ := hR
  have out : ∀ {b : Bool}, b = false → isPlace x = false → Sl.d (.bool b) = Sl.d (.bool (isPlace x)) := fun h1 h2 => by rw [h1, h2]
  cases hx' : isTup x with
  | false =>
    refine dw_ifR (k := true) (dt_is (dw_pt (dw_or (k := true) (k' := true) (dt_is (dt_not (dt_val (dx_isTup m (dx_var 0)))) (by rw [hx'] <;> rfl)) fun z => nomatch z)) rfl) (fun _ => dw_ret (x := .bool false) dx_bl (out rfl ?_)) (fun z => nomatch z)
    cases x <;> first | rfl | cases hx'
  | true =>
    obtain ⟨ys, rfl⟩ := isTup_of hx'
    by_cases hl : ys.length = 2
    · obtain ⟨a, b, rfl⟩ : ∃ a b, ys = [a, b] := by
        match ys, hl with
        | [a, b], _ => exact ⟨a, b, rfl⟩
      have ha := ok_mem hx a (by simp)
      have hb := ok_mem hx b (by simp)
      refine dw_ifR (k := false || (false || !isName a)) (dw_pt (dw_or (dt_is (dt_not (dt_val (dx_isTup m (dx_var 0)))) rfl) fun _ => dw_or (dt_is (dt_cmp op_ne (dx_len m.len (dl_ofT (dx_var 0))) dx_int op2_neI) rfl) fun _ => dw_or1 (dt_not (dt_val (dx_call D2 hr (da_one (dx_ixT (dx_var 0) dx_int rfl)) ⟨a, rfl, ha, rfl⟩))))) (fun h => dw_ret (x := .bool false) dx_bl (out rfl ?_)) (fun h => ?_)
      · have h' : isName a = false := by simpa using h
        show (isName a && _) = false
        rw [h', Bool.false_and]
      · have h1 : isName a = true := by simpa using h
        have e : isPlace (.tuple [a, b]) = inAri b := by
          show (isName a && inAri b) = _
          rw [h1, Bool.true_and]
        rw [e]
        cases hs : isStr b with
        | false =>
          refine dw_ret (dx_is (dx_and (k := false) (k' := false) (dx_is (dx_isStr m (dx_ixT (dx_var 0) dx_int rfl)) (by rw [hs])) (fun h => nomatch h)) ?_) rfl
          cases b <;> first | rfl | cases hs
        | true =>
          obtain ⟨t, rfl⟩ := isStr_of hs
          exact dw_ret (dx_is (dx_and (k := true) (k' := decide (t ∈ ARI)) (dx_is (dx_isStr m (dx_ixT (dx_var 0) dx_int rfl)) rfl) fun _ => dx_one (dx_in (ss := ARI) (dx_ixT (dx_var 0) dx_int rfl) (dl_ofT (dx_tup (da_cons dx_str (da_cons dx_str (da_one dx_str))) (by show 3 ≤ 100000; decide))))) rfl) rfl
    · refine dw_ifR (k := true) (dt_is (dw_pt (dw_or (k := false) (k' := true) (dt_is (dt_not (dt_val (dx_isTup m (dx_var 0)))) rfl) fun _ => dw_or (k := true) (k' := true) (dt_is (dt_cmp op_ne (dx_len m.len (dl_ofT (dx_var 0))) dx_int op2_neI) (by rw [decide_eq_false (show ¬ (ys.length : Int) = 2 by omega)] <;> rfl)) fun z => nomatch z)) rfl) (fun _ => dw_ret (x := .bool false) dx_bl (out rfl ?_)) (fun z => nomatch z)
      unfold isPlace
      split
      · rename_i e; cases e; exact absurd rfl hl
      · rfl
end
end KL
end
section
set_option Elab.async false
set_option linter.all false
set_option maxRecDepth 100000
set_option maxHeartbeats 2000000
namespace KL
open PySem PySem.Spec PyProof.Rows L2 DS KT KM KD
/-- a if c else b, as a test -/
theorem dt_ite {X : Cx} {O : Own} {ds : List Sl} {c a b : Expr} {pos : Pos} {k k' : Bool} (hc : DT X O ds c k) (ha : k = true → DT X O ds a k') (hb : k = false → DT X O ds b k') : DT X O ds (.IfExp c a b pos) k' := by
  refine ⟨fun pins s σ H Q I ⟨F, st, q⟩ => ?_⟩
  refine isTrue_IfExp (wpAny_mono (hc.run pins s σ H (fun b H1 => b = k ∧ ∃ F1, Grow O F H F1 H1 ∧ O.J H1) I ⟨F, st, fun F1 H1 g1 j1 => ⟨rfl, F1, g1, j1⟩⟩) (fun b s1 ⟨H1, I1, e, F1, g1, j1⟩ => ?_) fun _ _ z => z)
  subst e
  cases b with
  | true => exact (ha rfl).run pins s1 σ H1 Q I1 ⟨F1, st.grow g1 j1, fun F2 H2 g2 j2 => q F2 H2 (g1.trans g2) j2⟩
  | false => exact (hb rfl).run pins s1 σ H1 Q I1 ⟨F1, st.grow g1 j1, fun F2 H2 g2 j2 => q F2 H2 (g1.trans g2) j2⟩
theorem dt_notIn {X : Cx} {O : Own} {ds : List Sl} {a b : Expr} {pos : Pos} {s : Str} {ss : List Str} (ha : DX X O ds a (.str s)) (hb : DL X O ds b (ss.map PyData.str)) (hm : behindInMarks .NotIn b = false := by rfl) : DT X O ds (.Compare a [.NotIn] [b] pos) (!decide (s ∈ ss)) :=
  pt_mono (pt_cmpR op_notIn_seq ha hb hm) fun σ H Q ⟨F, st, q⟩ => ⟨F, st, fun v F1 H1 g1 j1 d1 => ⟨F1, st.grow g1 j1, fun w F2 H2 g2 j2 r2 => by
    obtain ⟨p, vs, rfl, h1, h2⟩ := r2
    have hv := dpAll_strs h2
    subst hv
    rw [Dp.str_eq d1]
    refine ⟨p, _, rfl, h1, rfl, flat_strs, ?_⟩
    exact ⟨!decide (s ∈ ss), by show V.bl (if true = true then !inV (.str s) (ss.map V.str) else _) = _; rw [if_pos rfl, inV_strs], q F2 H2 (g1.trans g2) j2⟩⟩⟩
theorem cut_take (xs : List PyData) (i : Nat) (h : i ≤ xs.length) : DS.cutD xs none (some (i : Int)) = xs.take i := by
  unfold DS.cutD
  have h0 : HT.sIx xs.length 0 none = 0 := rfl
  have h1 : HT.sIx xs.length xs.length (some (i : Int)) = i := by
    show HT.sIx _ _ (some (i : Int)) = i
    simp only [HT.sIx]
    (split <;> omega)
  rw [h0, h1, List.drop_zero, Nat.sub_zero]
section
variable {P : Program} {w : World} {K : PySem.W.Frag} {mg : Str → Option Value} {base : Heap} {Cb Ck fI : Addr}
def lawF (V : PyData → Bool) (word : Str) (n : Nat) (x : PyData) : PyData := match x with
  | .tuple os => if os.length > n then .tuple [.str word] else gF V word os 0 []
  | _ => .tuple [.str word]
theorem lawF_opt (x : PyData) : lawF isOption "options" 24 x = optionFault x := by
  cases x with
  | tuple os =>
    show (if os.length > 24 then _ else _) = (if os.length > 24 then _ else _)
    by_cases c : os.length > 24
    · rw [if_pos c, if_pos c]
    · rw [if_neg c, if_neg c]; exact (optF_gF os 0 []).symm
  | _ => rfl
theorem lawF_pla (x : PyData) : lawF isPlace "places" 5 x = placeFault x := by
  cases x with
  | tuple os =>
    show (if os.length > 5 then _ else _) = (if os.length > 5 then _ else _)
    by_cases c : os.length > 5
    · rw [if_pos c, if_pos c]
    · rw [if_neg c, if_neg c]; exact (plaF_gF os 0 []).symm
  | _ => rfl
/-- a row that is one: its first two texts -/
def Row2 (V : PyData → Bool) : Prop := ∀ o, V o = true → ∃ r, o = .tuple (.str (txt 0 o) :: .str (txt 1 o) :: r)
theorem row_opt : Row2 isOption := fun o h => by
  obtain ⟨a, b, k, rfl, _⟩ := isOption_tup h
  exact ⟨_, rfl⟩
theorem row_pla : Row2 isPlace := fun o h => by
  obtain ⟨a, b, rfl, _⟩ := isPlace_tup h
  exact ⟨_, rfl⟩
theorem at0 {x : PyData} {r : List PyData} : atI (x :: r) 0 = some x := by
  unfold atI ixN
  rw [if_pos (Int.le_refl 0), if_pos (show (0 : Int) < ((x :: r).length : Int) by rw [List.length_cons]; omega)]
  rfl
theorem at1 {x y : PyData} {r : List PyData} : atI (x :: y :: r) 1 = some y := by
  unfold atI ixN
  rw [if_pos (by decide), if_pos (show (1 : Int) < ((x :: y :: r).length : Int) by rw [List.length_cons, List.length_cons]; omega)]
  rfl
def R_law_first : Rel := fun xs z => ∃ word V n x, xs = [.str word, x, .int ((n : Nat) : Int)] ∧ ok x ∧ ((word = "options" ∧ V = isOption) ∨ (word = "places" ∧ V = isPlace)) ∧ n ≤ 24 ∧ z = lawF V word n x
def If_first (V : PyData → Bool) (word : Str) (n : Nat) (os : List PyData) (i : Nat) (ds : List Sl) : Prop := (∃ a b c d e, ds = [.d (.str word), .d (.tuple os), .d (.int ((n : Nat) : Int)), a, b, c, d, e]) ∧ (∀ o ∈ os.take i, V o = true) ∧ gF V word os 0 [] = gF V word (os.drop i) i (os.take i)
theorem b_law_first (m : Free mg) (D1 : Def P w K mg base "_law_is_option" 3 ["thing"] (spD K R_is_option)) (D2 : Def P w K mg base "_law_is_place" 3 ["thing"] (spD K R_is_place)) : BodyOk P w K mg base N_law_first "_law_first" s_law_first 3 R_law_first := by
  intro f cdv A outer s H E F0 xs z hr hR
  obtain ⟨word, V, n, x, rfl, hx, hV, hn24, rfl⟩ := hR
  refine dw_ifR (dw_badTup (n := n) m (dx_var 1) (dx_var 1) (dx_var 2)) (fun h => dw_ret (x := .tuple [.str word]) (dx_tup (da_one (dx_var 0))) ?_) (fun h => ?_)
  · show Sl.d _ = Sl.d _
    congr 1
    unfold lawF
    split
    · rename_i os
      have h' : decide ((n : Int) < (os.length : Int)) = true := h
      rw [if_pos (by have := of_decide_eq_true h'; omega)]
    · rfl
  obtain ⟨os, rfl, hl⟩ := badTup_of h
  have eF : lawF V word n (.tuple os) = gF V word os 0 [] := if_neg (by omega)
  rw [eF]
  have hrow : Row2 V := by
    rcases hV with ⟨_, rfl⟩ | ⟨_, rfl⟩
    · exact row_opt
    · exact row_pla
  refine dw_for (xs := enumD os) (g := tg2 3 4) PassesOwn.never rfl (di_enum m.enum (dx_var 1)) (fun _ => dtg2 3 4 rfl sc_law_first.nd (gn 3 sc_law_first.nd) (gn 4 sc_law_first.nd)) (If_first V word n os) ⟨⟨.u, .u, .u, .u, .u, rfl⟩, fun o h => (by rw [List.take_zero] at h; cases h), rfl⟩ (fun i y ds1 hy hI => ?_) (fun ds1 hI => ?_)
  · obtain ⟨⟨a, b, c, d, e, rfl⟩, hA, hF⟩ := hI
    obtain ⟨o, ho, rfl⟩ := enumD_get hy
    have hil : i < os.length := (List.getElem?_eq_some_iff.mp ho).1
    have hok : ok o := ok_mem hx o (List.mem_of_getElem? ho)
    rw [drop_get ho, gF_cons] at hF
    refine ⟨_, rfl, ?_⟩
    have bad : fits V (os.take i) o = false → gF V word os 0 [] = .tuple [.str word, .int (i : Int)] := fun h => by rw [hF, if_neg (by rw [h]; decide)]
    have good : fits V (os.take i) o = true → gF V word os 0 [] = gF V word (os.drop (i + 1)) (i + 1) (os.take (i + 1)) := fun h => by rw [hF, if_pos h, take_snoc ho]
    refine dw_ifR (k := !V o) (dt_not (dt_ite (k := decide (word = "options")) (k' := V o) (dt_cmp op_eq (dx_var 0) dx_str op2_eqS) (fun h => ?_) (fun h => ?_))) (fun h => dw_ret (x := .tuple [.str word, .int (i : Int)]) (dx_tup (da_cons (dx_var 0) (da_one (dx_var 3))) (by show 2 ≤ 100000; decide)) ?_) (fun h => ?_)
    · rcases hV with ⟨_, rfl⟩ | ⟨rfl, _⟩
      · exact dt_val (dx_call D1 hr (da_one (dx_var 4)) ⟨o, rfl, hok, rfl⟩)
      · exact absurd h (by decide +kernel)
    · rcases hV with ⟨rfl, _⟩ | ⟨_, rfl⟩
      · exact absurd h (by decide +kernel)
      · exact dt_val (dx_call D2 hr (da_one (dx_var 4)) ⟨o, rfl, hok, rfl⟩)
    · show Sl.d _ = Sl.d _
      rw [bad]
      unfold fits
      have h' : V o = false := by simpa using h
      rw [h', Bool.false_and]
    · have hVo : V o = true := by simpa using h
      obtain ⟨r, er⟩ := hrow o hVo
      have i0 : ∀ {e : Expr} {ds : List Sl} {O : Own} {X : Cx} {p pos : Pos} {j : Nat}, DX X O ds e o → DX X O ds (.Subscript e (.Constant (.int 0) j p) pos) (.str (txt 0 o)) := fun h => dx_ixT (dx_is h er) dx_int at0
      have i1 : ∀ {e : Expr} {ds : List Sl} {O : Own} {X : Cx} {p pos : Pos} {j : Nat}, DX X O ds e o → DX X O ds (.Subscript e (.Constant (.int 1) j p) pos) (.str (txt 1 o)) := fun h => dx_ixT (dx_is h er) dx_int at1
      have p0 : ∀ {e : Expr} {ds : List Sl} {O : Own} {X : Cx} {p pos : Pos} {j : Nat} {u : PyData}, u ∈ os.take i → DX X O ds e u → DX X O ds (.Subscript e (.Constant (.int 0) j p) pos) (.str (txt 0 u)) := fun hu h => by
        obtain ⟨r, er⟩ := hrow _ (hA _ hu)
        exact dx_ixT (dx_is h er) dx_int at0
      have p1 : ∀ {e : Expr} {ds : List Sl} {O : Own} {X : Cx} {p pos : Pos} {j : Nat} {u : PyData}, u ∈ os.take i → DX X O ds e u → DX X O ds (.Subscript e (.Constant (.int 1) j p) pos) (.str (txt 1 u)) := fun hu h => by
        obtain ⟨r, er⟩ := hrow _ (hA _ hu)
        exact dx_ixT (dx_is h er) dx_int at1
      have hct := cut_take os i (by omega)
      refine dw_setLc (i := 5) (own := [("other", 7)]) (xs := os.take i) (g := tg1 7) (fun _ => true) (fun u => .str (txt 0 u)) rfl sc_law_first.nd (dig_of (di_tup (dx_is (dx_cutT (dx_var 1) pt_no (pt_at (dx_var 3))) (by rw [hct])))) (blkOk_by (N := N_law_first) (sc := defScope s_law_first) (by decide +kernel)) (by rw [List.length_take]; omega) (fun s H C cl fp => dtg1 7 sc_law_first.nd) (fun x hx => ⟨_, rfl⟩) (fun s H C cl fp u ds1 hu e => pts_no) (fun s H C cl fp u ds1 hu _ e => ?_) ?_
      · cases e
        exact p0 hu (dx_var 7)
      refine dw_setLc (i := 6) (own := [("other", 7)]) (xs := os.take i) (g := tg1 7) (fun _ => true) (fun u => .str (txt 1 u)) rfl sc_law_first.nd (dig_of (di_tup (dx_is (dx_cutT (dx_var 1) pt_no (pt_at (dx_var 3))) (by rw [hct])))) (blkOk_by (N := N_law_first) (sc := defScope s_law_first) (by decide +kernel)) (by rw [List.length_take]; omega) (fun s H C cl fp => dtg1 7 sc_law_first.nd) (fun x hx => ⟨_, rfl⟩) (fun s H C cl fp u ds1 hu e => pts_no) (fun s H C cl fp u ds1 hu _ e => ?_) ?_
      · cases e
        exact p1 hu (dx_var 7)
      rw [filter_yes]
      have e0 : (os.take i).map (fun u => PyData.str (txt 0 u)) = ((os.take i).map (txt 0)).map PyData.str := by rw [List.map_map]; rfl
      have e1 : (os.take i).map (fun u => PyData.str (txt 1 u)) = ((os.take i).map (txt 1)).map PyData.str := by rw [List.map_map]; rfl
      rw [e0, e1]
      have l0 := dl_var (X := Bx P w K mg base N_law_first "_law_first" (defScope s_law_first) f cdv A outer s H E) (O := (Bm F0 H).O) (pos := ⟨0, 0, 0, 0⟩) (ds := [.d (.str word), .d (.tuple os), .d (.int ((n : Nat) : Int)), .d (.int (i : Int)), .d o, .l (((os.take i).map (txt 0)).map PyData.str), .l (((os.take i).map (txt 1)).map PyData.str), e]) 5
      refine dw_ifR (k := decide (txt 0 o ∈ (os.take i).map (txt 0)) || (decide (txt 1 o ∈ (os.take i).map (txt 1)) && !decide (txt 1 o ∈ EXC))) (dw_pt (dw_or (dt_in (i0 (dx_var 4)) (dl_var 5)) fun _ => dw_or1 (dw_pt (dw_and (dt_in (i1 (dx_var 4)) (dl_var 6)) fun _ => dw_and1 (dt_notIn (ss := EXC) (i1 (dx_var 4)) (dl_ofT (dx_tup (da_cons dx_str (da_cons dx_str (da_one dx_str))) (by show 3 ≤ 100000; decide)))))))) (fun h => dw_ret (x := .tuple [.str word, .int (i : Int)]) (dx_tup (da_cons (dx_var 0) (da_one (dx_var 3))) (by show 2 ≤ 100000; decide)) ?_) (fun h => dw_nil ⟨rfl, ⟨_, _, _, _, _, rfl⟩, fun u hu => ?_, ?_⟩)
      · show Sl.d _ = Sl.d _
        rw [bad]
        unfold fits
        rw [hVo, Bool.true_and, ← Bool.not_or, h]
        rfl
      · rw [take_snoc ho] at hu
        rcases List.mem_append.mp hu with hu | hu
        · exact hA u hu
        · rw [List.mem_singleton.mp hu]; exact hVo
      · refine good ?_
        unfold fits
        rw [hVo, Bool.true_and, ← Bool.not_or, h]
        rfl
  · obtain ⟨⟨a, b, c, d, e, rfl⟩, hA, hF⟩ := hI
    refine dw_ret (x := .none) dx_non ?_
    show Sl.d _ = Sl.d _
    rw [hF, enumD_len, List.drop_length]
    rfl
end
end KL
end
section
set_option Elab.async false
set_option linter.all false
set_option maxRecDepth 100000
set_option maxHeartbeats 2000000
namespace KL
open PySem PySem.Spec PyProof.Rows L2 DS KT KM KD
section
variable {P : Program} {w : World} {K : PySem.W.Frag} {mg : Str → Option Value} {base : Heap} {Cb Ck fI : Addr}
theorem modes_eqv (ms : List PyData) : PyData.eqv (.list (ms.map fun m => .bool (isBool m))) (.list [.bool true, .bool true, .bool true]) = modesOk (.tuple ms) := by
  match ms with
  | [] => rfl
  | [a] => simp [PyData.eqv, PyData.eqvAll, modesOk]
  | [a, b] => simp [PyData.eqv, PyData.eqvAll, modesOk]
  | [a, b, c] => simp [PyData.eqv, PyData.eqvAll, modesOk]
  | a :: b :: c :: d :: r => simp [PyData.eqv, PyData.eqvAll, modesOk]
theorem b_law_fault (m : Free mg) (D : Def P w K mg base "_law_first" 4 ["word", "things", "most"] (spD K R_law_first)) : BodyOk P w K mg base N_law_fault "_law_fault" s_law_fault 4 R_fault := by
  intro f cdv A outer s H E F0 xs z hr hR
  obtain ⟨x, rfl, hx, rfl⟩ := hR
  refine dw_ifR (dw_notTup (n := 3) m (dx_var 0) (dx_var 0)) (fun h => dw_ret (x := .tuple []) (dx_tup da_nil) ?_) (fun h => ?_)
  · show Sl.d _ = Sl.d _
    congr 1
    unfold KM.fault
    split
    · cases h
    · rfl
  obtain ⟨ys, rfl, hl⟩ := notTup_of h
  obtain ⟨o, p, q, rfl⟩ : ∃ a b k, ys = [a, b, k] := by
    match ys, hl with
    | [a, b, k], _ => exact ⟨a, b, k, rfl⟩
  have ho := ok_mem hx o (by simp)
  have hp := ok_mem hx p (by simp)
  have hq := ok_mem hx q (by simp)
  rw [fault3]
  refine dw_unp (dx_var 0) (dtg3 3 4 5 rfl sc_law_fault.nd (gn 3 sc_law_fault.nd) (gn 4 sc_law_fault.nd) (gn 5 sc_law_fault.nd)) rfl ?_
  refine dw_set 1 sc_law_fault.nd (dx_call D hr (da_cons dx_str (da_cons (dx_var 3) (da_one dx_int))) ⟨"options", isOption, 24, o, rfl, ho, .inl ⟨rfl, rfl⟩, by decide, rfl⟩) ?_
  rw [lawF_opt]
  refine dw_set (x := if isNone (optionFault o) = true then placeFault p else optionFault o) 1 sc_law_fault.nd (dx_if (k := isNone (optionFault o)) (dt_isN (dx_var 1)) (fun h => ?_) (fun h => ?_)) ?_
  · rw [if_pos h, ← lawF_pla]
    exact dx_call D hr (da_cons dx_str (da_cons (dx_var 4) (da_one dx_int))) ⟨"places", isPlace, 5, p, rfl, hp, .inr ⟨rfl, rfl⟩, by decide, rfl⟩
  · rw [if_neg (by rw [h]; decide)]
    exact dx_var 1
  refine dw_ifR (dt_notN (dx_var 1)) (fun h => dw_ret (dx_var 1) ?_) (fun h => ?_)
  · show Sl.d _ = Sl.d _
    by_cases c : isNone (optionFault o) = true
    · rw [if_pos c] at h ⊢
      have h' : isNone (placeFault p) = false := by simpa using h
      rw [if_neg (by rw [c]; decide), if_pos h']
    · have c' : isNone (optionFault o) = false := by simpa using c
      rw [if_neg c, if_pos c']
  · have h' : isNone (if isNone (optionFault o) = true then placeFault p else optionFault o) = true := by simpa using h
    have c : isNone (optionFault o) = true := by
      by_cases c : isNone (optionFault o) = true
      · exact c
      · rw [if_neg c] at h'; exact h'
    rw [if_pos c] at h'
    rw [if_neg (show ¬ isNone (optionFault o) = false by rw [c]; decide), if_neg (show ¬ isNone (placeFault p) = false by rw [h']; decide)]
    refine dw_set (x := .bool (modesOk q)) 2 sc_law_fault.nd ?_ ?_
    · cases hq' : isTup q with
      | false =>
        refine dx_is (dx_and (k := false) (k' := false) (dx_is (dx_isTup m (dx_var 5)) (by rw [hq'])) (fun h => nomatch h)) ?_
        cases q <;> first | rfl | cases hq'
      | true =>
        obtain ⟨ms, rfl⟩ := isTup_of hq'
        have hml := ok_len hq
        have sh : SeqAt.shaped (.list (ms.map fun m => .bool (isBool m))) = true := by
          refine ok_shaped (n := 1) ?_ (by decide)
          unfold okN
          simp only [Bool.and_eq_true, decide_eq_true_eq, List.all_eq_true]
          refine ⟨by rw [List.length_map]; exact hml, fun y hy => ?_⟩
          obtain ⟨a, _, rfl⟩ := List.mem_map.mp hy
          rfl
        refine dx_is (dx_and (k := true) (k' := PyData.eqv (.list (ms.map fun m => .bool (isBool m))) (.list [.bool true, .bool true, .bool true])) (dx_is (dx_isTup m (dx_var 5)) rfl) (fun _ => dx_one (dx_eq hr.units ?_ (dx_ofO (do_rep (k := 3) (dlt_ofO (do_lst (da_one dx_bl))) dx_int (by decide) (by decide) (by decide))) sh (by decide +kernel)))) (by rw [modes_eqv]; rfl)
        refine dx_ofO (dg_imp (do_lc (own := [("one", 6)]) (xs := ms) (g := tg1 6) (fun _ => true) (fun x => .bool (isBool x)) rfl sc_law_fault.nd (dig_of (di_tup (dx_var 5))) (blkOk_by (N := N_law_fault) (sc := defScope s_law_fault) (by decide +kernel)) (by omega) (fun s H C cl fp => dtg1 6 sc_law_fault.nd) (fun x hx => ⟨_, rfl⟩) (fun s H C cl fp x ds1 hx e => pts_no) (fun s H C cl fp x ds1 hx _ e => ?_)) fun _ _ _ _ r => ?_)
        · cases e
          exact dx_isBool m (dx_var 6)
        · rw [filter_yes] at r
          exact r
    · refine dw_ret (dx_if (k := modesOk q) (x := if modesOk q = true then .none else .tuple [.str "modes"]) (dt_val (dx_var 2)) (fun h => ?_) (fun h => ?_)) rfl
      · exact dx_is dx_non (if_pos h).symm
      · exact dx_is (dx_tup (da_one dx_str)) (if_neg (show ¬ modesOk q = true by rw [h]; decide)).symm
end
end KL
end
section
set_option Elab.async false
set_option linter.all false
set_option maxRecDepth 100000
set_option maxHeartbeats 1000000
/-! The law's tellings are the program's. -/
namespace KM
open PySem DS L2 PyProof.Rows
theorem str_ext {a b : Str} (h : a.cps.toList = b.cps.toList) : a = b := by
  obtain ⟨⟨l⟩⟩ := a
  obtain ⟨⟨m⟩⟩ := b
  have h' : l = m := h
  rw [h']
theorem pref_list (s : Str) (k : Nat) : (pref s (k : Int)).cps.toList = s.cps.toList.take k := by
  unfold pref cutS
  show (List.toArray _).toList = _
  rw [List.toList_toArray, HT.sIx_nat, HT.sIx_none, List.drop_zero, Nat.sub_zero]
  have e : s.length = s.cps.toList.length := by rw [Array.length_toList] <;> rfl
  rw [e]
  by_cases c : k ≤ s.cps.toList.length
  · rw [Nat.min_eq_left c]
  · rw [Nat.min_eq_right (by omega), List.take_length, List.take_of_length_le (by omega)]
theorem starts_pref (s t : Str) : Txt.startswith s t = decide (pref s (t.length : Int) = t) := by
  have hs : s.length = s.cps.toList.length := by rw [Array.length_toList] <;> rfl
  have ht : t.length = t.cps.toList.length := by rw [Array.length_toList] <;> rfl
  have e : (pref s (t.length : Int) = t) ↔ s.cps.toList.take t.length = t.cps.toList := by
    constructor
    · intro h
      have := congrArg (fun z : Str => z.cps.toList) h
      rw [← pref_list]; exact this
    · intro h
      exact str_ext (by rw [pref_list]; exact h)
  rw [Bool.eq_iff_iff, decide_eq_true_eq, e]
  show (decide (0 + t.length ≤ s.length) && (s.cps.extract 0 (0 + t.length) == t.cps)) = true ↔ _
  rw [Bool.and_eq_true, decide_eq_true_eq, beq_iff_eq, Nat.zero_add]
  constructor
  · rintro ⟨h1, h2⟩
    rw [← h2]
    simp
  · intro h
    have hl := congrArg List.length h
    rw [List.length_take] at hl
    refine ⟨by omega, ?_⟩
    apply Array.toList_inj.mp
    rw [← h]
    simp
/-- the law's tells -/
def hits (os : List PyData) (t : Str) : List Str := (os.map nm).filter fun n => decide (pref n (t.length : Int) = t)
def ltells (os : List PyData) (b : Bool) (t : Str) : List Str := if t ∈ os.map nm then [t] else if (b && (!decide (t = "") && decide (((hits os t).length : Int) = 1))) = true then hits os t else []
theorem hits_eq (os : List PyData) (t : Str) : hits os t = (os.filter fun o => Txt.startswith (nm o) t).map nm := by
  unfold hits
  rw [List.filter_map]
  congr 1
  exact List.filter_congr fun o _ => (starts_pref (nm o) t).symm
theorem tells_eq (os : List PyData) (b : Bool) (t : Str) (hn : ∀ o ∈ os, isNone o = false) : tellI os b t = (ltells os b t).head? := by
  unfold tellI ltells
  by_cases hm : t ∈ os.map nm
  · rw [if_pos hm]
    obtain ⟨o, ho, e⟩ := List.mem_map.mp hm
    have : ∃ p, os.find? (fun o => decide (nm o = t)) = some p ∧ p ∈ os ∧ nm p = t := by
      cases h : os.find? (fun o => decide (nm o = t)) with
      | some p => exact ⟨p, rfl, List.mem_of_find?_eq_some h, by have := List.find?_some h; simpa using this⟩
      | none => rw [List.find?_eq_none] at h; exact absurd e (by simpa using h o ho)
    obtain ⟨p, h1, h2, h3⟩ := this
    have et : told os b t = p := by unfold told; rw [h1]
    rw [et, if_neg (by rw [hn p h2]; decide), h3]
    rfl
  · rw [if_neg hm]
    have hf : os.find? (fun o => decide (nm o = t)) = none := by
      rw [List.find?_eq_none]
      intro o ho
      have : nm o ≠ t := fun e => hm (List.mem_map.mpr ⟨o, ho, e⟩)
      simpa using this
    have hh := hits_eq os t
    have hlen : (hits os t).length = (os.filter fun o => Txt.startswith (nm o) t).length := by rw [hh, List.length_map]
    rw [hlen]
    by_cases c : (b && (!decide (t = "") && decide (((os.filter fun o => Txt.startswith (nm o) t).length : Int) = 1))) = true
    · have et : told os b t = (os.filter fun o => Txt.startswith (nm o) t).getD 0 .none := by unfold told; rw [hf]; exact if_pos c
      have hl : (os.filter fun o => Txt.startswith (nm o) t).length = 1 := by
        simp only [Bool.and_eq_true, decide_eq_true_eq] at c
        omega
      obtain ⟨p, hp⟩ : ∃ p, os.filter (fun o => Txt.startswith (nm o) t) = [p] := by
        match os.filter fun o => Txt.startswith (nm o) t, hl with
        | [p], _ => exact ⟨p, rfl⟩
      have hpm : p ∈ os := (List.mem_filter.mp (by rw [hp]; exact List.mem_singleton.mpr rfl : p ∈ os.filter fun o => Txt.startswith (nm o) t)).1
      rw [if_pos c, et, hh, hp]
      show (if isNone p = true then none else some (nm p)) = _
      rw [if_neg (by rw [hn p hpm]; decide)]
      rfl
    · have et : told os b t = .none := by unfold told; rw [hf]; exact if_neg c
      rw [if_neg c, et]
      rfl
/-- all beginnings, the empty one too -/
def pre0 (os : List PyData) : List Str := os.flatMap fun o => (List.range ((nm o).length + 1)).map fun (i : Nat) => pref (nm o) (i : Int)
def ltellings (os : List PyData) (b : Bool) : List (Str × Str) := ((canon (pre0 os)).filter fun t => !decide (ltells os b t = [])).map fun t => (t, (ltells os b t).headD "")
theorem mem_preT {os : List PyData} {t : Str} : t ∈ preT os ↔ ∃ o ∈ os, ∃ i < (nm o).length, t = pref (nm o) (1 + (i : Int)) := by
  unfold preT
  rw [List.mem_flatMap]
  constructor
  · rintro ⟨o, ho, h⟩
    obtain ⟨i, hi, e⟩ := List.mem_map.mp h
    exact ⟨o, ho, i, List.mem_range.mp hi, e.symm⟩
  · rintro ⟨o, ho, i, hi, e⟩
    exact ⟨o, ho, List.mem_map.mpr ⟨i, List.mem_range.mpr hi, e.symm⟩⟩
theorem mem_pre0 {os : List PyData} {t : Str} : t ∈ pre0 os ↔ ∃ o ∈ os, ∃ i ≤ (nm o).length, t = pref (nm o) (i : Int) := by
  unfold pre0
  rw [List.mem_flatMap]
  constructor
  · rintro ⟨o, ho, h⟩
    obtain ⟨i, hi, e⟩ := List.mem_map.mp h
    exact ⟨o, ho, i, Nat.le_of_lt_succ (List.mem_range.mp hi), e.symm⟩
  · rintro ⟨o, ho, i, hi, e⟩
    exact ⟨o, ho, List.mem_map.mpr ⟨i, List.mem_range.mpr (Nat.lt_succ_of_le hi), e.symm⟩⟩
theorem pref_zero (s : Str) : pref s ((0 : Nat) : Int) = "" := by
  refine str_ext ?_
  rw [pref_list, List.take_zero]
  decide +kernel
theorem ltells_nil {os : List PyData} {b : Bool} (h : ∀ o ∈ os, nm o ≠ "") : ltells os b "" = [] := by
  unfold ltells
  rw [if_neg (fun hm => by obtain ⟨o, ho, e⟩ := List.mem_map.mp hm; exact h o ho e), if_neg (by simp)]
theorem sorted_filter {p : Str → Bool} {xs : List Str} (h : xs.Pairwise (fun a b => leT a b = true)) : (xs.filter p).Pairwise (fun a b => leT a b = true) := h.sublist List.filter_sublist
theorem filterMap_eq {f : Str → Option (Str × Str)} : ∀ xs : List Str, xs.filterMap f = ((xs.filter fun t => (f t).isSome).map fun t => (f t).getD ("", ""))
  | [] => rfl
  | x :: xs => by
    rw [List.filterMap_cons, filterMap_eq xs]
    cases h : f x with
    | none => rw [List.filter_cons, h]; rfl
    | some y =>
      rw [List.filter_cons, h]
      show _ = List.map _ (if true = true then _ else _)
      rw [if_pos rfl, List.map_cons, h]
      rfl
theorem tellings_eq (os : List PyData) (b : Bool) (hn : ∀ o ∈ os, isNone o = false) (h2 : ∀ o ∈ os, nm o ≠ "") : tellings os b = ltellings os b := by
  unfold tellings tellOf ltellings
  rw [filterMap_eq]
  have hp : ∀ t, (tellP os b t).isSome = !decide (ltells os b t = []) := fun t => by
    unfold tellP
    rw [tells_eq os b t hn]
    cases h : ltells os b t with
    | nil => rfl
    | cons x r => rfl
  have hv : ∀ t, ltells os b t ≠ [] → (tellP os b t).getD ("", "") = (t, (ltells os b t).headD "") := fun t h => by
    unfold tellP
    rw [tells_eq os b t hn]
    cases h' : ltells os b t with
    | nil => exact absurd h' h
    | cons x r => rfl
  have hl : (canon (preT os)).filter (fun t => (tellP os b t).isSome) = (canon (pre0 os)).filter fun t => !decide (ltells os b t = []) := by
    refine sorted_unique ?_ (sorted_filter (sortT_sorted _)) (sorted_filter (sortT_sorted _))
    refine (List.perm_ext_iff_of_nodup ((canon_nodup _).sublist List.filter_sublist) ((canon_nodup _).sublist List.filter_sublist)).mpr fun t => ?_
    rw [List.mem_filter, List.mem_filter, mem_canon, mem_canon, hp t]
    constructor
    · rintro ⟨h1, h3⟩
      obtain ⟨o, ho, i, hi, e⟩ := mem_preT.mp h1
      exact ⟨mem_pre0.mpr ⟨o, ho, i + 1, hi, by rw [e]; congr 1; omega⟩, h3⟩
    · rintro ⟨h1, h3⟩
      obtain ⟨o, ho, i, hi, e⟩ := mem_pre0.mp h1
      refine ⟨?_, h3⟩
      cases i with
      | zero =>
        rw [pref_zero] at e
        rw [e, ltells_nil h2] at h3
        exact absurd h3 (by decide)
      | succ i => exact mem_preT.mpr ⟨o, ho, i, hi, by rw [e]; congr 1; omega⟩
  rw [hl]
  refine List.map_congr_left fun t ht => hv t ?_
  have := (List.mem_filter.mp ht).2
  simpa using this
end KM
end
section
set_option Elab.async false
set_option linter.all false
set_option maxRecDepth 100000
set_option maxHeartbeats 2000000
namespace DS
open PySem PySem.Spec PyProof.Rows L2
open Evl (Ex ex_l ex_t ex_rd)
/-- an item of a list of data -/
theorem dx_ixF {X : Cx} {O : Own} {ds : List Sl} {a b : Expr} {xs : List PyData} {z : PyData} {pos : Pos} {i : Int} (ha : DX X O ds a (.list xs)) (hb : DX X O ds b (.int i)) (h : atI xs i = some z) (hs : PlainIx b := by intro _ _; rfl) : DX X O ds (.Subscript a b pos) z :=
  dx_ix ix_list ha hb (op2_pure fun F H v w Q e d1 d2 q => by
    obtain ⟨p, vs, rfl, h1, h2⟩ := d1.lst_eq
    rw [d2.int_eq]
    unfold atI at h
    cases hx : ixN xs.length i with
    | none => rw [hx] at h; cases h
    | some j =>
      rw [hx] at h
      obtain ⟨u, hu, du⟩ := h2.get' (show xs[j]? = some z from h)
      exact ⟨p, vs, i, u, rfl, rfl, ex_l e h1, by unfold atI; rw [h2.len, hx]; exact hu, q u du⟩) hs
end DS
namespace KL
open PySem PySem.Spec PyProof.Rows L2 DS KT KM KD
section
variable {P : Program} {w : World} {K : PySem.W.Frag} {mg : Str → Option Value} {base : Heap} {Cb Ck fI : Addr}
def R_law_tells : Rel := fun xs z => ∃ g t os ps b0 b1 b2, xs = [g, .str t] ∧ GV g os ps b0 b1 b2 ∧ t.length ≤ 100 ∧ z = .list (tX (ltells os b0 t))
theorem names_data (os : List PyData) : os.map (fun o => PyData.str (nm o)) = tX (os.map nm) := by rw [tX, List.map_map]; rfl
theorem b_law_tells (m : Free mg) : BodyOk P w K mg base N_law_tells "_law_tells" s_law_tells 0 R_law_tells := by
  intro f cdv A outer s H E F0 xs z hr hR
  obtain ⟨g, t, os, ps, b0, b1, b2, rfl, hg, ht, rfl⟩ := hR
  obtain ⟨rfl, hop, hpl, hnd, hol, hql⟩ := hg
  refine dw_setLc (i := 2) (own := [("option", 4)]) (xs := os) (g := tg1 4) (fun _ => true) (fun o => .str (nm o)) rfl sc_law_tells.nd (dig_of (di_tup (dx_ixT (dx_var 0) dx_int rfl))) (blkOk_by (N := N_law_tells) (sc := defScope s_law_tells) (by decide +kernel)) (by omega) (fun s H C cl fp => dtg1 4 sc_law_tells.nd) (fun x hx => ⟨_, rfl⟩) (fun s H C cl fp o ds1 hx e => pts_no) (fun s H C cl fp o ds1 hx _ e => ?_) ?_
  · cases e
    exact dx_nm (hop o hx) (dx_var 4)
  rw [filter_yes, names_data]
  refine dw_ifR (dt_in (dx_var 1) (dl_var 2)) (fun h => dw_ret (x := .list [.str t]) (dx_lst (da_one (dx_var 1))) ?_) (fun h => ?_)
  · show Sl.d _ = Sl.d _
    unfold ltells
    rw [if_pos (of_decide_eq_true h)]
    rfl
  · have hm := of_decide_eq_false h
    refine dw_setLc (i := 3) (own := [("name", 5)]) (xs := tX (os.map nm)) (g := tg1 5) (fun x => match x with | .str n => decide (pref n (t.length : Int) = t) | _ => false) (fun x => x) rfl sc_law_tells.nd (dig_own (dlt_var 2)) (blkOk_by (N := N_law_tells) (sc := defScope s_law_tells) (by decide +kernel)) (by rw [List.length_map, List.length_map]; omega) (fun s H C cl fp => dtg1 5 sc_law_tells.nd) (fun x hx => ⟨_, rfl⟩) (fun s H C cl fp x ds1 hx e => ?_) (fun s H C cl fp x ds1 hx _ e => ?_) ?_
    · cases e
      obtain ⟨n, hn, rfl⟩ := List.mem_map.mp hx
      obtain ⟨o, ho, rfl⟩ := List.mem_map.mp hn
      have h1 := opt_len (hop o ho)
      exact pts_one (dt_cmp op_eq (dx_cutS (dx_var 5) pt_no (pt_at (dx_lenS m.len (dx_var 1) (by omega))) (by omega)) (dx_var 1) op2_eqS)
    · cases e
      exact dx_var 5
    · have e1 : ((tX (os.map nm)).filter fun x => match x with | .str n => decide (pref n (t.length : Int) = t) | _ => false) = tX (hits os t) := by
        show List.filter _ (List.map _ _) = List.map _ (List.filter _ _)
        rw [List.filter_map]
        rfl
      rw [List.map_id', e1]
      refine dw_freeze 3 rfl ?_
      have hh : (hits os t).length ≤ 24 := by unfold hits; exact Nat.le_trans (List.length_filter_le _ _) (by rw [List.length_map]; exact hol)
      refine dw_ret (x := .list (tX (ltells os b0 t))) (dx_if (k := b0 && (!decide (t = "") && decide (((hits os t).length : Int) = 1))) (dw_pt (dw_and (dt_val (dx_ixT (dx_ixT (dx_var 0) dx_int rfl) dx_int rfl)) fun _ => dw_and (dt_cmp op_ne (dx_var 1) dx_str op2_neS) fun _ => dw_and1 (dt_is (dt_cmp op_eq (dx_len m.len (dl_of (dx_var 3))) dx_int op2_eqI) (by rw [List.length_map])))) (fun h => ?_) (fun h => ?_)) rfl
      · have e2 : ltells os b0 t = hits os t := by unfold ltells; rw [if_neg hm, if_pos h]
        rw [e2]
        exact dx_var 3
      · have e2 : ltells os b0 t = [] := by unfold ltells; rw [if_neg hm, if_neg (by rw [h]; decide)]
        rw [e2]
        exact dx_lst da_nil
/-! ### _law_takes, _law_numbers_right -/
def cnt (k : Str) (ps : List PyData) : Int := (((ars ps).count k : Nat) : Int)
def takes (ps : List PyData) (n : Int) : Bool := decide (0 ≤ n - cnt "one" ps) && (decide (n - cnt "one" ps ≤ cnt "may" ps) || decide (("many" : Str) ∈ ars ps))
def R_law_takes : Rel := fun xs z => ∃ ps n, xs = [.tuple ps, .int n] ∧ (∀ p ∈ ps, isPlace p = true) ∧ ps.length ≤ 5 ∧ z = .bool (takes ps n)
theorem cnt_len (k : Str) (ps : List PyData) : ((((ps.filter fun p => decide (txt 1 p = k)).map fun _ => PyData.int 1).length : Nat) : Int) = cnt k ps := by
  rw [List.length_map]
  unfold cnt ars
  rw [List.count_eq_length_filter, List.filter_map, List.length_map]
  congr 2
theorem b_law_takes (m : Free mg) : BodyOk P w K mg base N_law_takes "_law_takes" s_law_takes 0 R_law_takes := by
  intro f cdv A outer s H E F0 xs z hr hR
  obtain ⟨ps, n, rfl, hpl, hql, rfl⟩ := hR
  have tgo : ∀ {ds : List Sl} (x : PyData), x ∈ ps → ∃ ds1, tg2 4 5 x ds = some ds1 := fun x hx => by
    have e := pla_eq (hpl x hx)
    rw [e]
    exact ⟨_, rfl⟩
  refine dw_set (x := .int (n - cnt "one" ps)) 2 sc_law_takes.nd (dx_sub (dx_var 1) (dx_is (dx_len m.len (dl_ofO (do_lc (own := [("name", 4), ("arity", 5)]) (xs := ps) (g := tg2 4 5) (fun p => decide (txt 1 p = "one")) (fun _ => .int 1) rfl sc_law_takes.nd (dig_of (di_tup (dx_var 0))) (blkOk_by (N := N_law_takes) (sc := defScope s_law_takes) (by decide +kernel)) (by omega) (fun s H C cl fp => dtg2 4 5 rfl sc_law_takes.nd (gn 4 sc_law_takes.nd) (gn 5 sc_law_takes.nd)) (fun x hx => tgo x hx) (fun s H C cl fp x ds1 hx e => ?_) (fun s H C cl fp x ds1 hx _ e => dx_int)))) (by rw [cnt_len]))) ?_
  · have e1 := pla_eq (hpl x hx)
    rw [e1] at e
    cases e
    exact pts_one (dt_cmp op_eq (dx_var 5) dx_str op2_eqS)
  refine dw_set (x := .int (cnt "may" ps)) 3 sc_law_takes.nd (dx_is (dx_len m.len (dl_ofO (do_lc (own := [("name", 4), ("arity", 5)]) (xs := ps) (g := tg2 4 5) (fun p => decide (txt 1 p = "may")) (fun _ => .int 1) rfl sc_law_takes.nd (dig_of (di_tup (dx_var 0))) (blkOk_by (N := N_law_takes) (sc := defScope s_law_takes) (by decide +kernel)) (by omega) (fun s H C cl fp => dtg2 4 5 rfl sc_law_takes.nd (gn 4 sc_law_takes.nd) (gn 5 sc_law_takes.nd)) (fun x hx => tgo x hx) (fun s H C cl fp x ds1 hx e => ?_) (fun s H C cl fp x ds1 hx _ e => dx_int)))) (by rw [cnt_len])) ?_
  · have e1 := pla_eq (hpl x hx)
    rw [e1] at e
    cases e
    exact pts_one (dt_cmp op_eq (dx_var 5) dx_str op2_eqS)
  refine dw_ret (x := .bool (takes ps n)) (dx_and (k := decide (0 ≤ n - cnt "one" ps)) (k' := decide (n - cnt "one" ps ≤ cnt "may" ps) || decide (("many" : Str) ∈ ars ps)) (dx_ge (dx_var 2) dx_int) fun _ => dx_one (dx_or (dx_le (dx_var 2) (dx_var 3)) fun _ => dx_one (dx_in dx_str (dl_ofO (dg_imp (do_lc (own := [("name", 4), ("arity", 5)]) (xs := ps) (g := tg2 4 5) (fun _ => true) (fun p => .str (txt 1 p)) rfl sc_law_takes.nd (dig_of (di_tup (dx_var 0))) (blkOk_by (N := N_law_takes) (sc := defScope s_law_takes) (by decide +kernel)) (by omega) (fun s H C cl fp => dtg2 4 5 rfl sc_law_takes.nd (gn 4 sc_law_takes.nd) (gn 5 sc_law_takes.nd)) (fun x hx => tgo x hx) (fun s H C cl fp x ds1 hx e => pts_no) (fun s H C cl fp x ds1 hx _ e => ?_)) fun _ _ _ _ r => ?_))))) rfl
  · have e1 := pla_eq (hpl x hx)
    rw [e1] at e
    cases e
    exact dx_var 5
  · rw [filter_yes] at r
    have e2 : ps.map (fun p => PyData.str (txt 1 p)) = (ars ps).map PyData.str := by unfold ars; rw [List.map_map]; rfl
    rw [e2] at r
    exact r
def leG (x : PyData) (n : Int) : Bool := match x with
  | .int k => decide (n ≤ k)
  | _ => false
def R_numbers_right : Rel := fun xs z => ∃ g os ps b0 b1 b2, xs = [g] ∧ ok g ∧ KM.fault g = .none ∧ GV g os ps b0 b1 b2 ∧ z = .bool true
theorem b_numbers_right (m : Free mg) (D1 : Def P w K mg base "numbers" 7 ["grammar"] (spE K Cb R_numbers)) (D2 : Def P w K mg base "_law_takes" 1 ["places", "many"] (spD K R_law_takes)) : BodyOk P w K mg base N_law_numbers_right "_law_numbers_right" s_law_numbers_right 7 R_numbers_right := by
  intro f cdv A outer s H E F0 xs z hr hR
  obtain ⟨g, os, ps, b0, b1, b2, rfl, hok, hf, hg, rfl⟩ := hR
  have eg := hg.eq
  have hpl := hg.pl
  have hql := hg.ql
  have hdet : ∀ os' ps' b0' b1' b2', GV g os' ps' b0' b1' b2' → ps' = ps := fun os' ps' b0' b1' b2' h => by
    have e := h.eq
    rw [eg] at e
    cases e
    rfl
  refine dw_set (x := numOf ps) 1 sc_law_numbers_right.nd (dx_ofR (dg_callE (zz := fun r => r = .d (numOf ps)) D1 hr (da_one (dx_var 0)) ⟨g, rfl, hok, fun os' ps' b0' b1' b2' _ h => by rw [hdet _ _ _ _ _ h], fun h => h hf⟩)) ?_
  subst eg
  obtain ⟨gr, hgr⟩ : ∃ gr, gr = (if ("many" : Str) ∈ ars ps then PyData.none else .int (cnt "one" ps + cnt "may" ps)) := ⟨_, rfl⟩
  have en : numOf ps = .tuple [.int (cnt "one" ps), gr] := by rw [hgr]; rfl
  rw [en]
  refine dw_ifR (dt_is (dw_notTup (n := 2) m (dx_var 1) (dx_var 1)) (show notTup 2 _ = false from rfl)) (fun z => nomatch z) (fun _ => ?_)
  refine dw_unp (dx_var 1) (dtg2 3 4 rfl sc_law_numbers_right.nd (gn 3 sc_law_numbers_right.nd) (gn 4 sc_law_numbers_right.nd)) rfl ?_
  have hg2 : gr = .none ∨ ∃ k, gr = .int k := by
    rw [hgr]
    by_cases hm : ("many" : Str) ∈ ars ps
    · rw [if_pos hm]; exact .inl rfl
    · rw [if_neg hm]; exact .inr ⟨_, rfl⟩
  -- what the test says
  have right : ∀ n : Int, takes ps n = (decide (cnt "one" ps ≤ n) && (isNone gr || leG gr n)) := fun n => by
    unfold takes
    by_cases hm : ("many" : Str) ∈ ars ps
    · rw [hgr, if_pos hm, decide_eq_true hm, Bool.or_true]
      show (decide (0 ≤ n - cnt "one" ps) && true) = (decide (cnt "one" ps ≤ n) && true)
      rw [Bool.and_true, Bool.and_true]
      exact decide_eq_decide.mpr (by omega)
    · rw [hgr, if_neg hm, decide_eq_false hm, Bool.or_false]
      show (decide (0 ≤ n - cnt "one" ps) && decide (n - cnt "one" ps ≤ cnt "may" ps)) = (decide (cnt "one" ps ≤ n) && decide (n ≤ cnt "one" ps + cnt "may" ps))
      rw [decide_eq_decide.mpr (show 0 ≤ n - cnt "one" ps ↔ cnt "one" ps ≤ n by omega), decide_eq_decide.mpr (show n - cnt "one" ps ≤ cnt "may" ps ↔ n ≤ cnt "one" ps + cnt "may" ps by omega)]
  refine dw_for (xs := intsD 0 (9 : Int).toNat) (g := tg1 2) PassesOwn.never rfl (di_rng1 m.range dx_int (by decide) (by decide)) (fun _ => dtg1 2 sc_law_numbers_right.nd) (fun _ ds => ∃ u, ds = [.d (.tuple [.tuple os, .tuple ps, .tuple [.bool b0, .bool b1, .bool b2]]), .d (.tuple [.int (cnt "one" ps), gr]), u, .d (.int (cnt "one" ps)), .d gr]) ⟨.u, rfl⟩ (fun i y ds1 hy hI => ?_) (fun ds1 hI => ?_)
  · obtain ⟨u, rfl⟩ := hI
    obtain ⟨_, rfl⟩ := intsD_get hy
    refine ⟨_, rfl, ?_⟩
    refine dw_ifR (k := false) (dt_is (dt_cmp op_ne (dx_call D2 (hr.mono (by decide)) (da_cons (dx_ixT (dx_var 0) dx_int rfl) (da_one (dx_var 2))) ⟨ps, _, rfl, hpl, hql, rfl⟩) (y := .bool (takes ps (0 + (i : Int)))) ?_ op2_neB) (by rw [decide_eq_true rfl] <;> rfl)) (fun z => nomatch z) (fun _ => dw_nil ⟨rfl, _, rfl⟩)
    rcases hg2 with e | ⟨k, e⟩
    · exact dx_is (dx_and (dx_le (dx_var 3) (dx_var 2)) fun _ => dx_one (dx_or (k := true) (k' := false) (dx_is (dx_isN (dx_is (dx_var 4) e)) rfl) fun z => nomatch z)) (by rw [right, e]; rfl)
    · exact dx_is (dx_and (dx_le (dx_var 3) (dx_var 2)) fun _ => dx_one (dx_or (k := false) (k' := decide (0 + (i : Int) ≤ k)) (dx_is (dx_isN (dx_is (dx_var 4) e)) rfl) fun _ => dx_one (dx_le (dx_var 2) (dx_is (dx_var 4) e)))) (by rw [right, e]; rfl)
  · obtain ⟨u, rfl⟩ := hI
    have hb : ∀ k : Str, cnt k ps ≤ 5 := fun k => by
      unfold cnt ars
      have := List.count_le_length (a := k) (l := ps.map (txt 1))
      rw [List.length_map] at this
      omega
    have hb1 := hb "one"
    have hb2 := hb "may"
    refine dw_ret (x := .bool true) (dx_is (dx_eqB (dx_isN (dx_var 4)) (dx_call D2 (hr.mono (by decide)) (da_cons (dx_ixT (dx_var 0) dx_int rfl) (da_one (dx_pow dx_int dx_int ⟨by decide, by decide, by decide⟩))) ⟨ps, _, rfl, hpl, hql, rfl⟩)) ?_) rfl
    congr 1
    refine decide_eq_true ?_
    show isNone gr = takes ps (10 ^ (6 : Nat))
    have e6 : ((10 : Int) ^ (6 : Nat)) = 1000000 := by decide
    rw [e6, right, decide_eq_true (show cnt "one" ps ≤ 1000000 by omega), Bool.true_and]
    rcases hg2 with e | ⟨k, e⟩
    · rw [e]; rfl
    · have hk : k = cnt "one" ps + cnt "may" ps := by
        rw [hgr] at e
        by_cases hm : ("many" : Str) ∈ ars ps
        · rw [if_pos hm] at e; cases e
        · rw [if_neg hm] at e; cases e; rfl
      rw [e]
      show false = (false || decide _)
      rw [decide_eq_false (by omega)]
      rfl
end
end KL
end
section
set_option Elab.async false
set_option linter.all false
set_option maxRecDepth 100000
set_option maxHeartbeats 2000000
namespace KL
open PySem PySem.Spec PyProof.Rows L2 DS KT KM KD
/-- keys laid one behind another -/
def kvB (ks : List Str) : List (Key × V) := ks.map fun k => (Sum.inr k, V.bl true)
def addK (ks : List Str) (k : Str) : List Str := if k ∈ ks then ks else ks ++ [k]
theorem kvB_put (ks : List Str) (k : Str) : putK (kvB ks) (Sum.inr k) (V.bl true) = kvB (addK ks k) := by
  unfold addK
  by_cases c : k ∈ ks
  · rw [if_pos c]
    unfold putK
    have ha : ((kvB ks).any fun kv => decide (kv.1 = Sum.inr k)) = true := List.any_eq_true.mpr ⟨_, List.mem_map.mpr ⟨k, c, rfl⟩, by simp⟩
    rw [ha]
    unfold kvB
    show List.map _ (List.map _ _) = _
    rw [List.map_map]
    refine List.map_congr_left fun x hx => ?_
    show (if (Sum.inr x : Key) = Sum.inr k then _ else _) = _
    by_cases e : x = k
    · subst e; rw [if_pos rfl]
    · rw [if_neg (fun z => e (Sum.inr.inj z))]
  · rw [if_neg c, putK_new]
    · unfold kvB; rw [List.map_append]; rfl
    · unfold valV
      have : (kvB ks).find? (fun kv => decide (kv.1 = Sum.inr k)) = none := by
        rw [List.find?_eq_none]
        intro p hp
        obtain ⟨q, hq, rfl⟩ := List.mem_map.mp hp
        have : q ≠ k := fun e => c (e ▸ hq)
        simpa using this
      rw [this]; rfl
theorem mem_addK {ks : List Str} {k y : Str} : y ∈ addK ks k ↔ y ∈ ks ∨ y = k := by
  unfold addK
  by_cases c : k ∈ ks
  · rw [if_pos c]; exact ⟨.inl, fun h => h.elim id fun e => e ▸ c⟩
  · rw [if_neg c, List.mem_append, List.mem_singleton]
theorem nodup_addK {ks : List Str} {k : Str} (h : ks.Nodup) : (addK ks k).Nodup := by
  unfold addK
  by_cases c : k ∈ ks
  · rw [if_pos c]; exact h
  · rw [if_neg c]
    refine List.nodup_append.mpr ⟨h, (by simp), fun a ha b hb e => ?_⟩
    rw [List.mem_singleton.mp hb] at e
    exact c (e ▸ ha)
theorem len_addK (ks : List Str) (k : Str) : (addK ks k).length ≤ ks.length + 1 := by
  unfold addK
  by_cases c : k ∈ ks
  · rw [if_pos c]; omega
  · rw [if_neg c, List.length_append]; exact Nat.le_refl _
theorem name_strOk {s : Str} (h : isName (.str s) = true) : PyData.strOk s = true := by
  have h1 : isOf (.str s) LETD 2 12 = true := by
    unfold isName at h
    rw [Bool.and_eq_true] at h
    exact h.1
  have h2 : s.cps.toList.all (fun c => decide (c ∈ LETD.cps.toList)) = true := by
    have h3 : ((decide ((2 : Int) ≤ (s.length : Int)) && decide ((s.length : Int) ≤ 12)) && s.cps.toList.all (fun c => decide (c ∈ LETD.cps.toList))) = true := h1
    rw [Bool.and_eq_true] at h3
    exact h3.2
  unfold PyData.strOk
  rw [← Array.all_toList, List.all_eq_true]
  intro c hc
  have h4 := of_decide_eq_true (List.all_eq_true.mp h2 c hc)
  have h5 : LETD.cps.toList.all (fun c => decide (c < 0x110000)) = true := by decide +kernel
  exact List.all_eq_true.mp h5 c h4
theorem ltells_mem {os : List PyData} {b : Bool} {t x : Str} (h : x ∈ ltells os b t) : x ∈ os.map nm := by
  unfold ltells at h
  by_cases c : t ∈ os.map nm
  · rw [if_pos c] at h; rw [List.mem_singleton.mp h]; exact c
  · rw [if_neg c] at h
    split at h
    · unfold hits at h; exact (List.mem_filter.mp h).1
    · cases h
theorem ltells_len {os : List PyData} {b : Bool} {t : Str} (h : os.length ≤ 24) : (ltells os b t).length ≤ 24 := by
  unfold ltells
  split
  · simp
  · split
    · unfold hits
      exact Nat.le_trans (List.length_filter_le _ _) (by rw [List.length_map]; exact h)
    · exact Nat.zero_le _
theorem tx_shaped {l : List Str} (hl : l.length ≤ 100) (h : ∀ x ∈ l, x.length ≤ 100 ∧ PyData.strOk x = true) : SeqAt.shaped (.list (tX l)) = true := by
  refine ok_shaped (n := 1) ?_ (by decide)
  unfold okN
  simp only [Bool.and_eq_true, decide_eq_true_eq, List.all_eq_true]
  refine ⟨by rw [List.length_map]; exact hl, fun y hy => ?_⟩
  obtain ⟨x, hx, rfl⟩ := List.mem_map.mp hy
  obtain ⟨h1, h2⟩ := h x hx
  show (decide _ && _) = true
  rw [h2, decide_eq_true h1]
  rfl
section
variable {P : Program} {w : World} {K : PySem.W.Frag} {mg : Str → Option Value} {base : Heap} {Cb Ck fI : Addr}
def R_law_tellings : Rel := fun xs z => ∃ g os ps b0 b1 b2, xs = [g] ∧ GV g os ps b0 b1 b2 ∧ z = .list (pairD (ltellings os b0))
/-- behind i options, and j beginnings of the next one -/
def Kp (os : List PyData) (i : Nat) (n : Str) (j : Nat) (ks : List Str) : Prop := ks.Nodup ∧ ks.length ≤ 13 * i + j ∧ ∀ y, y ∈ ks ↔ y ∈ pre0 (os.take i) ∨ ∃ k < j, y = pref n (k : Int)
theorem b_law_tellings (m : Free mg) (D : Def P w K mg base "_law_tells" 1 ["grammar", "text"] (spD K R_law_tells)) : BodyOk P w K mg base N_law_tellings "_law_tellings" s_law_tellings 1 R_law_tellings := by
  intro f cdv A outer s H E F0 xs z hr hR
  obtain ⟨g, os, ps, b0, b1, b2, rfl, hg, rfl⟩ := hR
  have eg := hg.eq
  have hop := hg.op
  have hol := hg.ol
  refine dw_setM 1 sc_law_tellings.nd dm_nil ?_
  refine dw_for (xs := os) (g := tg3 2 3 4) PassesOwn.never rfl (di_tup (dx_ixT (dx_is (dx_var 0) eg) dx_int rfl)) (fun _ => dtg3 2 3 4 rfl sc_law_tellings.nd (gn 2 sc_law_tellings.nd) (gn 3 sc_law_tellings.nd) (gn 4 sc_law_tellings.nd))
    (fun i ds => ∃ ks a b c d e, ds = [.d g, .m (kvB ks), a, b, c, d, e] ∧ Kp os i "" 0 ks) ⟨[], .u, .u, .u, .u, .u, rfl, List.nodup_nil, Nat.zero_le _, fun y => by rw [List.take_zero]; simp [pre0]⟩ (fun i o ds1 ho hI => ?_) (fun ds1 hI => ?_)
  · obtain ⟨ks, a, b, c, d, e, rfl, hk1, hk2, hk3⟩ := hI
    have hom := hop o (List.mem_of_getElem? ho)
    have hil : i < os.length := (List.getElem?_eq_some_iff.mp ho).1
    obtain ⟨le, kd, eo⟩ := opt_eq hom
    have hln := opt_len hom
    rw [eo]
    refine ⟨_, rfl, ?_⟩
    have hpre : pre0 (os.take (i + 1)) = pre0 (os.take i) ++ (List.range ((nm o).length + 1)).map fun (k : Nat) => pref (nm o) (k : Int) := by
      unfold pre0
      rw [take_snoc ho, List.flatMap_append]
      simp
    refine dw_for (xs := intsD 0 (((nm o).length : Int) + 1).toNat) (g := tg1 5) PassesOwn.never rfl (di_rng1 m.range (dx_add (dx_lenS m.len (dx_var 2) (by omega)) dx_int) (by omega) (by omega)) (fun _ => dtg1 5 sc_law_tellings.nd)
      (fun j ds => ∃ ks d, ds = [.d g, .m (kvB ks), .d (.str (nm o)), .d (.str le), .d (.str kd), d, e] ∧ Kp os i (nm o) j ks) ⟨ks, d, rfl, hk1, hk2, fun y => by rw [hk3 y]; simp⟩ (fun j y ds2 hy hJ => ?_) (fun ds2 hJ => ?_)
    · obtain ⟨ks, d, rfl, hj1, hj2, hj3⟩ := hJ
      obtain ⟨hjl, rfl⟩ := intsD_get hy
      refine ⟨_, rfl, ?_⟩
      have ej : (0 + (j : Int)) = (j : Int) := by omega
      rw [ej]
      refine dw_dput 1 hr.units (dx_is (dx_cutS (dx_var 2) pt_no (pt_at (dx_var 5)) (by omega)) (show PyData.str (cutS (nm o) none (some (j : Int))) = .str (pref (nm o) (j : Int)) from rfl)) (dv_ofB dx_bl) ?_ (by show (kvB ks).length < 100000; unfold kvB; rw [List.length_map]; omega)
      rw [kvB_put]
      refine dw_nil ⟨rfl, addK ks (pref (nm o) (j : Int)), .d (.int (j : Int)), rfl, nodup_addK hj1, ?_, fun y => ?_⟩
      · have := len_addK ks (pref (nm o) (j : Int))
        omega
      · rw [mem_addK, hj3 y]
        constructor
        · rintro ((h | ⟨k, hk, e⟩) | h)
          · exact .inl h
          · exact .inr ⟨k, by omega, e⟩
          · exact .inr ⟨j, by omega, h⟩
        · rintro (h | ⟨k, hk, e⟩)
          · exact .inl (.inl h)
          · by_cases c : k < j
            · exact .inl (.inr ⟨k, c, e⟩)
            · have : k = j := by omega
              subst this
              exact .inr e
    · obtain ⟨ks, d, rfl, hj1, hj2, hj3⟩ := hJ
      have hn : (((nm o).length : Int) + 1).toNat = (nm o).length + 1 := by omega
      rw [intsD_len, hn] at hj2 hj3
      refine dw_nil ⟨rfl, ks, _, _, _, _, _, rfl, hj1, by omega, fun y => ?_⟩
      rw [hj3 y, hpre, List.mem_append, List.mem_map]
      constructor
      · rintro (h | ⟨k, hk, e⟩)
        · exact .inl (.inl h)
        · exact .inl (.inr ⟨k, List.mem_range.mpr hk, e.symm⟩)
      · rintro ((h | ⟨k, hk, e⟩) | ⟨k, hk, _⟩)
        · exact .inl h
        · exact .inr ⟨k, List.mem_range.mp hk, e.symm⟩
        · omega
  · obtain ⟨ks, a, b, c, d, e, rfl, hk1, hk2, hk3⟩ := hI
    have hks : sortT ks = canon (pre0 os) := canon_of hk1 fun y => by
      rw [hk3 y, List.take_length]
      constructor
      · rintro (h | ⟨k, hk, _⟩)
        · exact h
        · omega
      · exact .inl
    have hcl : (canon (pre0 os)).length ≤ 400 := by
      rw [← hks, (sortT_perm ks).length_eq]
      omega
    have hxl : ∀ t ∈ canon (pre0 os), t.length ≤ 100 := fun t ht => by
      obtain ⟨o, ho, i, hi, e⟩ := mem_pre0.mp (mem_canon.mp ht)
      have h1 := opt_len (hop o ho)
      have h3 := cut_len (nm o) none (some (i : Int))
      have e2 : t.length = (cutS (nm o) none (some (i : Int))).length := by rw [e]; rfl
      omega
    have hsh : ∀ t, SeqAt.shaped (.list (tX (ltells os b0 t))) = true := fun t => tx_shaped (Nat.le_trans (ltells_len hol) (by decide)) fun x hx => by
      obtain ⟨o, ho, rfl⟩ := List.mem_map.mp (ltells_mem hx)
      obtain ⟨a, b, k, rfl, h1, _⟩ := isOption_tup (hop o ho)
      obtain ⟨s, e, _, h3⟩ := isName_str h1
      cases e
      exact ⟨by show a.length ≤ 100; omega, name_strOk h1⟩
    refine dw_ret (x := .list (pairD (ltellings os b0))) (dx_ofO (dg_imp (do_lc (own := [("text", 6)]) (xs := tX (sortT ks)) (g := tg1 6) (fun x => match x with | .str t => !decide (ltells os b0 t = []) | _ => false) (fun x => match x with | .str t => .tuple [.str t, .str ((ltells os b0 t).headD "")] | _ => .none) rfl sc_law_tellings.nd (dig_own (dlt_ofO (do_sortedD (ks := ks) rfl hr.units m.sorted (dmt_var 1) (by unfold kvB; rw [List.map_map]; rfl)))) (blkOk_by (N := N_law_tellings) (sc := defScope s_law_tellings) (by decide +kernel)) (by rw [List.length_map, hks]; omega) (fun s H C cl fp => dtg1 6 sc_law_tellings.nd) (fun x hx => ⟨_, rfl⟩) (fun s H C cl fp x ds1 hx e => ?_) (fun s H C cl fp x ds1 hx hb e => ?_)) fun _ _ _ _ r => ?_)) rfl
    · cases e
      obtain ⟨t, ht, rfl⟩ := List.mem_map.mp hx
      rw [hks] at ht
      refine pts_one (dt_is (dt_cmp (op_neD hr.units) (dx_call D hr (da_cons (dx_var 0) (da_one (dx_var 6))) ⟨g, t, os, ps, b0, b1, b2, rfl, hg, hxl t ht, rfl⟩) (dx_lst da_nil) (op2_ne (hsh t) (by decide +kernel))) ?_)
      rw [eqv_nil]
      show (!decide (tX (ltells os b0 t) = [])) = !decide (ltells os b0 t = [])
      cases ltells os b0 t <;> rfl
    · cases e
      obtain ⟨t, ht, rfl⟩ := List.mem_map.mp hx
      rw [hks] at ht
      have hne : ltells os b0 t ≠ [] := by
        have hb' : (!decide (ltells os b0 t = [])) = true := hb
        simpa using hb'
      refine dx_tup (da_cons (dx_var 6) (da_one (dx_ixF (dx_call D hr (da_cons (dx_var 0) (da_one (dx_var 6))) ⟨g, t, os, ps, b0, b1, b2, rfl, hg, hxl t ht, rfl⟩) dx_int ?_))) (by show 2 ≤ 100000; decide)
      cases hlt : ltells os b0 t with
      | nil => exact absurd hlt hne
      | cons x r => exact at0
    · have e1 : ((tX (sortT ks)).filter (fun x => match x with | .str t => !decide (ltells os b0 t = []) | _ => false)).map (fun x => match x with | .str t => PyData.tuple [.str t, .str ((ltells os b0 t).headD "")] | _ => .none) = pairD (ltellings os b0) := by
        rw [hks]
        unfold DS.pairD ltellings
        rw [List.map_map]
        show List.map _ (List.filter _ (List.map _ _)) = _
        rw [List.filter_map, List.map_map]
        rfl
      rw [e1] at r
      exact r
end
end KL
end
section
set_option Elab.async false
set_option linter.all false
set_option maxRecDepth 100000
set_option maxHeartbeats 2000000
namespace DS
open PySem PySem.Spec PyProof.Rows L2 LamX
open Evl (Ex ex_l ex_t ex_rd)
/-! ### the state of the draws -/
def stK (cs ls : Addr) (at_ : Int) : List (Key × V) := [(Sum.inr "cells", .ref cs), (Sum.inr "lefts", .ref ls), (Sum.inr "at", .int at_), (Sum.inr "room", .int 0)]
/-- where the state lies: the dict, its two lists (of L items), the tables of code -/
structure Pl where
  st : Addr
  cs : Addr
  ls : Addr
  L : Nat
  T : List (Addr × Str)
  ne : cs ≠ ls
  pos : 0 < L
def StJ (p : Pl) (n : Nat) (H : Hp) : Prop := ∃ (cells lefts : List Int) (at_ : Int), H p.st = some (.dK (stK p.cs p.ls at_)) ∧ H p.cs = some (.lst (cells.map V.int)) ∧ H p.ls = some (.lst (lefts.map V.int)) ∧ cells.length = p.L ∧ lefts.length = p.L ∧ 0 ≤ at_ ∧ at_ ≤ (n : Int) ∧ Tabs p.T H
def Pl.S (p : Pl) (a : Addr) : Prop := a = p.st ∨ a = p.cs ∨ a = p.ls ∨ ∃ q ∈ p.T, q.1 = a
theorem StJ.stay {p : Pl} {n : Nat} {H H' : Hp} (h : StJ p n H) (k : ∀ a o, (p.S a ∨ IsX o) → H a = some o → H' a = some o) : StJ p n H' := by
  obtain ⟨cells, lefts, at_, h1, h2, h3, l1, l2, a1, a2, t⟩ := h
  refine ⟨cells, lefts, at_, k _ _ (.inl (.inl rfl)) h1, k _ _ (.inl (.inr (.inl rfl))) h2, k _ _ (.inl (.inr (.inr (.inl rfl)))) h3, l1, l2, a1, a2, fun q hq => ?_⟩
  obtain ⟨ps, e1, e2, e3⟩ := t q hq
  refine ⟨ps, k _ _ (.inl (.inr (.inr (.inr ⟨q, hq, rfl⟩)))) e1, e2, fun pos cv hc => ?_⟩
  obtain ⟨c, r1, r2⟩ := e3 pos cv hc
  exact ⟨c, r1, k _ _ (.inr ⟨_, rfl⟩) r2⟩
theorem StJ.mono {p : Pl} {n m : Nat} {H : Hp} (h : StJ p n H) (hn : n ≤ m) : StJ p m H := by
  obtain ⟨cells, lefts, at_, h1, h2, h3, l1, l2, a1, a2, t⟩ := h
  exact ⟨cells, lefts, at_, h1, h2, h3, l1, l2, a1, by omega, t⟩
/-- the state's own: W what the body has laid itself -/
def OS (p : Pl) (W : Addr → Prop) (n : Nat) : Own := ⟨p.S, StJ p n, W, fun h k => h.stay k, fun {H a} h s => by
  obtain ⟨cells, lefts, at_, h1, h2, h3, l1, l2, a1, a2, t⟩ := h
  rcases s with rfl | rfl | rfl | ⟨q, hq, rfl⟩
  · rw [h1]; exact fun z => nomatch z
  · rw [h2]; exact fun z => nomatch z
  · rw [h3]; exact fun z => nomatch z
  · obtain ⟨ps, e1, _⟩ := t q hq
    rw [e1]; exact fun z => nomatch z⟩
theorem os_sm (p : Pl) (W : Addr → Prop) (n m : Nat) : Sm (OS p W n) (OS p W m) := ⟨rfl, rfl⟩

/-! ### two promises: rules -/
section
variable {X : Cx} {O O1 O2 O3 : Own} {ds : List Sl} {e a b c tg : Expr} {es : List Expr} {x y z : PyData} {xs ys : List PyData} {R R' : Rs} {pos p p1 p2 p3 apos : Pos} {M : Frm} {C : Cn} {rest body els : List Stmt} {nm : Str}
abbrev DHP (X : Cx) (O O' : Own) (ds : List Sl) (e : Expr) (P : PyData → Prop) : Prop := DH X O O' ds e (rP X.K P)
theorem dh_of (h : DG X O ds e R) : DH X O O ds e R := h
theorem dh_imp (h : DH X O O1 ds e R) (i : ∀ H F' H' v, R H F' H' v → R' H F' H' v) : DH X O O1 ds e R' := pe_mono h fun σ H Q ⟨F, st, q⟩ => ⟨F, st, fun v F' H' g j r => q v F' H' g j (i _ _ _ _ r)⟩
theorem dh_post (h : DH X O O1 ds e R) (k : ∀ H, O1.J H → O2.J H) : DH X O O2 ds e R := pe_mono h fun σ H Q ⟨F, st, q⟩ => ⟨F, st, fun v F' H' g j r => q v F' H' g (k _ j) r⟩
theorem dhp_of (h : DX X O ds e x) : DHP X O O ds e (fun y => y = x) := dp_of h rfl
theorem dhp_imp {P P' : PyData → Prop} (h : DHP X O O1 ds e P) (i : ∀ x, P x → P' x) : DHP X O O1 ds e P' := dh_imp h fun _ _ _ _ ⟨x, d, p⟩ => ⟨x, d, i x p⟩
theorem dh_op {P Q S : PyData → Prop} {op : Operator} {r : R2} (sm : Sm O O1) (ho : OpR X (binaryOp op) r) (ha : DHP X O O1 ds a P) (hb : DHP X O1 O2 ds b Q) (hr : ∀ x y, P x → Q y → ∃ z, S z ∧ Op2 X.K r x y z) (j2 : ∀ {F H F' H'}, Grow Own.no F H F' H' → O2.J H → O2.J H' := by intro F H F' H' g j; exact g.j j) : DHP X O O2 ds (.BinOp a op b pos) S :=
  pe_mono (pe_op ho ha hb) fun σ H Q' ⟨F, st, q⟩ => ⟨F, st, fun v F1 H1 g1 j1 ⟨x, d1, px⟩ => ⟨F1, st.growH sm g1 j1, fun w F2 H2 g2 j2' ⟨y, d2, py⟩ => by
    obtain ⟨z, sz, hz⟩ := hr x y px py
    exact hz F2 H2 v w Q' g2.s (d1.up g2.f) d2 fun u F3 H3 g3 d3 => q u F3 H3 ((g1.trans (Grow.sm sm g2)).trans g3.lift) (j2 g3 j2') ⟨z, d3, sz⟩⟩⟩
theorem dh_ix {P Q S : PyData → Prop} {r : R2} (sm : Sm O O1) (ho : IxR X r) (ha : DHP X O O1 ds a P) (hb : DHP X O1 O2 ds b Q) (hr : ∀ x y, P x → Q y → ∃ z, S z ∧ Op2 X.K r x y z) (hs : PlainIx b := by intro _ _; rfl) : DHP X O O2 ds (.Subscript a b pos) S :=
  pe_mono (pe_ix ho ha hb hs) fun σ H Q' ⟨F, st, q⟩ => ⟨F, st, fun v F1 H1 g1 j1 ⟨x, d1, px⟩ => ⟨F1, st.growH sm g1 j1, fun w F2 H2 g2 j2' ⟨y, d2, py⟩ => by
    obtain ⟨z, sz, hz⟩ := hr x y px py
    exact hz F2 H2 v w Q' g2.s (d1.up g2.f) d2 fun u F3 H3 g3 d3 => q u F3 H3 ((g1.trans (Grow.sm sm g2)).trans g3.lift) (g3.j j2') ⟨z, d3, sz⟩⟩⟩
theorem dh_cmp {P Q S : PyData → Prop} {op : CmpOp} {r : R2} (sm : Sm O O1) (ho : OpR X (compareOp op) r) (ha : DHP X O O1 ds a P) (hb : DHP X O1 O2 ds b Q) (hr : ∀ x y, P x → Q y → ∃ z, S z ∧ Op2 X.K r x y z) (hm : behindInMarks op b = false := by first | rfl | exact nomark _) : DHP X O O2 ds (.Compare a [op] [b] pos) S :=
  pe_mono (pe_cmpR ho ha hb hm) fun σ H Q' ⟨F, st, q⟩ => ⟨F, st, fun v F1 H1 g1 j1 ⟨x, d1, px⟩ => ⟨F1, st.growH sm g1 j1, fun w F2 H2 g2 j2' ⟨y, d2, py⟩ => by
    obtain ⟨z, sz, hz⟩ := hr x y px py
    exact hz F2 H2 v w Q' g2.s (d1.up g2.f) d2 fun u F3 H3 g3 d3 => q u F3 H3 ((g1.trans (Grow.sm sm g2)).trans g3.lift) (g3.j j2') ⟨z, d3, sz⟩⟩⟩
/-- a test that draws: some truth -/
def tTH (K : PySem.W.Frag) (O O' : Own) (ds : List Sl) : TT := fun σ H Q => ∃ F, StOk K O F σ H ds ∧ ∀ b F' H', Grow O F H F' H' → O'.J H' → Q b H'
abbrev DTH (X : Cx) (O O' : Own) (ds : List Sl) (e : Expr) : Prop := PT X e (tTH X.K O O' ds)
theorem dth_cmp {P Q : PyData → Prop} {op : CmpOp} {r : R2} (sm : Sm O O1) (ho : OpR X (compareOp op) r) (ha : DHP X O O1 ds a P) (hb : DHP X O1 O2 ds b Q) (hr : ∀ x y, P x → Q y → ∃ k, Op2 X.K r x y (.bool k)) (hm : behindInMarks op b = false := by first | rfl | exact nomark _) : DTH X O O2 ds (.Compare a [op] [b] pos) :=
  pt_mono (pt_cmpR ho ha hb hm) fun σ H Q' ⟨F, st, q⟩ => ⟨F, st, fun v F1 H1 g1 j1 ⟨x, d1, px⟩ => ⟨F1, st.growH sm g1 j1, fun w F2 H2 g2 j2' ⟨y, d2, py⟩ => by
    obtain ⟨k, hz⟩ := hr x y px py
    exact hz F2 H2 v w _ g2.s (d1.up g2.f) d2 fun u F3 H3 g3 d3 => ⟨k, Dp.bool_eq d3, q k F3 H3 ((g1.trans (Grow.sm sm g2)).trans g3.lift) (g3.j j2')⟩⟩⟩
theorem dw_ifH {O' : Own} (sm : Sm M.O O') (hc : DTH X M.O O' ds c) (h1 : DW X (M.wi O' sm) ds body { C with nx := Th X M rest C }) (h2 : DW X (M.wi O' sm) ds els { C with nx := Th X M rest C }) : DW X M ds (.If c body els pos :: rest) C := by
  refine dw_seqH (N := Th X M rest C) ?_ fun O' ds' m ⟨_, h⟩ => h
  refine ps_mono (ps_if hc h1 h2) fun D σ H ⟨F, a, q⟩ => ⟨F, a.st, fun b F' H' g j => ?_⟩
  have t : tW X.K (M.wi O' sm) ds { C with nx := Th X M rest C } D σ H' := tW.wi (C := { C with nx := Th X M rest C }) (q1 := q.1) (a.growH sm g j) g.f q.2.1 q.2.2.1 q.2.2.2
  cases b with
  | true => exact iteT t
  | false => exact iteF t
theorem dw_setH {O' : Own} {zz : Sl → Prop} {nm : Str} {pos' : Pos} (i : Nat) (sm : Sm M.O O') (hN : X.N.Nodup) (he : DH X M.O O' ds e (rR X.K zz)) (h : ∀ r, zz r → DW X (M.wi O' sm) (ds.set i r) rest C) (hi : X.N[i]? = some nm := by rfl) (hx : Loc X.env.scope nm := by first | exact .inl rfl | exact .inr rfl) (hs : swapsWith e (some (.Name nm pos')) pos.line X.env = pure false := by rfl) (hf : X.fn nm = true ∨ X.env.scope.names.lookup nm = some .local := by first | exact .inl rfl | exact .inr rfl) :
    DW X M ds (.Assign [.Name nm pos'] e pos :: rest) C := by
  refine dw_seqH (N := fun O2 ds' => O2 = O' ∧ ∃ r, zz r ∧ ds' = ds.set i r) ?_ fun O2 ds' m ⟨e1, r, hr, e2⟩ => by subst e1 e2; exact h r hr
  refine ps_mono (ps_set hN hi hx he hs hf) fun D σ H ⟨F, a, q1, _⟩ => ⟨F, a.st, fun v F' H' g j ⟨r, hr, o⟩ => ?_⟩
  refine q1 _ H' F' _ O' sm g.f ?_ ⟨rfl, r, hr, rfl⟩
  have a1 : At X.K (M.wi O' sm) F' σ H' ds := a.growH sm g j
  cases r with
  | u => exact a1.setU
  | d x => exact a1.setD o
  | v x =>
    have : v = x := o
    subst this
    exact a1.setV
  | l xs =>
    obtain ⟨p, vs, rfl, h1, h2, h3, h4⟩ := o
    have nS : ¬ (M.wi O' sm).O.S p := fun s => M.O.dom a.st.j (by rw [← sm.s]; exact s) h1
    refine ⟨a1.st.setO (s := .l xs) ⟨p, vs, rfl, h2, nS, h3, h4, by show O'.W p; rw [sm.w]; exact (M.w p).mpr (a.g.free h1)⟩ fun k t e1 e2 e3 => (a.st.ownAt e1 e2 e3).1 h1, a1.g⟩
  | m kvs =>
    obtain ⟨p, rfl, h1, h2, h3⟩ := o
    have nS : ¬ (M.wi O' sm).O.S p := fun s => M.O.dom a.st.j (by rw [← sm.s]; exact s) h1
    refine ⟨a1.st.setO (s := .m kvs) ⟨p, rfl, h2, nS, h3, by show O'.W p; rw [sm.w]; exact (M.w p).mpr (a.g.free h1)⟩ fun k t e1 e2 e3 => (a.st.ownAt e1 e2 e3).1 h1, a1.g⟩
theorem dr_ofP {P : PyData → Prop} (h : DHP X O O1 ds e P) : DH X O O1 ds e (rR X.K (fun r => ∃ x, r = .d x ∧ P x)) := dh_imp h fun _ _ _ _ ⟨x, d, p⟩ => ⟨.d x, ⟨x, rfl, p⟩, d⟩
theorem dw_setHP {O' : Own} {P : PyData → Prop} {nm : Str} {pos' : Pos} (i : Nat) (sm : Sm M.O O') (hN : X.N.Nodup) (he : DHP X M.O O' ds e P) (h : ∀ x, P x → DW X (M.wi O' sm) (ds.set i (.d x)) rest C) (hi : X.N[i]? = some nm := by rfl) (hx : Loc X.env.scope nm := by first | exact .inl rfl | exact .inr rfl) (hs : swapsWith e (some (.Name nm pos')) pos.line X.env = pure false := by rfl) (hf : X.fn nm = true ∨ X.env.scope.names.lookup nm = some .local := by first | exact .inl rfl | exact .inr rfl) :
    DW X M ds (.Assign [.Name nm pos'] e pos :: rest) C := dw_setH i sm hN (dr_ofP he) (fun r ⟨x, e, p⟩ => e ▸ h x p) hi hx hs hf
theorem dw_retH {O' : Own} {zz : Sl → Prop} (sm : Sm M.O O') (he : DH X M.O O' ds e (rR X.K zz)) (h : ∀ r, zz r → C.rt O' r) : DW X M ds [.Return (some e) pos] C :=
  pss_one (ps_mono (ps_ret he) fun D σ H ⟨F, a, _, q, _⟩ => ⟨F, a.st, fun v F' H' g j ⟨r, hz, o⟩ => by
    refine q v r F' H' O' sm (a.g.trans g) j ?_ (h r hz)
    cases r with
    | u => exact o
    | d x => exact o
    | v x => exact o
    | l xs => obtain ⟨p, vs, h1, h2, h3⟩ := o; exact ⟨p, vs, h1, a.g.free h2, h3⟩
    | m kvs => obtain ⟨p, h1, h2, h3⟩ := o; exact ⟨p, h1, a.g.free h2, h3⟩⟩)
theorem dw_retHP {O' : Own} {P : PyData → Prop} (sm : Sm M.O O') (he : DHP X M.O O' ds e P) (h : ∀ x, P x → C.rt O' (.d x)) : DW X M ds [.Return (some e) pos] C := dw_retH sm (dr_ofP he) fun r ⟨x, e, p⟩ => e ▸ h x p
/-- the promise is widened -/
theorem dw_wide {O' : Own} {sts : List Stmt} (sm : Sm M.O O') (k : ∀ H, M.O.J H → O'.J H) (h : DW X (M.wi O' sm) ds sts C) : DW X M ds sts C :=
  pss_mono h fun D σ H ⟨F, a, q1, q2, q3, q4⟩ => tW.wi (q1 := q1) (a.sm sm (k H a.st.j)) (Ex.refl F) q2 q3 q4
/-! arguments -/
def tAH (K : PySem.W.Frag) (O O' : Own) (ds : List Sl) (P : List PyData → Prop) : TA := fun σ H Q => ∃ F, StOk K O F σ H ds ∧ ∀ vs F' H' xs, P xs → Grow O F H F' H' → O'.J H' → DpAll K F' vs xs → Q vs H'
abbrev DAH (X : Cx) (O O' : Own) (ds : List Sl) (es : List Expr) (P : List PyData → Prop) : Prop := PA X es (tAH X.K O O' ds P)
theorem dah_nil : DAH X O O ds [] (fun l => l = []) := pa_mono pa_nil fun σ H Q ⟨F, st, q⟩ => q [] F H [] rfl (Grow.refl st.ex) st.j .nil
theorem dah_cons {P : PyData → Prop} {Ps S : List PyData → Prop} (sm : Sm O O1) (ha : DHP X O O1 ds e P) (hr : DAH X O1 O2 ds es Ps) (hS : ∀ x xs, P x → Ps xs → S (x :: xs)) (hs : starEach (e :: es) X.env = (false, eval e X.env) :: starEach es X.env := by rfl) : DAH X O O2 ds (e :: es) S :=
  pa_mono (pa_cons ha hr hs) fun σ H Q ⟨F, st, q⟩ => ⟨F, st, fun v F1 H1 g1 j1 ⟨x, d1, px⟩ => ⟨F1, st.growH sm g1 j1, fun vs F2 H2 xs pxs g2 j2 d2 => q _ F2 H2 (x :: xs) (hS x xs px pxs) (g1.trans (Grow.sm sm g2)) j2 (.cons (d1.up g2.f) d2)⟩⟩
theorem dah_of (h : DA X O ds es xs) : DAH X O O ds es (fun l => l = xs) := pa_mono h fun σ H Q ⟨F, st, q⟩ => ⟨F, st, fun vs F' H' g j d => q vs F' H' xs rfl g j d⟩
theorem dh_tup {Ps : List PyData → Prop} {k : Nat} (h : DAH X O O1 ds es Ps) (sm : Sm O O1) (hl : ∀ xs, Ps xs → xs.length ≤ 100000) : DHP X O O1 ds (.Tuple es k pos) (fun x => ∃ xs, x = .tuple xs ∧ Ps xs) :=
  pe_mono (pe_tup h) fun σ H Q ⟨F, st, q⟩ => ⟨F, st, fun vs F1 H1 xs pxs g1 j1 d1 => ⟨Evl.sz_of (by rw [d1.len]; exact hl xs pxs), fun p hp => by
    have g2 := Grow.new (O := O) (o := .tup vs) g1.s hp
    exact q _ _ _ (g1.trans g2) (own_new j1 hp) ⟨_, .tup (SqT.of upd_same) (d1.up g2.f), xs, rfl, pxs⟩⟩⟩
end
end DS
end
section
set_option Elab.async false
set_option linter.all false
set_option maxRecDepth 100000
set_option maxHeartbeats 2000000
namespace DS
open PySem PySem.Spec PyProof.Rows L2 LamX
open Evl (Ex ex_l ex_t ex_rd)
abbrev RelS := Pl → List PyData → Nat → (Sl → Prop) → Prop
/-- more than all draws together -/
def NMX : Nat := 1000000
def spS (K : PySem.W.Frag) (b : Bool) (Rl : RelS) : Sp := fun vs H Q _ => ∃ F p n us xs c z, vs = (if b = true then V.ref p.st :: us else us) ∧ Ex F H ∧ (∀ a, p.S a → F a = none) ∧ StJ p n H ∧ DpAll K F us xs ∧ Rl p xs c z ∧ n + c ≤ NMX ∧
  ∀ v r F' H', Grow (OS p (fun _ => True) n) F H F' H' → StJ p (n + c) H' → RtOk K (Bm F H) F' H' v r → z r → Q v H'
/-- a body with a state -/
def Sm0 (p : Pl) (n : Nat) (F0 H : Hp) : Frm := ⟨OS p (fun q => H q = none) n, F0, H, fun _ => Iff.rfl⟩
def startS (N : List Str) (b : Bool) (p : Pl) (xs : List PyData) : List Sl := if b = true then .v (.ref p.st) :: startD N.tail xs else startD N xs
/-- wanted: one of z, m draws at most -/
def CzS (p : Pl) (W : Addr → Prop) (m : Nat) (z : Sl → Prop) : Cn := { nx := fun O' _ => (∃ k ≤ m, O' = OS p W k) ∧ z (.d .none), rt := fun O' r => (∃ k ≤ m, O' = OS p W k) ∧ z r }
def BodyOkS (P : Program) (w : World) (K : PySem.W.Frag) (mg : Str → Option Value) (base : Heap) (N : List Str) (nm : Str) (st : Stmt) (b : Bool) (k : Nat) (Rl : RelS) : Prop :=
  ∀ (f : Addr) (cdv : Value) (A : Around) (outer : List Env) (s : Shared) (H : Hp) (E : XK) (F0 : Hp) (p : Pl) (n : Nat) (xs : List PyData) (c : Nat) (z : Sl → Prop), Room k (A.deeper (envOfC nm (defScope st) s.heap.objs.size f cdv)) → Rl p xs c z → n + c ≤ NMX →
    DW (Bx P w K mg base N nm (defScope st) f cdv A outer s H E) (Sm0 p n F0 H) (startS N b p xs) (defBody st) (CzS p (fun q => H q = none) (n + c) z)
theorem start_okS {K : PySem.W.Frag} {p : Pl} {n : Nat} {W : Addr → Prop} {F H : Hp} {N : List Str} {b : Bool} {us : List V} {xs : List PyData} (ex : Ex F H) (sf : ∀ a, p.S a → F a = none) (j : StJ p n H) (d : DpAll K F us xs) (hN : N ≠ []) :
    StOk K (OS p W n) F (L2.start N (if b = true then V.ref p.st :: us else us)) H (startS N b p xs) := by
  cases b with
  | false => exact start_ok ex sf j d
  | true =>
    cases N with
    | nil => exact absurd rfl hN
    | cons x N =>
      have h0 : StOk K (OS p W n) F (L2.start N us) H (startD N xs) := start_ok ex sf j d
      have e : L2.start (x :: N) (V.ref p.st :: us) = some (.ref p.st) :: L2.start N us := by
        unfold L2.start
        rw [List.map_cons, List.length_cons, List.length_cons, Nat.add_sub_add_right]
        rfl
      show StOk K (OS p W n) F (L2.start (x :: N) (V.ref p.st :: us)) H (.v (.ref p.st) :: startD N xs)
      rw [e]
      refine ⟨ex, sf, j, by rw [List.length_cons, List.length_cons, h0.len], fun i s o e1 e2 => ?_, fun i k s t q hik e1 o1 e2 o2 e3 e4 => ?_⟩
      · cases i with
        | zero => cases e1; cases e2; rfl
        | succ i => exact h0.sl i s o (by simpa using e1) (by simpa using e2)
      · cases i with
        | zero => cases e1; cases o1
        | succ i =>
          cases k with
          | zero => cases e2; cases o2
          | succ k => exact h0.sep i k s t q (fun z => hik (by rw [z])) (by simpa using e1) o1 (by simpa using e2) o2 (by simpa using e3) (by simpa using e4)
theorem grow_os {p : Pl} {W W' : Addr → Prop} {n m : Nat} {F H F' H' : Hp} (g : Grow (OS p W n) F H F' H') : Grow (OS p W' m) F H F' H' := ⟨g.f, g.h, g.s, g.n, g.t⟩
theorem def_mkS {P : Program} {w : World} {K : PySem.W.Frag} {mg : Str → Option Value} {base : Heap} {N : List Str} {nm : Str} {st : Stmt} {b : Bool} {k : Nat} {Rl : RelS} {f : Addr} {fd : FuncData} {ps : List Str} (F : Fun K nm nm st f fd) (hm : mg nm = some (.ref f)) (hb : Binds K fd ps []) (S : FnScope N ps (defScope st)) (hN : N ≠ [])
    (hl : ∀ p xs c z, Rl p xs c z → xs.length + (if b = true then 1 else 0) = ps.length) (body : BodyOkS P w K mg base N nm st b k Rl) : Def P w K mg base nm (k + 1) ps (spS K b Rl) := by
  refine ⟨f, fd, F.okX S (fun vs H Q E h => ?_) (fun cdv A outer s H vs Q E hr h => ?_), hm, F.kp, hb⟩
  · obtain ⟨F0, p, n, us, xs, c, z, rfl, _, _, _, d, r, _⟩ := h
    rw [← hl p xs c z r, ← d.len]
    cases b <;> rfl
  · obtain ⟨F0, p, n, us, xs, c, z, rfl, ex, sf, j, d, r, hn, q⟩ := h
    refine ⟨_, PSs.nox (body f cdv A outer s H E F0 p n xs c z hr r hn), F0, ⟨start_okS ex sf j d hN, Grow.refl ex⟩, fun σ' H' F' ds' O' m _ a ⟨⟨k, hk, e⟩, hz⟩ => ?_, fun v r' F' H' O' m g j' o ⟨⟨k, hk, e⟩, hr'⟩ => ?_, fun _ _ _ _ _ _ _ _ z => z.elim, fun _ _ _ _ _ _ _ _ z => z.elim⟩
    · subst e
      exact q .non (.d .none) F' H' (grow_os a.g) (StJ.mono a.st.j hk) rt_none hz
    · subst e
      exact q v r' F' H' (grow_os g) (StJ.mono j' hk) (rt_wi rfl o) hr'
section
variable {X : Cx} {ds : List Sl} {e : Expr} {es : List Expr} {pos p1 pc : Pos} {nm sn : Str} {k n n1 c : Nat} {ps : List Str} {Rl : RelS} {p : Pl} {W : Addr → Prop}
theorem rt_up {K : PySem.W.Frag} {H H1 F2 H2 : Hp} {v : V} {r : Sl} {F1 : Hp} (hf : ∀ q, H1 q = none → H q = none) (o : RtOk K (Bm F1 H1) F2 H2 v r) : RtOk K (Bm H H) F2 H2 v r := by
  cases r with
  | u => exact o
  | d x => exact o
  | v x => exact o
  | l xs => obtain ⟨p, vs, h1, h2, h3⟩ := o; exact ⟨p, vs, h1, hf _ h2, h3⟩
  | m kvs => obtain ⟨p, h1, h2, h3⟩ := o; exact ⟨p, h1, hf _ h2, h3⟩
/-- f(state, ..) -/
theorem dh_callS {zz : Sl → Prop} {Ps : List PyData → Prop} (i : Nat) (D : Def X.prog X.w X.K X.mg X.base nm k ps (spS X.K true Rl)) (hr : Room k X.A) (ha : DAH X (OS p W n) (OS p W n1) ds es Ps) (hR : ∀ xs, Ps xs → Rl p xs c zz) (hn : n1 + c ≤ NMX) (hd : ds[i]? = some (.v (.ref p.st)) := by rfl) (hN : X.N[i]? = some sn := by rfl)
    (hv : Vis X.env.scope sn := by first | exact Or.inl rfl | exact Or.inr (Or.inl rfl) | exact Or.inr (Or.inr rfl)) (h1 : (sn == ("__debug__" : Str)) = false := by decide) (h2 : (sn == ("__classdict__" : Str)) = false := by decide) (hg : Gl X nm := by rfl) (hdb : (nm == ("__debug__" : Str)) = false := by decide)
    (he : starEach (.Name sn p1 :: es) X.env = (false, eval (.Name sn p1) X.env) :: starEach es X.env := by rfl) (hpl : (backTo pos (starEach es X.env)).any (·.1) = false := by rfl) : DH X (OS p W n) (OS p W (n1 + c)) ds (.Call (.Name nm pc) (.Name sn p1 :: es) [] pos) (rR X.K zz) := by
  obtain ⟨f, fd, G, hm, hk, hb⟩ := D.ex
  refine pe_mono (pe_call G hr hg hm hk hb .nil passL (pa_cons (pe_var (i := i) hN hv h1 h2) ha he) hdb he hpl) fun σ H Q ⟨F, st, q⟩ => ⟨.ref p.st, st.val hd, F, st, fun vs F1 H1 xs pxs g1 j1 d1 => ?_⟩
  have g1' : Grow (OS p W n) F H F1 H1 := g1
  refine ⟨F1, p, n1, vs, xs, c, zz, by rw [if_pos rfl, List.append_nil], g1.s, fun a s => ?_, j1, d1, hR xs pxs, hn, fun v r F2 H2 g2 j2 o hz => q v F2 H2 (g1.trans (grow_os g2)) j2 ⟨r, hz, rt_up (fun _ => g1.free) o⟩⟩
  cases e : F1 a with
  | none => rfl
  | some u => exact absurd (g1.n a (st.sf a s) (by rw [e]; exact fun z => nomatch z)) ((OS p W n).dom st.j s)
/-- f(..) of data, where a state stands around -/
theorem dh_callS0 {zz : Sl → Prop} {Ps : List PyData → Prop} (D : Def X.prog X.w X.K X.mg X.base nm k ps (spS X.K false Rl)) (hr : Room k X.A) (ha : DAH X (OS p W n) (OS p W n1) ds (e :: es) Ps) (hR : ∀ xs, Ps xs → Rl p xs c zz) (hn : n1 + c ≤ NMX) (hg : Gl X nm := by rfl) (hdb : (nm == ("__debug__" : Str)) = false := by decide)
    (he : starEach (e :: es) X.env = (false, eval e X.env) :: starEach es X.env := by rfl) (hpl : (backTo pos (starEach es X.env)).any (·.1) = false := by rfl) : DH X (OS p W n) (OS p W (n1 + c)) ds (.Call (.Name nm pc) (e :: es) [] pos) (rR X.K zz) := by
  obtain ⟨f, fd, G, hm, hk, hb⟩ := D.ex
  refine pe_mono (pe_call G hr hg hm hk hb .nil passL ha hdb he hpl) fun σ H Q ⟨F, st, q⟩ => ⟨F, st, fun vs F1 H1 xs pxs g1 j1 d1 => ?_⟩
  refine ⟨F1, p, n1, vs, xs, c, zz, by rw [if_neg Bool.false_ne_true, List.append_nil], g1.s, fun a s => ?_, j1, d1, hR xs pxs, hn, fun v r F2 H2 g2 j2 o hz => q v F2 H2 (g1.trans (grow_os g2)) j2 ⟨r, hz, rt_up (fun _ => g1.free) o⟩⟩
  cases e : F1 a with
  | none => rfl
  | some u => exact absurd (g1.n a (st.sf a s) (by rw [e]; exact fun z => nomatch z)) ((OS p W n).dom st.j s)
theorem dhp_ofR {O O' : Own} {P : PyData → Prop} (h : DH X O O' ds e (rR X.K (fun r => ∃ x, r = .d x ∧ P x))) : DHP X O O' ds e P := dh_imp h fun _ _ _ _ ⟨r, ⟨x, e, p⟩, o⟩ => by subst e; exact ⟨x, o, p⟩
end
end DS
end
section
set_option Elab.async false
set_option linter.all false
set_option maxRecDepth 100000
set_option maxHeartbeats 2000000
namespace KS
open PySem PySem.Spec PyProof.Rows L2 DS KT KM KD KL
section
variable {P : Program} {w : World} {K : PySem.W.Frag} {mg : Str → Option Value} {base : Heap} {Cb Ck fI : Addr}
def mixed (cell k : Int) : Int := ((cell % 2147483647 * (48271 + 2 * k * k) + 69621 * k + 11) % 2147483647 * 69621) % 2147483629
theorem mixed_lo (c k : Int) : 0 ≤ mixed c k := Int.emod_nonneg _ (by decide)
theorem mixed_hi (c k : Int) : mixed c k < 2147483629 := Int.emod_lt_of_pos _ (by decide)
def R_mixed : Rel := fun xs z => ∃ c k, xs = [.int c, .int k] ∧ 0 ≤ k ∧ k ≤ 100000000 ∧ z = .int (mixed c k)
theorem b_mixed (m : Free mg) : BodyOk P w K mg base N_law_mixed "_law_mixed" s_law_mixed 0 R_mixed := by
  intro f cdv A outer s H E F0 xs z hr hR
  obtain ⟨c, k, rfl, h0, h1, rfl⟩ := hR
  have hc0 : 0 ≤ c % 2147483647 := Int.emod_nonneg _ (by decide)
  have hc1 : c % 2147483647 < 2147483647 := Int.emod_lt_of_pos _ (by decide)
  refine dw_set 0 sc_law_mixed.nd (dx_mod (dx_intI m.int (dx_var 0)) dx_int) ?_
  have c1 : CMul (2 : Int) k := .inl ⟨by decide, by decide⟩
  have c2 : CMul (2 * k) k := .inr ⟨by omega, by omega⟩
  have c3 : CMul (c % 2147483647) (48271 + 2 * k * k) := .inl ⟨by omega, by omega⟩
  have c4 : CMul (69621 : Int) k := .inl ⟨by decide, by decide⟩
  have c5 : CMul ((c % 2147483647 * (48271 + 2 * k * k) + 69621 * k + 11) % 2147483647) (69621 : Int) := .inr ⟨by decide, by decide⟩
  exact dw_ret (x := .int (mixed c k)) (dx_mod (dx_mul (dx_mod (dx_add (dx_add (dx_mul (dx_var 0) (dx_add dx_int (dx_mul (dx_mul dx_int (dx_var 1) c1) (dx_var 1) c2)) c3) (dx_mul dx_int (dx_var 1) c4)) dx_int) dx_int) dx_int c5) dx_int) rfl
end
end KS
end
section
set_option Elab.async false
set_option linter.all false
set_option maxRecDepth 100000
set_option maxHeartbeats 2000000
namespace DS
open PySem PySem.Spec PyProof.Rows L2 LamX
open Evl (Ex ex_l ex_t ex_rd)
abbrev FrS (p : Pl) (W : Addr → Prop) (n : Nat) (F0 B : Hp) (hw : ∀ q, W q ↔ B q = none) : Frm := ⟨OS p W n, F0, B, hw⟩
section
variable {K : PySem.W.Frag} {p : Pl} {W : Addr → Prop} {n m : Nat} {F0 B : Hp} {hw : ∀ q, W q ↔ B q = none} {F H : Hp} {σ : L2.St} {ds : List Sl} {a : Addr} {o : HO}
theorem StOk.putS (h : StOk K (OS p W n) F σ H ds) (hs : p.S a) (j : StJ p m (upd H a o)) : StOk K (OS p W m) F σ (upd H a o) ds := by
  have hF := h.sf a hs
  refine ⟨fun b v hb => ?_, h.sf, j, h.len, fun i s w e1 e2 => ?_, h.sep⟩
  · have hne : b ≠ a := fun z => by rw [z, hF] at hb; cases hb
    rw [upd_ne hne]; exact h.ex b v hb
  · have hb := h.sl i s w e1 e2
    cases s with
    | u => exact hb
    | d x => exact hb
    | v x => exact hb
    | l xs =>
      obtain ⟨q, vs, rfl, f, ns, hp, r⟩ := hb
      have hne : q ≠ a := fun z => ns (z ▸ hs)
      exact ⟨q, vs, rfl, f, ns, by rw [upd_ne hne]; exact hp, r⟩
    | m kvs =>
      obtain ⟨q, rfl, f, ns, hp, r⟩ := hb
      have hne : q ≠ a := fun z => ns (z ▸ hs)
      exact ⟨q, rfl, f, ns, by rw [upd_ne hne]; exact hp, r⟩
theorem Grow.putS (g : Grow (OS p W n) F0 B F H) (hs : p.S a) (hF : F a = none) : Grow (OS p W m) F0 B F (upd H a o) := by
  refine ⟨g.f, fun b v nb hb => ?_, fun b v hb => ?_, g.n, fun b hb => ?_⟩
  · have hne : b ≠ a := fun z => nb (by rw [z]; exact hs)
    rw [upd_ne hne]; exact g.h b v nb hb
  · have hne : b ≠ a := fun z => by rw [z, hF] at hb; cases hb
    rw [upd_ne hne]; exact g.s b v hb
  · by_cases z : b = a
    · rw [z, upd_same]; exact fun y => nomatch y
    · rw [upd_ne z]; exact g.t b hb
theorem At.putS (h : At K (FrS p W n F0 B hw) F σ H ds) (hs : p.S a) (j : StJ p m (upd H a o)) : At K (FrS p W m F0 B hw) F σ (upd H a o) ds := ⟨h.st.putS hs j, h.g.putS hs (h.st.sf a hs)⟩
theorem stK_put (cs ls : Addr) (i j : Int) : putK (stK cs ls i) (Sum.inr "at") (V.int j) = stK cs ls j := by
  have h1 : ¬ (Sum.inr ("cells" : Str) : Key) = Sum.inr ("at" : Str) := fun z => absurd (Sum.inr.inj z) (show ¬ ("cells" : Str) = "at" by decide +kernel)
  have h2 : ¬ (Sum.inr ("lefts" : Str) : Key) = Sum.inr ("at" : Str) := fun z => absurd (Sum.inr.inj z) (show ¬ ("lefts" : Str) = "at" by decide +kernel)
  have h3 : ¬ (Sum.inr ("room" : Str) : Key) = Sum.inr ("at" : Str) := fun z => absurd (Sum.inr.inj z) (show ¬ ("room" : Str) = "at" by decide +kernel)
  unfold putK stK
  simp [h1, h2, h3]
theorem stK_at (cs ls : Addr) (i : Int) : valV (stK cs ls i) (Sum.inr "at") = some (.int i) := by
  have h1 : ¬ (Sum.inr ("cells" : Str) : Key) = Sum.inr ("at" : Str) := fun z => absurd (Sum.inr.inj z) (show ¬ ("cells" : Str) = "at" by decide +kernel)
  have h2 : ¬ (Sum.inr ("lefts" : Str) : Key) = Sum.inr ("at" : Str) := fun z => absurd (Sum.inr.inj z) (show ¬ ("lefts" : Str) = "at" by decide +kernel)
  unfold stK
  rw [valV_neg h1, valV_neg h2, valV_pos rfl]
theorem stK_cells (cs ls : Addr) (i : Int) : valV (stK cs ls i) (Sum.inr "cells") = some (.ref cs) := by
  unfold stK
  rw [valV_pos rfl]
theorem stK_lefts (cs ls : Addr) (i : Int) : valV (stK cs ls i) (Sum.inr "lefts") = some (.ref ls) := by
  have h1 : ¬ (Sum.inr ("cells" : Str) : Key) = Sum.inr ("lefts" : Str) := fun z => absurd (Sum.inr.inj z) (show ¬ ("cells" : Str) = "lefts" by decide +kernel)
  unfold stK
  rw [valV_neg h1, valV_pos rfl]
end
section
variable {X : Cx} {p : Pl} {W : Addr → Prop} {n m : Nat} {F0 B : Hp} {hw : ∀ q, W q ↔ B q = none} {ds : List Sl} {e b : Expr} {es : List Expr} {pos p1 p2 p3 p4 pc : Pos} {nm sn : Str} {k j1 : Nat} {C : Cn} {rest : List Stmt}
/-- state['..'] -/
theorem dg_st {ky : Str} {R : Rs} (i : Nat) (hu : X.A.units + 64 < cLine) (hx : ∀ F H, StJ p n H → ∃ x, R H F H x ∧ ∃ at_, H p.st = some (.dK (stK p.cs p.ls at_)) ∧ valV (stK p.cs p.ls at_) (Sum.inr ky) = some x) (hd : ds[i]? = some (.v (.ref p.st)) := by rfl) (hN : X.N[i]? = some sn := by rfl)
    (hv : Vis X.env.scope sn := by first | exact Or.inl rfl | exact Or.inr (Or.inl rfl) | exact Or.inr (Or.inr rfl)) (h1 : (sn == ("__debug__" : Str)) = false := by decide) (h2 : (sn == ("__classdict__" : Str)) = false := by decide)
    (hs : NoSl (.Constant (.str ky) j1 p2) := by intro _ _; rfl) : DG X (OS p W n) ds (.Subscript (.Name sn p1) (.Constant (.str ky) j1 p2) pos) R :=
  pe_mono (pe_dget (by omega) (pe_var (i := i) hN hv h1 h2) pe_str hs) fun σ H Q ⟨F, st, q⟩ => by
    obtain ⟨x, hx1, at_, hx2, hx3⟩ := hx F H st.j
    refine ⟨.ref p.st, st.val hd, p.st, x, rfl, ?_, q x F H (Grow.refl st.ex) st.j hx1⟩
    rw [← hx3]
    exact DGet.k (k := Sum.inr ky) hx2
theorem dx_stAt (i : Nat) (hu : X.A.units + 64 < cLine) (hd : ds[i]? = some (.v (.ref p.st)) := by rfl) (hN : X.N[i]? = some sn := by rfl)
    (hv : Vis X.env.scope sn := by first | exact Or.inl rfl | exact Or.inr (Or.inl rfl) | exact Or.inr (Or.inr rfl)) (h1 : (sn == ("__debug__" : Str)) = false := by decide) (h2 : (sn == ("__classdict__" : Str)) = false := by decide) : DP X (OS p W n) ds (.Subscript (.Name sn p1) (.Constant (.str "at") j1 p2) pos) (fun x => ∃ i : Int, x = .int i ∧ 0 ≤ i ∧ i ≤ (n : Int)) :=
  dg_st i hu (fun F H ⟨cells, lefts, at_, a1, a2, a3, l1, l2, b1, b2, t⟩ => ⟨.int at_, ⟨.int at_, .int _, at_, rfl, b1, b2⟩, at_, a1, stK_at ..⟩) hd hN hv h1 h2
theorem dv_stCells (i : Nat) (hu : X.A.units + 64 < cLine) (hd : ds[i]? = some (.v (.ref p.st)) := by rfl) (hN : X.N[i]? = some sn := by rfl)
    (hv : Vis X.env.scope sn := by first | exact Or.inl rfl | exact Or.inr (Or.inl rfl) | exact Or.inr (Or.inr rfl)) (h1 : (sn == ("__debug__" : Str)) = false := by decide) (h2 : (sn == ("__classdict__" : Str)) = false := by decide) : DG X (OS p W n) ds (.Subscript (.Name sn p1) (.Constant (.str "cells") j1 p2) pos) (rV (.ref p.cs)) :=
  dg_st i hu (fun F H ⟨cells, lefts, at_, a1, a2, a3, l1, l2, b1, b2, t⟩ => ⟨.ref p.cs, rfl, at_, a1, stK_cells ..⟩) hd hN hv h1 h2
theorem dv_stLefts (i : Nat) (hu : X.A.units + 64 < cLine) (hd : ds[i]? = some (.v (.ref p.st)) := by rfl) (hN : X.N[i]? = some sn := by rfl)
    (hv : Vis X.env.scope sn := by first | exact Or.inl rfl | exact Or.inr (Or.inl rfl) | exact Or.inr (Or.inr rfl)) (h1 : (sn == ("__debug__" : Str)) = false := by decide) (h2 : (sn == ("__classdict__" : Str)) = false := by decide) : DG X (OS p W n) ds (.Subscript (.Name sn p1) (.Constant (.str "lefts") j1 p2) pos) (rV (.ref p.ls)) :=
  dg_st i hu (fun F H ⟨cells, lefts, at_, a1, a2, a3, l1, l2, b1, b2, t⟩ => ⟨.ref p.ls, rfl, at_, a1, stK_lefts ..⟩) hd hN hv h1 h2
theorem dx_lenCells {a : Expr} (hm : X.mg "len" = none) (ha : DG X (OS p W n) ds a (rV (.ref p.cs))) (hg : Gl X "len" := by rfl) (he : starEach [a] X.env = (false, eval a X.env) :: starEach [] X.env := by rfl) : DX X (OS p W n) ds (.Call (.Name "len" pc) [a] [] pos) (.int (p.L : Int)) :=
  dg_call1 call_len_seq hm PySem.boot_len ha (fun F0 H0 F H v Q g j r q => by
    obtain ⟨cells, lefts, at_, a1, a2, a3, l1, l2, b1, b2, t⟩ := j
    have r : v = .ref p.cs := r
    refine ⟨p.cs, cells.map V.int, by rw [r], .inl (SqL.of a2), ?_⟩
    rw [List.length_map, l1]
    exact q _ F H (Grow.refl g.s) (.int _)) hg (by decide) (by decide) he
theorem dp_stIx {a : Expr} {i : Int} (hb : DX X (OS p W n) ds b (.int i)) (h0 : 0 ≤ i) (hi : i < (p.L : Int)) (ha : DG X (OS p W n) ds a (rV (.ref p.cs)) ∨ DG X (OS p W n) ds a (rV (.ref p.ls))) (hs : PlainIx b := by intro _ _; rfl) : DP X (OS p W n) ds (.Subscript a b pos) (fun x => ∃ z : Int, x = .int z) := by
  have key : ∀ (l : Addr), (∀ H, StJ p n H → ∃ cells : List Int, H l = some (.lst (cells.map V.int)) ∧ cells.length = p.L) → DG X (OS p W n) ds a (rV (.ref l)) → DP X (OS p W n) ds (.Subscript a b pos) (fun x => ∃ z : Int, x = .int z) := fun l hl ha =>
    pe_mono (pe_ix ix_list ha hb hs) fun σ H Q ⟨F, st, q⟩ => ⟨F, st, fun v F1 H1 g1 j1 ev => ⟨F1, st.grow g1 j1, fun w F2 H2 g2 j2 d2 => by
      obtain ⟨cells, h1, h2⟩ := hl H2 j2
      have ev : v = .ref l := ev
      have hlt : i.toNat < cells.length := by rw [h2]; omega
      refine ⟨l, cells.map V.int, i, .int cells[i.toNat], ev, Dp.int_eq d2, SqL.of h1, ?_, q _ F2 H2 (g1.trans g2) j2 ⟨.int _, .int _, _, rfl⟩⟩
      unfold atI ixN
      rw [if_pos h0, if_pos (by rw [List.length_map]; omega)]
      show (cells.map V.int)[i.toNat]? = _
      rw [List.getElem?_map, List.getElem?_eq_getElem hlt]
      rfl⟩⟩
  rcases ha with ha | ha
  · exact key p.cs (fun H ⟨cells, lefts, at_, a1, a2, a3, l1, l2, b1, b2, t⟩ => ⟨cells, a2, l1⟩) ha
  · exact key p.ls (fun H ⟨cells, lefts, at_, a1, a2, a3, l1, l2, b1, b2, t⟩ => ⟨lefts, a3, l2⟩) ha
/-- state['at'] = e -/
theorem dw_putAt {j : Int} (i : Nat) (hu : X.A.units + 64 < cLine) (he : DX X (OS p W n) ds e (.int j)) (h0 : 0 ≤ j) (hm : j ≤ (m : Int)) (h : DW X (FrS p W m F0 B hw) ds rest C) (hd : ds[i]? = some (.v (.ref p.st)) := by rfl) (hN : X.N[i]? = some sn := by rfl)
    (hv : Vis X.env.scope sn := by first | exact Or.inl rfl | exact Or.inr (Or.inl rfl) | exact Or.inr (Or.inr rfl)) (h1 : (sn == ("__debug__" : Str)) = false := by decide) (h2 : (sn == ("__classdict__" : Str)) = false := by decide)
    (hs : swapsWith e (some (.Subscript (.Name sn p1) (.Constant (.str "at") j1 p2) p3)) pos.line X.env = pure false := by rfl) : DW X (FrS p W n F0 B hw) ds (.Assign [.Subscript (.Name sn p1) (.Constant (.str "at") j1 p2) p3] e pos :: rest) C := by
  refine dw_seqH (N := fun O' ds' => O' = OS p W m ∧ ds' = ds) ?_ fun O' ds' sm ⟨e1, e2⟩ => by subst e1 e2; exact h
  refine ps_mono (ps_dput (by omega) (pe_var (i := i) hN hv h1 h2) pe_str he hs) fun D σ H ⟨F, a, q1, _⟩ => ⟨F, a.st, fun v F1 H1 g1 j1 dv => ?_⟩
  have a1 := a.grow g1 j1
  have ev := Dp.int_eq dv
  subst ev
  obtain ⟨cells, lefts, at_, r1, r2, r3, l1, l2, b1, b2, t⟩ := id j1
  refine ⟨.ref p.st, a1.st.val hd, p.st, _, rfl, DPut.k (k := Sum.inr "at") r1 (by show 4 < sizeLine; rw [sizeLine_eq]; decide), ?_⟩
  rw [stK_put]
  have ne1 : p.cs ≠ p.st := fun z => by rw [z, r1] at r2; cases r2
  have ne2 : p.ls ≠ p.st := fun z => by rw [z, r1] at r3; cases r3
  have j2 : StJ p m (upd H1 p.st (.dK (stK p.cs p.ls j))) := by
    refine ⟨cells, lefts, j, upd_same, by rw [upd_ne ne1]; exact r2, by rw [upd_ne ne2]; exact r3, l1, l2, h0, hm, fun q hq => ?_⟩
    obtain ⟨ps, e1, e2, e3⟩ := t q hq
    have ne3 : q.1 ≠ p.st := fun z => by rw [z, r1] at e1; cases e1
    refine ⟨ps, by rw [upd_ne ne3]; exact e1, e2, fun pos cv hc => ?_⟩
    obtain ⟨c, s1, s2⟩ := e3 pos cv hc
    have ne4 : c ≠ p.st := fun z => by rw [z, r1] at s2; cases s2
    exact ⟨c, s1, by rw [upd_ne ne4]; exact s2⟩
  exact q1 σ _ F1 ds (OS p W m) ⟨rfl, rfl⟩ g1.f (a1.putS (.inl rfl) j2) ⟨rfl, rfl⟩
/-- state['lefts'][i] = e -/
theorem dw_putLeft {a : Expr} {i j : Int} (he : DX X (OS p W n) ds e (.int j)) (ha : DG X (OS p W n) ds a (rV (.ref p.ls))) (hb : DX X (OS p W n) ds b (.int i)) (h0 : 0 ≤ i) (hi : i < (p.L : Int)) (h : DW X (FrS p W n F0 B hw) ds rest C) (hst : PG X (.Subscript a b p3) (gSub (tG X.K (OS p W n) ds (rV (.ref p.ls))) (tG X.K (OS p W n) ds (rD X.K (.int i))) rSetL) := by exact pg_sub ‹_› ‹_› set_list)
    (hs : swapsWithSole [.Subscript a b p3] e pos.line X.env = pure false := by rfl) (hw' : swappedStores [.Subscript a b p3] e X.env = pure none := by rfl) (h1 : (assignEach [.Subscript a b p3] X.env).map (·.2) = [assign (.Subscript a b p3) X.env] := by rfl) : DW X (FrS p W n F0 B hw) ds (.Assign [.Subscript a b p3] e pos :: rest) C := by
  refine dw_seq (N := fun ds' => ds' = ds) ?_ fun ds' e => e ▸ h
  refine ps_mono (ps_asg he hst hs hw' h1) fun D σ H ⟨F, a, q1, _⟩ => ⟨F, a.st, fun v F1 H1 g1 j1 dv => ?_⟩
  have a1 := a.grow g1 j1
  have ev := Dp.int_eq dv
  subst ev
  refine ⟨F1, a1.st, fun u F2 H2 g2 j2 eu => ?_⟩
  have a2 := a1.grow g2 j2
  have eu : u = .ref p.ls := eu
  refine ⟨F2, a2.st, fun w F3 H3 g3 j3 dw => ?_⟩
  have a3 := a2.grow g3 j3
  obtain ⟨cells, lefts, at_, r1, r2, r3, l1, l2, b1, b2, t⟩ := id j3
  refine ⟨p.ls, lefts.map V.int, i, i.toNat, eu, Dp.int_eq dw, r3, ?_, ?_⟩
  · unfold ixN
    rw [if_pos h0, if_pos (by rw [List.length_map, l2]; exact hi)]
  have ne1 : p.st ≠ p.ls := fun z => by rw [z, r3] at r1; cases r1
  have es : (lefts.map V.int).set i.toNat (.int j) = (lefts.set i.toNat j).map V.int := by rw [List.map_set]
  rw [es]
  have j4 : StJ p n (upd H3 p.ls (.lst ((lefts.set i.toNat j).map V.int))) := by
    refine ⟨cells, lefts.set i.toNat j, at_, by rw [upd_ne ne1]; exact r1, by rw [upd_ne p.ne]; exact r2, upd_same, l1, by rw [List.length_set]; exact l2, b1, b2, fun q hq => ?_⟩
    obtain ⟨ps, e1, e2, e3⟩ := t q hq
    have ne3 : q.1 ≠ p.ls := fun z => by rw [z, r3] at e1; cases e1
    refine ⟨ps, by rw [upd_ne ne3]; exact e1, e2, fun pos cv hc => ?_⟩
    obtain ⟨c, s1, s2⟩ := e3 pos cv hc
    have ne4 : c ≠ p.ls := fun z => by rw [z, r3] at s2; cases s2
    exact ⟨c, s1, by rw [upd_ne ne4]; exact s2⟩
  exact q1.here ((g1.f.trans g2.f).trans g3.f) (a3.putS (.inr (.inr (.inl rfl))) j4) ⟨rfl, rfl⟩
end
end DS
end
section
set_option Elab.async false
set_option linter.all false
set_option maxRecDepth 100000
set_option maxHeartbeats 2000000
namespace DS
open PySem PySem.Spec PyProof.Rows L2
section
variable {X : Cx} {O O1 : Own} {ds : List Sl} {e : Expr} {es : List Expr} {pos p : Pos} {nm : Str} {k : Nat} {ps : List Str} {Rl : Rel}
theorem dp_call {Ps : List PyData → Prop} {S : PyData → Prop} (D : Def X.prog X.w X.K X.mg X.base nm k ps (spD X.K Rl)) (hr : Room k X.A) (ha : DAH X O O1 ds (e :: es) Ps) (hR : ∀ xs, Ps xs → ∃ z, Rl xs z ∧ S z) (sm : Sm O O1) (hg : Gl X nm := by rfl) (hdb : (nm == ("__debug__" : Str)) = false := by decide)
    (he : starEach (e :: es) X.env = (false, eval e X.env) :: starEach es X.env := by rfl) (hpl : (backTo pos (starEach es X.env)).any (·.1) = false := by rfl) : DHP X O O1 ds (.Call (.Name nm p) (e :: es) [] pos) S := by
  obtain ⟨f, fd, G, hm, hk, hb⟩ := D.ex
  refine pe_mono (pe_call G hr hg hm hk hb .nil passL ha hdb he hpl) fun σ H Q ⟨F, st, q⟩ => ⟨F, st, fun vs F1 H1 xs pxs g1 j1 d1 => ?_⟩
  obtain ⟨z, hz, sz⟩ := hR xs pxs
  exact ⟨F1, xs, z, g1.s, (List.append_nil vs).symm ▸ d1, hz, fun v F2 H2 g2 d2 => q v F2 H2 (g1.trans g2.lift) (g2.j j1) ⟨z, d2, sz⟩⟩
end
end DS
namespace KS
open PySem PySem.Spec PyProof.Rows L2 DS KT KM KD KL
section
variable {P : Program} {w : World} {K : PySem.W.Frag} {mg : Str → Option Value} {base : Heap} {Cb Ck fI : Addr}
def R_draw : RelS := fun p xs c z => ∃ many : Int, xs = [.int many] ∧ 0 < many ∧ many ≤ 1000000 ∧ c = 1 ∧ ∀ r : Int, 0 ≤ r → r < many → z (.d (.int r))
theorem b_law_draw (m : Free mg) (D : Def P w K mg base "_law_mixed" 1 ["cell", "k"] (spD K R_mixed)) : BodyOkS P w K mg base N_law_draw "_law_draw" s_law_draw true 1 R_draw := by
  intro f cdv A outer s H E F0 p n xs c z hr hR hn
  obtain ⟨many, rfl, m0, m1, rfl, hz⟩ := hR
  have hu := hr.units
  have hnm : (n : Int) + 1 ≤ 1000000 := by have : NMX = 1000000 := rfl; omega
  refine dw_setP (M := Sm0 p n F0 H) 2 sc_law_draw.nd (dx_stAt 0 hu) fun x ⟨i, ex, i0, i1⟩ => ?_
  subst ex
  refine dw_putAt (m := n + 1) 0 hu (dx_add (dx_var 2) dx_int) (by omega) (by push_cast; omega) ?_
  have hL : (0 : Int) < (p.L : Int) := by have := p.pos; omega
  refine dw_set 3 sc_law_draw.nd (dx_mod (dx_intI m.int (dx_var 2)) (dx_lenCells m.len (dv_stCells 0 hu)) hL) ?_
  have q0 : 0 ≤ i % (p.L : Int) := Int.emod_nonneg _ (by omega)
  have q1 : i % (p.L : Int) < (p.L : Int) := Int.emod_lt_of_pos _ hL
  refine dw_setP 4 sc_law_draw.nd (dp_stIx (dx_var 3) q0 q1 (.inr (dv_stLefts 0 hu))) fun x ⟨l, ex⟩ => ?_
  subst ex
  have fin : ∀ r : Int, 0 ≤ r → r < many → (CzS p (fun q => H q = none) (n + 1) z).rt (OS p (fun q => H q = none) (n + 1)) (.d (.int r)) := fun r a b => ⟨⟨n + 1, Nat.le_refl _, rfl⟩, hz r a b⟩
  refine dw_ifR (dt_cmp op_gt (dx_var 4) dx_int (op2_II (h := fun i j => .bool (decide (j < i))) fun _ => .bl _)) (fun h => ?_) (fun h => ?_)
  · refine dw_putLeft (dx_div (dx_var 4) (dx_var 1) ⟨m0, by omega⟩) (dv_stLefts 0 hu) (dx_var 3) q0 q1 ?_ (pg_sub (dv_stLefts 0 hu) (dx_var 3) set_list)
    exact dw_ret (dx_mod (dx_intI m.int (dx_var 4)) (dx_var 1) m0) (fin _ (Int.emod_nonneg _ (by omega)) (Int.emod_lt_of_pos _ m0))
  · refine dw_setP (P := fun x => ∃ r : Int, x = .int r ∧ 0 ≤ r ∧ r < 2147483629) 5 sc_law_draw.nd (dp_call (S := fun x => ∃ r : Int, x = .int r ∧ 0 ≤ r ∧ r < 2147483629) D hr (dah_cons (S := fun l => ∃ c, l = [.int c, .int (40 + i)]) (Sm.refl _) (dp_call (S := fun x => ∃ c : Int, x = .int c) D hr (dah_cons (S := fun l => ∃ c, l = [.int c, .int i]) (Sm.refl _) (dp_stIx (dx_var 3) q0 q1 (.inl (dv_stCells 0 hu))) (dah_of (da_one (dx_var 2))) fun x xs ⟨c, e⟩ e2 => ⟨c, by rw [e, e2]⟩) (fun xs ⟨c, e⟩ => ⟨_, ⟨c, i, e, i0, by omega, rfl⟩, _, rfl⟩) (Sm.refl _))
      (dah_of (da_one (dx_add dx_int (dx_var 2)))) fun x xs ⟨c, e⟩ e2 => ⟨c, by rw [e, e2]⟩) (fun xs ⟨c, e⟩ => ⟨_, ⟨c, 40 + i, e, by omega, by omega, rfl⟩, _, rfl, mixed_lo _ _, mixed_hi _ _⟩) (Sm.refl _)) fun x ⟨r, ex, r0, r1⟩ => ?_
    subst ex
    exact dw_ret (dx_mod (dx_div (dx_intI m.int (dx_add (dx_mul (dx_var 5) dx_int (.inr ⟨by decide, by decide⟩)) (dx_call D hr (da_cons (dx_var 5) (da_one (dx_add dx_int (dx_var 2)))) ⟨r, 7 + i, rfl, by omega, by omega, rfl⟩))) dx_int ⟨by decide, by decide⟩) (dx_var 1) m0) (fin _ (Int.emod_nonneg _ (by omega)) (Int.emod_lt_of_pos _ m0))
end
end KS
end
section
set_option Elab.async false
set_option linter.all false
set_option maxRecDepth 100000
set_option maxHeartbeats 2000000
namespace DS
open PySem PySem.Spec PyProof.Rows L2 LamX
open Evl (Ex ex_l ex_t ex_rd)
/-! ### items by data -/
theorem op2_ixT {K : PySem.W.Frag} {xs : List PyData} {z : PyData} {i : Int} (h : atI xs i = some z) : Op2 K (rIxT K) (.tuple xs) (.int i) z := op2_pure fun F H v w Q e d1 d2 q => by
  obtain ⟨p, vs, rfl, h1, h2⟩ := d1.tup_eq
  rw [d2.int_eq]
  unfold atI at h
  cases hx : ixN xs.length i with
  | none => rw [hx] at h; cases h
  | some j =>
    rw [hx] at h
    obtain ⟨u, hu, du⟩ := h2.get' (show xs[j]? = some z from h)
    exact ⟨p, vs, i, u, rfl, rfl, ex_t e h1, by unfold atI; rw [h2.len, hx]; exact hu, q u du⟩
theorem op2_ixL {K : PySem.W.Frag} {xs : List PyData} {z : PyData} {i : Int} (h : atI xs i = some z) : Op2 K (rIxL K) (.list xs) (.int i) z := op2_pure fun F H v w Q e d1 d2 q => by
  obtain ⟨p, vs, rfl, h1, h2⟩ := d1.lst_eq
  rw [d2.int_eq]
  unfold atI at h
  cases hx : ixN xs.length i with
  | none => rw [hx] at h; cases h
  | some j =>
    rw [hx] at h
    obtain ⟨u, hu, du⟩ := h2.get' (show xs[j]? = some z from h)
    exact ⟨p, vs, i, u, rfl, rfl, ex_l e h1, by unfold atI; rw [h2.len, hx]; exact hu, q u du⟩
theorem op2_ixS {K : PySem.W.Frag} {s : Str} {i : Int} {k : Nat} (h : atI s.cps.toList i = some k) (hl : s.length ≤ 100000) : Op2 K rIxS (.str s) (.int i) (.str ⟨#[k]⟩) := op2_pure fun F H v w Q e d1 d2 q => ⟨s, i, k, d1.str_eq, d2.int_eq, Evl.sz_of hl, h, q _ (.str _)⟩
theorem at_nat {α : Type} {xs : List α} {i : Int} (h0 : 0 ≤ i) (h : i < (xs.length : Int)) : ∃ z, atI xs i = some z ∧ z ∈ xs := by
  have hl : i.toNat < xs.length := by omega
  refine ⟨xs[i.toNat], ?_, List.getElem_mem hl⟩
  unfold atI ixN
  rw [if_pos h0, if_pos h]
  show xs[i.toNat]? = _
  exact List.getElem?_eq_getElem hl
section
variable {X : Cx} {O O1 O2 : Own} {ds : List Sl} {tg iter elt a e : Expr} {scope : Scope} {own : List (Str × Nat)} {xs : List PyData} {pos p apos : Pos} {g : PyData → List Sl → Option (List Sl)}
/-- .. of a drawn list -/
def rLc (K : PySem.W.Frag) (Pz : List PyData → Prop) (Pe : PyData → PyData → Prop) : Rs := fun H F' H' v => ∃ xs ys, Pz xs ∧ Paired Pe xs ys ∧ rO K ys H F' H' v
theorem dh_lc (Pz : List PyData → Prop) (Ow : List PyData → Nat → Own) (Pe : PyData → PyData → Prop) (hc : X.calm = true) (hN : X.N.Nodup) (hi : DIP X O O1 ds tg iter Pz) (ok : BlkOk X.N X.env.scope scope own) (hz : ∀ xs, Pz xs → xs.length ≤ 100000)
    (sm : ∀ xs i, Sm O (Ow xs i)) (m1 : ∀ xs H, Pz xs → O1.J H → (Ow xs 0).J H) (mn : ∀ xs i H, Pz xs → (Ow xs i).J H → (Ow xs (i + 1)).J H) (m2 : ∀ xs H, Pz xs → (Ow xs xs.length).J H → O2.J H)
    (hg : ∀ (O : Own) (s : Shared) (H : Hp) (C : Addr) (cl : List (Str × Addr)) (fp : List Addr), DTg (Cx.bl X s H scope C cl fp) O tg (slotsOf own) g)
    (hgo : ∀ xs x, Pz xs → x ∈ xs → ∃ ds1, g x (wipeD ds (slotsOf own)) = some ds1)
    (he : ∀ (s : Shared) (H : Hp) (C : Addr) (cl : List (Str × Addr)) (fp : List Addr) xs i x ds1, Pz xs → xs[i]? = some x → g x (wipeD ds (slotsOf own)) = some ds1 → DHP (Cx.bl X s H scope C cl fp) (Ow xs i) (Ow xs (i + 1)) ds1 elt (Pe x))
    (hs : ∀ x, foldedSetIterable iter X.env x = pure x := by intro _; rfl) : DH X O O2 ds (.ListComp elt [⟨tg, iter, [], 0⟩] scope pos) (rLc X.K Pz Pe) := by
  refine pe_mono (pe_lc (own := own) (wi := tIGP X.K O O1 ds Pz) (g := fun v σ H Q => ∃ xs i, Pz xs ∧ tgD X.K (Ow xs i) (slotsOf own) g v σ H Q) (tt := fun σ H Q => ∃ O ds1, tT X.K O ds1 true σ H Q)
    (te := fun σ H Q => ∃ xs i x ds1, Pz xs ∧ xs[i]? = some x ∧ g x (wipeD ds (slotsOf own)) = some ds1 ∧ tH X.K (Ow xs i) (Ow xs (i + 1)) ds1 (rP X.K (Pe x)) σ H Q)
    hc hN (digp_of hi) ok (fun s H C cl fp => ⟨fun pins s' σ H' v u Q I r ⟨xs, i, _, q⟩ => (hg (Ow xs i) s H C cl fp).run pins s' σ H' v u Q I r q⟩) (fun s H C cl fp => ⟨fun pins s' σ H' Q I ⟨O, ds1, q⟩ => pts_no.run pins s' σ H' Q I q⟩)
    (fun s H C cl fp => ⟨fun pins s' σ H' Q I ⟨xs, i, x, ds1, pz, hx, e, q⟩ => (he s H C cl fp xs i x ds1 pz hx e).run pins s' σ H' Q I q⟩) hs) fun σ H Q ⟨F, st, q⟩ => ?_
  refine lc_readH (X := X) (O := O) (ds := ds) (g := g) (vs := slotsOf own) (O1 := O1) (Q := Q) (tt := fun σ H Q => ∃ O ds1, tT X.K O ds1 true σ H Q) (te := fun σ H Q => ∃ xs i x ds1, Pz xs ∧ xs[i]? = some x ∧ g x (wipeD ds (slotsOf own)) = some ds1 ∧ tH X.K (Ow xs i) (Ow xs (i + 1)) ds1 (rP X.K (Pe x)) σ H Q) (gt := fun v σ H Q => ∃ xs i, Pz xs ∧ tgD X.K (Ow xs i) (slotsOf own) g v σ H Q) Pz Ow (fun _ => true) Pe sm m1 mn st hz hgo (fun xs i x ds1 σ' H' Q' pz hx e t => ⟨_, ds1, t⟩) (fun xs i x ds1 σ' H' Q' pz hx _ e t => ⟨xs, i, x, ds1, pz, hx, e, t⟩) (fun v F' H' xs pz g' j' ⟨ys, hp, r⟩ => ?_) (fun xs i v σ' H' Q' pz t => ⟨xs, i, pz, t⟩)
  exact q v F' H' g' (m2 xs H' pz j') ⟨xs, ys, pz, by rw [filter_yes] at hp; exact hp, r⟩
/-- range(e), e drawn -/
theorem dip_rngH {m : Nat} (hm : X.mg "range" = none) (h : DHP X O O1 ds a (fun x => ∃ k : Int, x = .int k ∧ 0 ≤ k ∧ k ≤ (m : Int))) (hl : m ≤ 100000) (hg : Gl X "range" := by rfl) (hs : starEach [a] X.env = [(false, eval a X.env)] := by rfl) : DIP X O O1 ds tg (.Call (.Name "range" p) [a] [] pos) (fun xs => ∃ k : Nat, k ≤ m ∧ xs = intsD 0 k) :=
  pi_mono (pi_range1 hg hm (pa1 h hs) hs) fun σ H R ⟨F, st, q⟩ => ⟨F, st, fun v F1 H1 g1 j1 ⟨x, d, k, ex, k0, k1⟩ => by
    subst ex
    rw [Dp.int_eq d]
    exact ⟨k, rfl, by omega, by omega, q _ F1 H1 (intsD 0 k.toNat) ⟨k.toNat, by omega, rfl⟩ g1 j1 (walk_rng 0 k.toNat)⟩⟩
/-- ''.join of a drawn list of texts -/
theorem dh_join {Ps : List Str → Prop} (ha : DX X O ds a (.str "")) (hb : DH X O O1 ds e (fun H F' H' v => ∃ ss, Ps ss ∧ rO X.K (tX ss) H F' H' v)) (hz : ∀ ss, Ps ss → (ss.map (·.length)).sum ≤ 1000) (hs : starEach [e] X.env = [(false, eval e X.env)] := by rfl) (hbase : attributeBase a "join" X.env (eval a X.env) = eval a X.env := by rfl) (hline : (apos.endLine == pos.line) = true := by rfl) :
    DHP X O O1 ds (.Call (.Attribute a "join" apos) [e] [] pos) (fun x => ∃ ss, Ps ss ∧ x = .str (Txt.join "" ss)) :=
  pe_mono (pe_join ha hb hs hbase hline) fun σ H Q ⟨F, st, q⟩ => ⟨F, st, fun v F1 H1 g1 j1 d1 => ⟨⟨"", Dp.str_eq d1⟩, F1, st.grow g1 j1, fun w F2 H2 g2 j2 ⟨ss, ps, p, vs, e1, h1, h2, h3, h4⟩ => by
    have := dpAll_strs h4
    subst this
    refine ⟨"", p, ss, Dp.str_eq d1, by rw [e1], .inl (SqL.of h3), ?_, q _ F2 H2 (g1.trans g2) j2 ⟨_, .str _, ss, ps, rfl⟩⟩
    have := hz ss ps
    have e0 : (("" : Str)).length = 0 := by decide +kernel
    rw [e0]; omega⟩⟩
/-- tuple(a drawn list) -/
theorem dh_tupleL {Ps : List PyData → Prop} (hm : X.mg "tuple" = none) (sm : Sm O O1) (ha : DH X O O1 ds e (fun H F' H' v => ∃ ys, Ps ys ∧ rLs X.K ys H F' H' v)) (hg : Gl X "tuple" := by rfl) (he : starEach [e] X.env = (false, eval e X.env) :: starEach [] X.env := by rfl) : DHP X O O1 ds (.Call (.Name "tuple" p) [e] [] pos) (fun x => ∃ ys, x = .tuple ys ∧ Ps ys) :=
  pe_mono (pe_callTy call_tuple_of hg hm PyProof.Rows.boot_tuple (pa1 ha he) (by decide) (by decide) he rfl) fun σ H Q ⟨F, st, q⟩ => ⟨F, st, fun v F1 H1 g1 j1 ⟨ys, ps, a, vs, ev, h1, h2⟩ => by
    subst ev
    refine ⟨a, vs, rfl, .inl ⟨h1, fun l hl => ?_⟩⟩
    have g2 := Grow.new (O := Own.no) (o := .tup vs) g1.s hl
    exact q _ _ _ (g1.trans g2.lift) (g2.j j1) ⟨_, .tup (SqT.of upd_same) (h2.up g2.f), ys, rfl, ps⟩⟩
theorem sm_back (m : Sm O O1) : Sm O1 O := ⟨m.s.symm, m.w.symm⟩
/-- e if c else d, the ways drawn -/
theorem dh_if {P : PyData → Prop} {c b : Expr} {k : Bool} (hcc : DT X O ds c k) (ha : k = true → DHP X O O1 ds a P) (hb : k = false → DHP X O O1 ds b P) : DHP X O O1 ds (.IfExp c a b pos) P :=
  pe_mono (pe_ifExp hcc (dg_when ha) (dg_when hb)) fun σ H Q ⟨F, st, q⟩ => ⟨F, st, fun F1 H1 g1 j1 => by
    cases k with
    | true => exact iteT ⟨rfl, F1, st.grow g1 j1, fun w F2 H2 g2 j2 r2 => q w F2 H2 (g1.trans g2) j2 r2⟩
    | false => exact iteF ⟨rfl, F1, st.grow g1 j1, fun w F2 H2 g2 j2 r2 => q w F2 H2 (g1.trans g2) j2 r2⟩⟩
end
end DS
end
section
set_option Elab.async false
set_option linter.all false
set_option maxRecDepth 100000
set_option maxHeartbeats 2000000
namespace KS
open PySem PySem.Spec PyProof.Rows L2 DS KT KM KD KL
section
variable {P : Program} {w : World} {K : PySem.W.Frag} {mg : Str → Option Value} {base : Heap} {Cb Ck fI : Addr}
abbrev P_draw : List Str := ["state", "many"]
/-- one draw -/
theorem dhp_draw {X : Cx} {ds : List Sl} {e : Expr} {pos p1 pc : Pos} {n : Nat} {p : Pl} {W : Addr → Prop} {many : Int} (i : Nat) (D : Def X.prog X.w X.K X.mg X.base "_law_draw" 2 P_draw (spS X.K true R_draw)) (hr : Room 2 X.A) (ha : DX X (OS p W n) ds e (.int many)) (h0 : 0 < many) (h1 : many ≤ 1000000) (hn : n + 1 ≤ NMX) (hd : ds[i]? = some (.v (.ref p.st)) := by rfl) (hN : X.N[i]? = some "state" := by rfl)
    (hv : Vis X.env.scope "state" := by first | exact Or.inl rfl | exact Or.inr (Or.inl rfl) | exact Or.inr (Or.inr rfl)) (hg : Gl X "_law_draw" := by rfl)
    (he : starEach (.Name "state" p1 :: [e]) X.env = (false, eval (.Name "state" p1) X.env) :: starEach [e] X.env := by rfl) (he2 : starEach [e] X.env = (false, eval e X.env) :: starEach [] X.env := by rfl) (hpl : (backTo pos (starEach [e] X.env)).any (·.1) = false := by rfl) : DHP X (OS p W n) (OS p W (n + 1)) ds (.Call (.Name "_law_draw" pc) (.Name "state" p1 :: [e]) [] pos) (fun x => ∃ r : Int, x = .int r ∧ 0 ≤ r ∧ r < many) :=
  dhp_ofR (dh_callS (c := 1) i D hr (dah_of (da_one ha he2)) (fun xs exs => ⟨many, exs, h0, h1, rfl, fun r a b => ⟨_, rfl, r, rfl, a, b⟩⟩) hn hd hN hv (by decide) (by decide) hg (by decide) he hpl)
/-- one of a text's signs, one of a list's items -/
theorem dhp_pickS {X : Cx} {ds : List Sl} {a e : Expr} {pos pos2 p1 pc : Pos} {n : Nat} {p : Pl} {W : Addr → Prop} {T : Str} {k : Int} (i : Nat) (D : Def X.prog X.w X.K X.mg X.base "_law_draw" 2 P_draw (spS X.K true R_draw)) (hr : Room 2 X.A) (hT : DX X (OS p W n) ds a (.str T)) (ha : DX X (OS p W n) ds e (.int k)) (hk : k = (T.length : Int)) (h0 : 0 < T.length) (h1 : T.length ≤ 1000) (hn : n + 1 ≤ NMX) (hd : ds[i]? = some (.v (.ref p.st)) := by rfl) (hN : X.N[i]? = some "state" := by rfl)
    (hv : Vis X.env.scope "state" := by first | exact Or.inl rfl | exact Or.inr (Or.inl rfl) | exact Or.inr (Or.inr rfl)) (hg : Gl X "_law_draw" := by rfl)
    (he : starEach (.Name "state" p1 :: [e]) X.env = (false, eval (.Name "state" p1) X.env) :: starEach [e] X.env := by rfl) (he2 : starEach [e] X.env = (false, eval e X.env) :: starEach [] X.env := by rfl) (hpl : (backTo pos (starEach [e] X.env)).any (·.1) = false := by rfl)
    (hs : PlainIx (.Call (.Name "_law_draw" pc) (.Name "state" p1 :: [e]) [] pos) := by intro _ _; rfl) : DHP X (OS p W n) (OS p W (n + 1)) ds (.Subscript a (.Call (.Name "_law_draw" pc) (.Name "state" p1 :: [e]) [] pos) pos2) (fun x => ∃ c ∈ T.cps.toList, x = .str ⟨#[c]⟩) :=
  dh_ix (P := fun y => y = .str T) (Q := fun x => ∃ r : Int, x = .int r ∧ 0 ≤ r ∧ r < k) (Sm.refl _) ix_str (dhp_of hT) (dhp_draw i D hr ha (by omega) (by omega) hn hd hN hv hg he he2 hpl) (fun x y ex ⟨r, ey, r0, r1⟩ => by
    subst ex ey
    have hlen : T.cps.toList.length = T.length := by rw [Array.length_toList] <;> rfl
    obtain ⟨c, hc, hm⟩ := at_nat (xs := T.cps.toList) r0 (by omega)
    exact ⟨.str ⟨#[c]⟩, ⟨c, hm, rfl⟩, op2_ixS hc (by omega)⟩) hs
theorem dhp_pickL {X : Cx} {ds : List Sl} {a e : Expr} {pos pos2 p1 pc : Pos} {n : Nat} {p : Pl} {W : Addr → Prop} {l : List PyData} {k : Int} (i : Nat) (D : Def X.prog X.w X.K X.mg X.base "_law_draw" 2 P_draw (spS X.K true R_draw)) (hr : Room 2 X.A) (hT : DX X (OS p W n) ds a (.list l)) (ha : DX X (OS p W n) ds e (.int k)) (hk : k = (l.length : Int)) (h0 : 0 < l.length) (h1 : l.length ≤ 1000) (hn : n + 1 ≤ NMX) (hd : ds[i]? = some (.v (.ref p.st)) := by rfl) (hN : X.N[i]? = some "state" := by rfl)
    (hv : Vis X.env.scope "state" := by first | exact Or.inl rfl | exact Or.inr (Or.inl rfl) | exact Or.inr (Or.inr rfl)) (hg : Gl X "_law_draw" := by rfl)
    (he : starEach (.Name "state" p1 :: [e]) X.env = (false, eval (.Name "state" p1) X.env) :: starEach [e] X.env := by rfl) (he2 : starEach [e] X.env = (false, eval e X.env) :: starEach [] X.env := by rfl) (hpl : (backTo pos (starEach [e] X.env)).any (·.1) = false := by rfl)
    (hs : PlainIx (.Call (.Name "_law_draw" pc) (.Name "state" p1 :: [e]) [] pos) := by intro _ _; rfl) : DHP X (OS p W n) (OS p W (n + 1)) ds (.Subscript a (.Call (.Name "_law_draw" pc) (.Name "state" p1 :: [e]) [] pos) pos2) (fun x => x ∈ l) :=
  dh_ix (P := fun y => y = .list l) (Q := fun x => ∃ r : Int, x = .int r ∧ 0 ≤ r ∧ r < k) (Sm.refl _) ix_list (dhp_of hT) (dhp_draw i D hr ha (by omega) (by omega) hn hd hN hv hg he he2 hpl) (fun x y ex ⟨r, ey, r0, r1⟩ => by
    subst ex ey
    obtain ⟨z, hz, hm⟩ := at_nat (xs := l) r0 (by omega)
    exact ⟨z, hm, op2_ixL hz⟩) hs
def R_of : RelS := fun p xs c z => ∃ l, xs = [.list l] ∧ 0 < l.length ∧ l.length ≤ 1000 ∧ c = 1 ∧ ∀ x ∈ l, z (.d x)
theorem b_law_of (m : Free mg) (D : Def P w K mg base "_law_draw" 2 P_draw (spS K true R_draw)) : BodyOkS P w K mg base N_law_of "_law_of" s_law_of true 2 R_of := by
  intro f cdv A outer s H E F0 p n xs c z hr hR hn
  obtain ⟨l, rfl, l0, l1, rfl, hz⟩ := hR
  exact dw_retHP (M := Sm0 p n F0 H) (O' := OS p (fun q => H q = none) (n + 1)) (P := fun x => x ∈ l) (os_sm _ _ _ _) (dhp_pickL 0 D hr (dx_var 1) (dx_len m.len (dl_of (dx_var 1))) rfl l0 l1 hn) fun x hx => ⟨⟨n + 1, Nat.le_refl _, rfl⟩, hz x hx⟩
/-! names of options, letters -/
def NAMES : List Str := ["ab", "abc", "abd", "abcd", "a-b", "ba", "bab", "xy"]
theorem names_ok : ∀ s ∈ NAMES, isName (.str s) = true := by decide +kernel
def R_letter : RelS := fun p xs c z => xs = [] ∧ c = 2 ∧ ∀ s : Str, letOk (.str s) = true → z (.d (.str s))
def LT5 : Str := "abcx0"
theorem lt5_ok : ∀ c ∈ LT5.cps.toList, letOk (.str ⟨#[c]⟩) = true := by decide +kernel
theorem letf_ok : ∀ c ∈ LETF.cps.toList, letOk (.str ⟨#[c]⟩) = true := by decide +kernel
theorem b_law_letter (m : Free mg) (D : Def P w K mg base "_law_draw" 2 P_draw (spS K true R_draw)) : BodyOkS P w K mg base N_law_letter "_law_letter" s_law_letter true 2 R_letter := by
  intro f cdv A outer s H E F0 p n xs c z hr hR hn
  obtain ⟨rfl, rfl, hz⟩ := hR
  have hn' : n + 2 ≤ NMX := hn
  refine dw_setHP (M := Sm0 p n F0 H) (O' := OS p (fun q => H q = none) (n + 1)) 1 (os_sm _ _ _ _) sc_law_letter.nd (dhp_draw 0 D hr dx_int (by decide) (by decide) (by omega)) fun x ⟨r, ex, r0, r1⟩ => ?_
  subst ex
  show DW _ (Sm0 p (n + 1) F0 H) _ _ _
  refine dw_ifR (dt_cmp op_lt (dx_var 1) dx_int (op2_II (h := fun i j => .bool (decide (i < j))) fun _ => .bl _)) (fun h => dw_ret (x := .str "") dx_str ⟨⟨n + 1, by omega, rfl⟩, hz _ (by decide +kernel)⟩) (fun h => ?_)
  refine dw_ifR (dt_cmp op_lt (dx_var 1) dx_int (op2_II (h := fun i j => .bool (decide (i < j))) fun _ => .bl _)) (fun h => ?_) (fun h => ?_)
  · exact dw_retHP (M := Sm0 p (n + 1) F0 H) (O' := OS p (fun q => H q = none) (n + 1 + 1)) (os_sm _ _ _ _) (dhp_pickS (T := LT5) 0 D hr dx_str dx_int (by decide +kernel) (by decide +kernel) (by decide +kernel) (by omega)) fun x ⟨c, hc, ex⟩ => ⟨⟨n + 2, Nat.le_refl _, rfl⟩, by subst ex; exact hz _ (lt5_ok c hc)⟩
  · exact dw_retHP (M := Sm0 p (n + 1) F0 H) (O' := OS p (fun q => H q = none) (n + 1 + 1)) (os_sm _ _ _ _) (dhp_pickS (T := LETF) 0 D hr dx_str dx_int (by decide +kernel) (by decide +kernel) (by decide +kernel) (by omega)) fun x ⟨c, hc, ex⟩ => ⟨⟨n + 2, Nat.le_refl _, rfl⟩, by subst ex; exact hz _ (letf_ok c hc)⟩
end
end KS
end
section
set_option Elab.async false
set_option linter.all false
set_option maxRecDepth 100000
set_option maxHeartbeats 2000000
namespace KS
open PySem PySem.Spec PyProof.Rows L2 DS KT KM KD KL
theorem e_cps : (("" : Str)).cps = #[] := by decide +kernel
theorem fold_cps : ∀ (ss : List Str) (a : Array Nat), (ss.foldl (fun acc p => acc ++ (("" : Str)).cps ++ p.cps) a).toList = a.toList ++ ss.flatMap fun p => p.cps.toList
  | [], a => by simp
  | s :: ss, a => by
    rw [List.foldl_cons, fold_cps ss, e_cps]
    simp
theorem join_list (ss : List Str) : (Txt.join "" ss).cps.toList = ss.flatMap fun p => p.cps.toList := by
  show ((ss.drop 1).foldl (fun acc p => acc ++ (("" : Str)).cps ++ p.cps) (ss.headD Str.empty).cps).toList = _
  rw [fold_cps]
  cases ss with
  | nil => rfl
  | cons s ss => rfl
theorem app_list (a b : Str) : (a ++ b).cps.toList = a.cps.toList ++ b.cps.toList := by
  show (a.cps ++ b.cps).toList = _
  rw [Array.toList_append]
/-- texts of one sign each -/
def Signs (ss : List Str) : Prop := ∀ s ∈ ss, ∃ c ∈ LETD.cps.toList, s = ⟨#[c]⟩
theorem signs_cps : ∀ {ss : List Str}, Signs ss → ∃ l : List Nat, (ss.flatMap fun p => p.cps.toList) = l ∧ l.length = ss.length ∧ ∀ c ∈ l, c ∈ LETD.cps.toList
  | [], _ => ⟨[], rfl, rfl, fun c h => (nomatch h)⟩
  | s :: ss, h => by
    obtain ⟨l, e, hl, hm⟩ := signs_cps (ss := ss) fun s hs => h s (List.mem_cons_of_mem _ hs)
    obtain ⟨c, hc, rfl⟩ := h s List.mem_cons_self
    refine ⟨c :: l, ?_, by rw [List.length_cons, List.length_cons, hl], fun d hd => ?_⟩
    · rw [List.flatMap_cons, e]; rfl
    · rcases List.mem_cons.mp hd with e | hd
      · rw [e]; exact hc
      · exact hm d hd
theorem dash_not : ∀ c ∈ LET.cps.toList, (⟨#[c]⟩ : Str) ≠ "-" := by decide +kernel
theorem let_letd : ∀ c ∈ LET.cps.toList, c ∈ LETD.cps.toList := by decide +kernel
theorem name_of {c1 c2 : Nat} {ss : List Str} (h1 : c1 ∈ LET.cps.toList) (h2 : c2 ∈ LET.cps.toList) (hs : Signs ss) (hl : ss.length ≤ 10) : isName (.str ((⟨#[c1]⟩ ++ Txt.join "" ss) ++ ⟨#[c2]⟩)) = true := by
  obtain ⟨l, e, hll, hm⟩ := signs_cps hs
  have ec : (((⟨#[c1]⟩ : Str) ++ Txt.join "" ss) ++ (⟨#[c2]⟩ : Str)).cps.toList = c1 :: (l ++ [c2]) := by
    rw [app_list, app_list, join_list, e]
    rfl
  have elen : (((⟨#[c1]⟩ : Str) ++ Txt.join "" ss) ++ (⟨#[c2]⟩ : Str)).length = l.length + 2 := by
    show Array.size _ = _
    rw [← Array.length_toList, ec, List.length_cons, List.length_append]
    rfl
  generalize ((⟨#[c1]⟩ : Str) ++ Txt.join "" ss) ++ (⟨#[c2]⟩ : Str) = z at ec elen
  show ((((decide ((2 : Int) ≤ (z.length : Int)) && decide ((z.length : Int) ≤ 12)) && z.cps.toList.all (fun c => decide (c ∈ LETD.cps.toList)))) && (!decide (sgn (z.cps.toList.getD 0 0) = "-") && !decide (sgn (z.cps.toList.getD (z.length - 1) 0) = "-"))) = true
  have ha : z.cps.toList.all (fun c => decide (c ∈ LETD.cps.toList)) = true := by
    rw [ec, List.all_eq_true]
    intro c hc
    refine decide_eq_true ?_
    rcases List.mem_cons.mp hc with e | hc
    · rw [e]; exact let_letd c1 h1
    · rcases List.mem_append.mp hc with hc | hc
      · exact hm c hc
      · rw [List.mem_singleton.mp hc]; exact let_letd c2 h2
  have hh : z.cps.toList.getD 0 0 = c1 := by rw [ec]; rfl
  have ht : z.cps.toList.getD (z.length - 1) 0 = c2 := by
    rw [ec, elen]
    show (c1 :: (l ++ [c2])).getD (l.length + 1) 0 = c2
    rw [List.getD_eq_getElem?_getD, List.getElem?_cons_succ, List.getElem?_append_right (Nat.le_refl _), Nat.sub_self]
    rfl
  rw [ha, hh, ht, elen, decide_eq_true (show (2 : Int) ≤ ((l.length + 2 : Nat) : Int) by omega), decide_eq_true (show ((l.length + 2 : Nat) : Int) ≤ 12 by omega), decide_eq_false (show ¬ sgn c1 = "-" from dash_not c1 h1), decide_eq_false (show ¬ sgn c2 = "-" from dash_not c2 h2)]
  rfl
theorem paired_signs : ∀ {xs ys : List PyData}, Paired (fun _ y => ∃ c ∈ LETD.cps.toList, y = PyData.str ⟨#[c]⟩) xs ys → ∃ ss : List Str, ys = tX ss ∧ ss.length = xs.length ∧ Signs ss
  | _, _, .nil => ⟨[], rfl, rfl, fun s h => (nomatch h)⟩
  | _, _, .cons ⟨c, hc, e⟩ t => by
    obtain ⟨ss, e1, e2, e3⟩ := paired_signs t
    subst e e1
    refine ⟨⟨#[c]⟩ :: ss, rfl, by rw [List.length_cons, List.length_cons, e2], fun s hs => ?_⟩
    rcases List.mem_cons.mp hs with e | hs
    · exact ⟨c, hc, e⟩
    · exact e3 s hs
theorem signs_sum : ∀ {ss : List Str}, Signs ss → (ss.map (·.length)).sum = ss.length
  | [], _ => rfl
  | s :: ss, h => by
    obtain ⟨c, _, rfl⟩ := h s List.mem_cons_self
    rw [List.map_cons, List.sum_cons, signs_sum fun s hs => h s (List.mem_cons_of_mem _ hs), List.length_cons]
    show 1 + ss.length = _
    omega
section
variable {P : Program} {w : World} {K : PySem.W.Frag} {mg : Str → Option Value} {base : Heap} {Cb Ck fI : Addr}
def R_option_name : RelS := fun p xs c z => xs = [] ∧ c = 20 ∧ ∀ s : Str, isName (.str s) = true → z (.d (.str s))
theorem b_law_option_name (m : Free mg) (D : Def P w K mg base "_law_draw" 2 P_draw (spS K true R_draw)) : BodyOkS P w K mg base N_law_option_name "_law_option_name" s_law_option_name true 2 R_option_name := by
  intro f cdv A outer s H E F0 p n xs c z hr hR hn
  obtain ⟨rfl, rfl, hz⟩ := hR
  have hn' : n + 20 ≤ NMX := hn
  refine dw_ifH (M := Sm0 p n F0 H) (O' := OS p (fun q => H q = none) (n + 1)) (os_sm _ _ _ _) (dth_cmp (P := fun x => ∃ r : Int, x = .int r ∧ 0 ≤ r ∧ r < 4) (Q := fun x => x = .int 0) (os_sm _ _ _ _) op_gt (dhp_draw 0 D hr dx_int (by decide) (by decide) (by omega)) (dhp_of dx_int) fun x y ⟨r, ex, _⟩ ey => ⟨decide (0 < r), by subst ex ey; exact op2_II (h := fun i j => .bool (decide (j < i))) fun _ => .bl _⟩) ?_ ?_
  · exact dw_retHP (M := Sm0 p (n + 1) F0 H) (O' := OS p (fun q => H q = none) (n + 1 + 1)) (os_sm _ _ _ _) (dhp_pickL (l := tX NAMES) 0 D hr (dx_lst (da_cons dx_str (da_cons dx_str (da_cons dx_str (da_cons dx_str (da_cons dx_str (da_cons dx_str (da_cons dx_str (da_one dx_str)))))))) (by show 8 ≤ 100000; decide)) dx_int (by decide +kernel) (by decide +kernel) (by decide +kernel) (by omega)) fun x hx => ⟨⟨n + 2, by omega, rfl⟩, by
      obtain ⟨s, hs, rfl⟩ := List.mem_map.mp hx
      exact hz s (names_ok s hs)⟩
  · refine dw_nil ⟨os_sm _ _ _ _, ?_⟩
    show DW _ (Sm0 p (n + 1) F0 H) _ _ _
    refine dw_set 1 sc_law_option_name.nd dx_str ?_
    refine dw_setHP (M := Sm0 p (n + 1) F0 H) (O' := OS p (fun q => H q = none) (n + 12)) (P := fun x => ∃ ss, (Signs ss ∧ ss.length ≤ 10) ∧ x = .str (Txt.join "" ss)) 2 (os_sm _ _ _ _) sc_law_option_name.nd (dh_join (Ps := fun ss => Signs ss ∧ ss.length ≤ 10) dx_str (dh_imp (dh_lc (own := [("k", 3)]) (g := tg1 3) (O1 := OS p (fun q => H q = none) (n + 2)) (O2 := OS p (fun q => H q = none) (n + 12)) (fun xs => ∃ k : Nat, k ≤ 10 ∧ xs = intsD 0 k) (fun xs i => OS p (fun q => H q = none) (n + 2 + min i 10)) (fun _ y => ∃ c ∈ LETD.cps.toList, y = .str ⟨#[c]⟩) rfl sc_law_option_name.nd ?_ (blkOk_by (N := N_law_option_name) (sc := defScope s_law_option_name) (by decide +kernel)) ?_ (fun _ _ => os_sm _ _ _ _) (fun xs H _ j => j.mono (by omega)) (fun xs i H _ j => j.mono (by omega)) ?_ (fun O s H C cl fp => dtg1 3 sc_law_option_name.nd) (fun xs x _ hx => ⟨_, rfl⟩) ?_) ?_) ?_) ?_
    · exact dip_rngH (m := 10) m.range (dhp_imp (dhp_draw (many := 11) 0 D hr dx_int (by decide) (by decide) (by omega)) fun x ⟨r, e, a, b⟩ => ⟨r, e, a, by omega⟩) (by decide)
    · rintro xs ⟨k, hk, rfl⟩
      rw [intsD_len]; omega
    · rintro xs H ⟨k, hk, rfl⟩ j
      exact j.mono (by rw [intsD_len]; omega)
    · rintro s1 H1 C cl fp xs i x ds1 ⟨k, hk, rfl⟩ hx e
      cases e
      obtain ⟨hi, rfl⟩ := intsD_get hx
      have e1 : n + 2 + min (i + 1) 10 = n + 2 + min i 10 + 1 := by omega
      show DHP _ (OS p (fun q => H q = none) (n + 2 + min i 10)) (OS p (fun q => H q = none) (n + 2 + min (i + 1) 10)) _ _ _
      rw [e1]
      exact dhp_pickS (T := LETD) 0 D hr (dx_is (dx_addS (dx_var 1) dx_str (by decide +kernel)) (congrArg PyData.str (by decide +kernel))) dx_int (by decide +kernel) (by decide +kernel) (by decide +kernel) (by omega)
    · rintro H0 F' H' v ⟨xs, ys, ⟨k, hk, rfl⟩, hp, r⟩
      obtain ⟨ss, rfl, hl, hs⟩ := paired_signs hp
      rw [intsD_len] at hl
      exact ⟨ss, ⟨hs, by omega⟩, r⟩
    · rintro ss ⟨hs, hl⟩
      rw [signs_sum hs]; omega
    · rintro x ⟨ss, ⟨hs, hl⟩, rfl⟩
      show DW _ (Sm0 p (n + 12) F0 H) _ _ _
      have hjl : (Txt.join "" ss).length ≤ 10 := by
        obtain ⟨l, e, hll, _⟩ := signs_cps hs
        show Array.size _ ≤ 10
        rw [← Array.length_toList, join_list, e]; omega
      refine dw_retHP (M := Sm0 p (n + 12) F0 H) (O' := OS p (fun q => H q = none) (n + 12 + 1 + 1)) (P := fun x => ∃ s, x = .str s ∧ isName (.str s) = true) (os_sm _ _ _ _) (dh_op (O1 := OS p (fun q => H q = none) (n + 12 + 1)) (P := fun x => ∃ c ∈ LET.cps.toList, x = .str (⟨#[c]⟩ ++ Txt.join "" ss)) (Q := fun x => ∃ c ∈ LET.cps.toList, x = .str ⟨#[c]⟩) (os_sm _ _ _ _) op_add_str (dh_op (O1 := OS p (fun q => H q = none) (n + 12 + 1)) (P := fun x => ∃ c ∈ LET.cps.toList, x = .str ⟨#[c]⟩) (Q := fun x => x = .str (Txt.join "" ss)) (os_sm _ _ _ _) op_add_str (dhp_pickS (T := LET) 0 D hr (dx_var 1) dx_int (by decide +kernel) (by decide +kernel) (by decide +kernel) (by omega)) (dhp_of (dx_var 2)) ?_) (dhp_pickS (T := LET) 0 D hr (dx_var 1) dx_int (by decide +kernel) (by decide +kernel) (by decide +kernel) (by omega)) ?_) fun x ⟨s, ex, hs⟩ => ⟨⟨n + 14, by omega, rfl⟩, by subst ex; exact hz s hs⟩
      · rintro x y ⟨c, hc, rfl⟩ rfl
        refine ⟨_, ⟨c, hc, rfl⟩, op2_pure fun F H v w Q e d1 d2 q => ⟨_, _, d1.str_eq, d2.str_eq, Evl.sz_of ?_, q _ (.str _)⟩⟩
        show 1 + _ ≤ _
        omega
      · rintro x y ⟨c, hc, rfl⟩ ⟨c2, hc2, rfl⟩
        refine ⟨_, ⟨_, rfl, name_of hc hc2 hs hl⟩, op2_pure fun F H v w Q e d1 d2 q => ⟨_, _, d1.str_eq, d2.str_eq, Evl.sz_of ?_, q _ (.str _)⟩⟩
        have : ((⟨#[c]⟩ : Str) ++ Txt.join "" ss).length = 1 + (Txt.join "" ss).length := by
          show Array.size (_ ++ _) = _
          rw [Array.size_append]; rfl
        rw [this]
        show _ + 1 ≤ _
        omega
end
end KS
end
section
set_option Elab.async false
set_option linter.all false
set_option maxRecDepth 100000
set_option maxHeartbeats 2000000
namespace DS
open PySem PySem.Spec PyProof.Rows L2 LamX
open Evl (Ex ex_l ex_t ex_rd)
section
variable {X : Cx} {M : Frm} {ds : List Sl} {a b : Expr} {pos p1 p2 p3 : Pos} {C : Cn} {rest : List Stmt}
/-- a, b = e, e drawn, by a tuple -/
theorem dw_unpH {O' : Own} {P : PyData → Prop} {tg e : Expr} {is : List Nat} {g : PyData → List Sl → Option (List Sl)} (sm : Sm M.O O') (he : DHP X M.O O' ds e P) (hg : DTg X O' tg is g) (h : ∀ x, P x → ∃ ds', g x ds = some ds' ∧ DW X (M.wi O' sm) ds' rest C) (hs : swapsWithSole [tg] e pos.line X.env = pure false := by rfl) (hw : swappedStores [tg] e X.env = pure none := by rfl)
    (h1 : (assignEach [tg] X.env).map (·.2) = [assign tg X.env] := by rfl) : DW X M ds (.Assign [tg] e pos :: rest) C := by
  refine dw_seqH (N := fun O2 d => O2 = O' ∧ ∃ x, P x ∧ g x ds = some d) ?_ fun O2 d m ⟨e1, x, px, e2⟩ => by
    subst e1
    obtain ⟨ds', h1, h2⟩ := h x px
    rw [h1] at e2; cases e2
    exact h2
  exact ps_mono (ps_asg he hg hs hw h1) fun D σ H ⟨F, a, q1, _⟩ => ⟨F, a.st, fun v F' H' g' j ⟨x, d, px⟩ => by
    obtain ⟨ds', h1, h2⟩ := h x px
    have a1 : At X.K (M.wi O' sm) F' σ H' ds := a.growH sm g' j
    exact ⟨F', ds, x, ds', a1.st, d, h1, fun σ' st' _ _ => q1 _ H' F' ds' O' sm g'.f ⟨st', a1.g⟩ ⟨rfl, x, px, h1⟩⟩⟩
end
end DS
namespace KM
open PySem DS L2 PyProof.Rows
/-- all fit -/
abbrev Gd (V : PyData → Bool) (word : Str) (os : List PyData) : Prop := gF V word os 0 [] = .none
theorem gF_snoc {V : PyData → Bool} {word : Str} {o : PyData} : ∀ {r : List PyData} {n : Nat} {prev : List PyData}, gF V word r n prev = .none → fits V (prev ++ r) o = true → gF V word (r ++ [o]) n prev = .none
  | [], n, prev, _, h => by
    rw [List.append_nil] at h
    rw [List.nil_append, gF_cons, if_pos h]
    rfl
  | x :: r, n, prev, h, hf => by
    rw [gF_cons] at h
    by_cases c : fits V prev x = true
    · rw [if_pos c] at h
      rw [List.cons_append, gF_cons, if_pos c]
      exact gF_snoc h (by rw [List.append_assoc]; exact hf)
    · rw [if_neg c] at h; cases h
theorem gd_snoc {V : PyData → Bool} {word : Str} {o : PyData} {r : List PyData} (h : Gd V word r) (hf : fits V r o = true) : Gd V word (r ++ [o]) := gF_snoc h (by rw [List.nil_append]; exact hf)
theorem gF_all {V : PyData → Bool} {word : Str} : ∀ {r : List PyData} {n : Nat} {prev : List PyData}, gF V word r n prev = .none → ∀ o ∈ r, V o = true
  | [], _, _, _ => fun o h => (nomatch h)
  | x :: r, n, prev, h => by
    rw [gF_cons] at h
    by_cases c : fits V prev x = true
    · rw [if_pos c] at h
      intro o ho
      rcases List.mem_cons.mp ho with e | ho
      · subst e
        unfold fits at c
        rw [Bool.and_eq_true] at c
        exact c.1
      · exact gF_all h o ho
    · rw [if_neg c] at h; cases h
theorem isOf_strOk {s sg : Str} {lo hi : Int} (h : isOf (.str s) sg lo hi = true) (hs : sg.cps.toList.all (fun c => decide (c < 0x110000)) = true) : PyData.strOk s = true := by
  have h3 : ((decide (lo ≤ (s.length : Int)) && decide ((s.length : Int) ≤ hi)) && s.cps.toList.all (fun c => decide (c ∈ sg.cps.toList))) = true := h
  rw [Bool.and_eq_true] at h3
  unfold PyData.strOk
  rw [← Array.all_toList, List.all_eq_true]
  intro c hc
  exact List.all_eq_true.mp hs c (of_decide_eq_true (List.all_eq_true.mp h3.2 c hc))
theorem kin_ok : ∀ s ∈ KIN, s.length ≤ 100 ∧ PyData.strOk s = true := by decide +kernel
theorem ari_ok : ∀ s ∈ ARI, s.length ≤ 100 ∧ PyData.strOk s = true := by decide +kernel
theorem str_okN {s : Str} {n : Nat} (h1 : s.length ≤ 100) (h2 : PyData.strOk s = true) : okN n (.str s) = true := by
  unfold okN
  rw [h2, decide_eq_true h1]
  rfl
theorem tup_okN {xs : List PyData} {n : Nat} (h1 : xs.length ≤ 100) (h2 : ∀ x ∈ xs, okN n x = true) : okN (n + 1) (.tuple xs) = true := by
  unfold okN
  rw [decide_eq_true h1, Bool.true_and, List.all_eq_true]
  exact h2
theorem lst_okN {xs : List PyData} {n : Nat} (h1 : xs.length ≤ 100) (h2 : ∀ x ∈ xs, okN n x = true) : okN (n + 1) (.list xs) = true := by
  unfold okN
  rw [decide_eq_true h1, Bool.true_and, List.all_eq_true]
  exact h2
theorem opt_ok {o : PyData} (h : isOption o = true) : okN 1 o = true := by
  obtain ⟨a, b, c, rfl, h1, h2, h3⟩ := isOption_tup h
  obtain ⟨t, e, _, hl⟩ := isName_str h1
  cases e
  obtain ⟨u, e, hl2⟩ := letOk_str h2
  cases e
  refine tup_okN (by show 3 ≤ 100; decide) fun x hx => ?_
  rcases List.mem_cons.mp hx with e | hx
  · subst e; exact str_okN (by omega) (KL.name_strOk h1)
  rcases List.mem_cons.mp hx with e | hx
  · subst e; exact str_okN (by omega) (isOf_strOk (sg := LETF) h2 (by decide +kernel))
  · cases List.mem_singleton.mp hx
    exact str_okN (kin_ok c h3).1 (kin_ok c h3).2
theorem pla_ok {o : PyData} (h : isPlace o = true) : okN 1 o = true := by
  obtain ⟨a, b, rfl, h1, h3⟩ := isPlace_tup h
  obtain ⟨t, e, _, hl⟩ := isName_str h1
  cases e
  refine tup_okN (by show 2 ≤ 100; decide) fun x hx => ?_
  rcases List.mem_cons.mp hx with e | hx
  · subst e; exact str_okN (by omega) (KL.name_strOk h1)
  · cases List.mem_singleton.mp hx
    exact str_okN (ari_ok b h3).1 (ari_ok b h3).2
end KM
namespace KS
open PySem PySem.Spec PyProof.Rows L2 DS KT KM KD KL
section
variable {P : Program} {w : World} {K : PySem.W.Frag} {mg : Str → Option Value} {base : Heap} {Cb Ck fI : Addr}
def R_more : RelS := fun p xs c z => ∃ many : Nat, xs = [.list [], .int (many : Int)] ∧ many ≤ 24 ∧ 23 * many ≤ c ∧ ∀ os, Gd isOption "options" os → os.length ≤ many → z (.d (.list os))
theorem paired_len {R : PyData → PyData → Prop} : ∀ {xs ys : List PyData}, Paired R xs ys → ys.length = xs.length
  | _, _, .nil => rfl
  | _, _, .cons _ t => by rw [List.length_cons, List.length_cons, paired_len t]
theorem opts_shaped {os : List PyData} (h : ∀ o ∈ os, isOption o = true) (hl : os.length ≤ 100) (f : PyData → Bool) : SeqAt.shaped (.list (os.filter f)) = true :=
  ok_shaped (n := 2) (lst_okN (Nat.le_trans (List.length_filter_le _ _) hl) fun x hx => opt_ok (h x (List.mem_filter.mp hx).1)) (by decide)
theorem isOption_mk {a b c : Str} (h1 : isName (.str a) = true) (h2 : letOk (.str b) = true) (h3 : c ∈ KIN) : isOption (.tuple [.str a, .str b, .str c]) = true := by
  show (isName (.str a) && (letOk (.str b) && inKin (.str c))) = true
  rw [h1, h2]
  show decide (c ∈ KIN) = true
  exact decide_eq_true h3
theorem opt_ix1 {o : PyData} (h : isOption o = true) : ∃ a c, o = .tuple [.str a, .str (txt 1 o), .str c] := by
  obtain ⟨a, b, c, rfl, _⟩ := isOption_tup h
  exact ⟨a, c, rfl⟩
theorem b_law_more (m : Free mg) (D0 : Def P w K mg base "_law_draw" 2 P_draw (spS K true R_draw)) (D1 : Def P w K mg base "_law_option_name" 3 ["state"] (spS K true R_option_name)) (D2 : Def P w K mg base "_law_letter" 3 ["state"] (spS K true R_letter)) : BodyOkS P w K mg base N_law_more "_law_more" s_law_more true 3 R_more := by
  intro f cdv A outer s H E F0 p n xs c z hr hR hn
  obtain ⟨many, rfl, hm, hc, hz⟩ := hR
  have hle : n + 23 * many ≤ n + c := by omega
  have hu := hr.units
  have hN := sc_law_more.nd
  refine dw_setO 3 hN (do_list m.list (dl_of (dx_var 1))) ?_
  refine dw_forH (M := Sm0 p n F0 H) (O1 := OS p (fun q => H q = none) n) (Pz := fun ys => ys = intsD 0 (many : Int).toNat) (is := [4]) (g := tg1 4) (Sm.refl _) PassesOwn.never rfl (dip_of (di_rng1 m.range (dx_var 2) (by omega) (by omega))) (fun O' _ => dtg1 4 hN)
    (fun xs i O' ds => O' = OS p (fun q => H q = none) (n + 23 * i) ∧ ∃ os, Gd isOption "options" os ∧ os.length ≤ i ∧ ∃ a b c d e f, ds = [.v (.ref p.st), .d (.list []), .d (.int (many : Int)), .l os, a, b, c, d, e, f]) ?_ ?_ ?_
  · rintro xs rfl
    exact ⟨rfl, [], rfl, Nat.le_refl _, .u, .u, .u, .u, .u, .u, rfl⟩
  · rintro xs rfl i x O' ds1 sm hx ⟨rfl, os, hg, hl, a, b, c, d, e, f2, rfl⟩
    obtain ⟨hi, rfl⟩ := intsD_get hx
    have hi : i < many := hi
    refine ⟨_, rfl, ?_⟩
    show DW _ (Sm0 p (n + 23 * i) F0 H) _ _ _
    have hall : ∀ o ∈ os, isOption o = true := gF_all hg
    refine dw_unpH (M := Sm0 p (n + 23 * i) F0 H) (O' := OS p (fun q => H q = none) (n + 23 * i + 20 + 2)) (P := fun x => ∃ xs, x = .tuple xs ∧ ∃ s t : Str, xs = [.str s, .str t] ∧ isName (.str s) = true ∧ letOk (.str t) = true) (is := [8, 6]) (g := tg2 8 6) (os_sm _ _ _ _) (dh_tup (dah_cons (P := fun x => ∃ s, x = .str s ∧ isName (.str s) = true) (Ps := fun l => ∃ t, l = [.str t] ∧ letOk (.str t) = true) (O1 := OS p (fun q => H q = none) (n + 23 * i + 20)) (os_sm _ _ _ _)
      (dhp_ofR (dh_callS (c := 20) 0 D1 hr (dah_nil) (fun xs e => ⟨e, rfl, fun s hs => ⟨_, rfl, s, rfl, hs⟩⟩) (by omega)))
      (dah_cons (P := fun x => ∃ s, x = .str s ∧ letOk (.str s) = true) (Ps := fun l => l = []) (O1 := OS p (fun q => H q = none) (n + 23 * i + 20 + 2)) (os_sm _ _ _ _) (dhp_ofR (dh_callS (c := 2) 0 D2 hr (dah_nil) (fun xs e => ⟨e, rfl, fun s hs => ⟨_, rfl, s, rfl, hs⟩⟩) (by omega))) dah_nil (fun x xs ⟨t, e, ht⟩ e2 => ⟨t, by rw [e, e2], ht⟩)) (fun x xs ⟨s, e, hs⟩ ⟨t, e2, ht⟩ => ⟨s, t, by rw [e, e2], hs, ht⟩)) (os_sm _ _ _ _) (fun xs ⟨s, t, e, _⟩ => by subst e; show 2 ≤ 100000; decide)) (dtg2 8 6 rfl hN (gn 8 hN) (gn 6 hN)) ?_
    rintro x ⟨xs, rfl, nm1, lt, rfl, hnm, hlt⟩
    refine ⟨_, rfl, ?_⟩
    show DW _ (Sm0 p (n + 23 * i + 22) F0 H) _ _ _
    refine dw_set (M := Sm0 p (n + 23 * i + 22) F0 H) (x := .bool (!PyData.eqv (.list (os.filter fun o => decide (txt 1 o = lt))) (.list []))) 5 hN (dx_ne hu (dx_ofO (dg_imp (do_lc (own := [("one", 9)]) (xs := os) (g := tg1 9) (fun o => decide (txt 1 o = lt)) (fun x => x) rfl hN (dig_own (dlt_var 3)) (blkOk_by (N := N_law_more) (sc := defScope s_law_more) (by decide +kernel)) (by omega) (fun s H C cl fp => dtg1 9 hN) (fun x hx => ⟨_, rfl⟩) (fun s H C cl fp o ds1 ho e => ?_) (fun s H C cl fp o ds1 ho _ e => ?_)) fun _ _ _ _ r => ?_)) (dx_lst da_nil) (opts_shaped hall (by omega) _) (by decide +kernel)) ?_
    · cases e
      obtain ⟨a1, c1, e1⟩ := opt_ix1 (hall o ho)
      exact pts_one (dt_cmp op_eq (dx_ixT (i := 1) (dx_is (dx_var 9) e1) dx_int at1) (dx_var 6) op2_eqS)
    · cases e
      exact dx_var 9
    · rw [List.map_id'] at r
      exact r
    rw [eqv_nil]
    refine dw_set (M := Sm0 p (n + 23 * i + 22) F0 H) (x := .str (if os.filter (fun o => decide (txt 1 o = lt)) = [] then lt else "")) 6 hN (dx_if (k := !decide (os.filter (fun o => decide (txt 1 o = lt)) = [])) (dt_val (dx_var 5)) (fun h => dx_is dx_str ?_) (fun h => dx_is (dx_var 6) ?_)) ?_
    · have h' : decide (os.filter (fun o => decide (txt 1 o = lt)) = []) = false := by simpa using h
      rw [if_neg (of_decide_eq_false h')]
    · have h' : decide (os.filter (fun o => decide (txt 1 o = lt)) = []) = true := by simpa using h
      rw [if_pos (of_decide_eq_true h')]
    generalize hlet : (if os.filter (fun o => decide (txt 1 o = lt)) = [] then lt else ("" : Str)) = lt2
    have hlt2 : letOk (.str lt2) = true ∧ lt2 ∉ lets os := by
      rw [← hlet]
      by_cases c : os.filter (fun o => decide (txt 1 o = lt)) = []
      · rw [if_pos c]
        refine ⟨hlt, fun z => ?_⟩
        unfold lets at z
        obtain ⟨o, ho, eo⟩ := List.mem_map.mp (List.mem_filter.mp z).1
        have := List.filter_eq_nil_iff.mp c o ho
        exact this (decide_eq_true eo)
      · rw [if_neg c]
        refine ⟨by decide +kernel, fun z => ?_⟩
        unfold lets at z
        have := (List.mem_filter.mp z).2
        simp at this
    refine dw_setHP (M := Sm0 p (n + 23 * i + 22) F0 H) (O' := OS p (fun q => H q = none) (n + 23 * i + 22 + 1)) (P := fun x => x ∈ tX KIN) 7 (os_sm _ _ _ _) hN (dhp_pickL (l := tX KIN) 0 D0 (hr.mono (by decide)) (dx_lst (da_cons dx_str (da_cons dx_str (da_cons dx_str (da_cons dx_str (da_cons dx_str (da_one dx_str)))))) (by show 6 ≤ 100000; decide)) dx_int (by decide +kernel) (by decide +kernel) (by decide +kernel) (by omega)) fun x hx => ?_
    obtain ⟨kd, hkd, rfl⟩ := List.mem_map.mp hx
    show DW _ (Sm0 p (n + 23 * i + 23) F0 H) _ _ _
    have hnx : n + 23 * i + 23 = n + 23 * (i + 1) := by omega
    have hopt : isOption (.tuple [.str nm1, .str lt2, .str kd]) = true := isOption_mk hnm hlt2.1 hkd
    refine dw_ifR (M := Sm0 p (n + 23 * i + 23) F0 H) (k := PyData.eqv (.list (os.filter fun o => decide (txt 0 o = nm1))) (.list [])) (dt_cmp (op_eqD hu) (dx_ofO (dg_imp (do_lc (own := [("one", 9)]) (xs := os) (g := tg1 9) (fun o => decide (txt 0 o = nm1)) (fun x => x) rfl hN (dig_own (dlt_var 3)) (blkOk_by (N := N_law_more) (sc := defScope s_law_more) (by decide +kernel)) (by omega) (fun s H C cl fp => dtg1 9 hN) (fun x hx => ⟨_, rfl⟩) (fun s H C cl fp o ds1 ho e => ?_) (fun s H C cl fp o ds1 ho _ e => ?_)) fun _ _ _ _ r => ?_)) (dx_lst da_nil) (op2_eq (opts_shaped hall (by omega) _) (by decide +kernel))) (fun h => ?_) (fun h => ?_)
    · cases e
      obtain ⟨a1, c1, e1⟩ := opt_eq (hall o ho)
      exact pts_one (dt_cmp op_eq (dx_ixT (i := 0) (dx_is (dx_var 9) e1) dx_int at0) (dx_var 8) op2_eqS)
    · cases e
      exact dx_var 9
    · rw [List.map_id'] at r
      exact r
    · rw [eqv_nil] at h
      have h' := of_decide_eq_true h
      refine dw_append (xs := os) 3 (dx_tup (da_cons (dx_var 8) (da_cons (dx_var 6) (da_one (dx_var 7)))) (by show 3 ≤ 100000; decide)) ?_ (by omega)
      refine dw_nil ⟨Sm.refl _, dw_nil ?_⟩
      refine ⟨by show OS p _ (n + 23 * i + 23) = _; rw [hnx], os ++ [.tuple [.str nm1, .str lt2, .str kd]], gd_snoc hg ?_, by rw [List.length_append]; show os.length + 1 ≤ i + 1; omega, _, _, _, _, _, _, rfl⟩
      rw [opt_fits]
      refine decide_eq_true ⟨hopt, fun z => ?_, hlt2.2⟩
      obtain ⟨o, ho, eo⟩ := List.mem_map.mp z
      exact List.filter_eq_nil_iff.mp h' o ho (decide_eq_true eo)
    · exact dw_nil ⟨by show OS p _ (n + 23 * i + 23) = _; rw [hnx], os, hg, by omega, _, _, _, _, _, _, rfl⟩
  · rintro xs rfl O' ds1 sm ⟨rfl, os, hg, hl, a, b, c, d, e, f2, rfl⟩
    rw [intsD_len] at hl
    refine dw_retL 3 rfl ⟨⟨n + 23 * (intsD 0 (many : Int).toNat).length, ?_, rfl⟩, hz os hg hl⟩
    rw [intsD_len]
    exact hle
end
end KS
end
section
set_option Elab.async false
set_option linter.all false
set_option maxRecDepth 100000
set_option maxHeartbeats 2000000
namespace DS
open PySem PySem.Spec PyProof.Rows L2 LamX
open Evl (Ex ex_l ex_t ex_rd)
section
variable {X : Cx} {M : Frm} {O O1 : Own} {ds : List Sl} {a b e : Expr} {pos p1 p2 p3 : Pos} {C : Cn} {rest : List Stmt}
/-- a, b = x, y, the second drawn -/
theorem dw_parH (i j : Nat) {n1 n2 : Str} {kt k2 : Nat} {pt2 : Pos} {O2 : Own} {s1 : Sl} {Q : PyData → Prop} (sm2 : Sm M.O O2) (hc : X.calm = true) (hN : X.N.Nodup) (ha : DG X M.O ds a (rN X.K s1)) (hb : DHP X M.O O2 ds b Q) (h : ∀ y, Q y → DW X (M.wi O2 sm2) ((ds.set i s1).set j (.d y)) rest C) (hw : swappedStores [.Tuple [.Name n1 p1, .Name n2 p2] kt p3] (.Tuple [a, b] k2 pt2) X.env = pure (some [n1, n2]))
    (hij : i ≠ j := by decide) (hi : X.N[i]? = some n1 := by rfl) (hj : X.N[j]? = some n2 := by rfl) (hx : X.env.scope.names.lookup n1 = some .local := by rfl) (hy : X.env.scope.names.lookup n2 = some .local := by rfl)
    (hs : swapsWithSole [.Tuple [.Name n1 p1, .Name n2 p2] kt p3] (.Tuple [a, b] k2 pt2) pos.line X.env = pure false := by rfl)
    (h1 : starEach [a, b] X.env = (false, eval a X.env) :: starEach [b] X.env := by rfl) (h2 : starEach [b] X.env = (false, eval b X.env) :: starEach [] X.env := by rfl) :
    DW X M ds (.Assign [.Tuple [.Name n1 p1, .Name n2 p2] kt p3] (.Tuple [a, b] k2 pt2) pos :: rest) C := by
  refine dw_seqH (N := fun O' ds' => O' = O2 ∧ ∃ y, Q y ∧ ds' = (ds.set i s1).set j (.d y)) ?_ fun O' ds' m ⟨e1, y, py, e2⟩ => by subst e1 e2; exact h y py
  refine ps_mono (ps_par hc hN hi hj hij hx hy (pa_cons ha (pa_cons hb pa_nil h2) h1) hw hs) fun D σ H ⟨F, at_, q1, _⟩ => ⟨F, at_.st, fun v F1 H1 g1 j1 r1 => ⟨F1, at_.st.grow g1 j1, fun w F2 H2 g2 j2 ⟨y, d2, py⟩ => ⟨v, w, rfl, ?_⟩⟩⟩
  have a1 := at_.setN (i := i) g1 j1 r1
  have a2 : At X.K (M.wi O2 sm2) F2 _ H2 _ := a1.growH sm2 g2 j2
  exact q1 _ H2 F2 _ O2 sm2 (g1.f.trans g2.f) (a2.setD (i := j) d2) ⟨rfl, y, py, rfl⟩
theorem dh_lsOf {Ps : List PyData → Prop} (h : DHP X O O1 ds e (fun x => ∃ ys, x = .list ys ∧ Ps ys)) : DH X O O1 ds e (fun H F' H' v => ∃ ys, Ps ys ∧ rLs X.K ys H F' H' v) :=
  pe_mono h fun σ H Q ⟨F, st, q⟩ => ⟨F, st, fun v F' H' g j ⟨x, d, ys, ex, ps⟩ => q v F' H' g j (by
    subst ex
    obtain ⟨a, vs, rfl, s1, s2⟩ := Dp.lst_eq d
    exact ⟨ys, ps, a, vs, rfl, ex_l g.s s1, s2⟩)⟩
end
end DS
namespace KS
open PySem PySem.Spec PyProof.Rows L2 DS KT KM KD KL
section
variable {P : Program} {w : World} {K : PySem.W.Frag} {mg : Str → Option Value} {base : Heap} {Cb Ck fI : Addr}
def PN : List Str := ["in", "out", "ab", "xx", "yy"]
theorem pn_at : ∀ i : Nat, i < 5 → isName (.str (PN.getD i "")) = true ∧ PN.getD i "" ∉ PN.take i ∧ PN.take (i + 1) = PN.take i ++ [PN.getD i ""] := by decide +kernel
theorem pn_ix {i : Nat} (h : i < 5) : atI (tX PN) (0 + (i : Int)) = some (.str (PN.getD i "")) := by
  rcases i with _ | _ | _ | _ | _ | i
  · rfl
  · rfl
  · rfl
  · rfl
  · rfl
  · omega
def R_places : RelS := fun p xs c z => xs = [] ∧ c = 7 ∧ ∀ ps, Gd isPlace "places" ps → ps.length ≤ 5 → z (.d (.list ps))
theorem isPlace_mk {a b : Str} (h1 : isName (.str a) = true) (h3 : b ∈ ARI) : isPlace (.tuple [.str a, .str b]) = true := by
  show (isName (.str a) && inAri (.str b)) = true
  rw [h1]
  exact decide_eq_true h3
theorem b_law_places (m : Free mg) (D0 : Def P w K mg base "_law_draw" 2 P_draw (spS K true R_draw)) : BodyOkS P w K mg base N_law_places "_law_places" s_law_places true 2 R_places := by
  intro f cdv A outer s H E F0 p n xs c z hr hR hn
  obtain ⟨rfl, rfl, hz⟩ := hR
  have hn' : n + 7 ≤ NMX := hn
  have hN := sc_law_places.nd
  refine dw_parH (M := Sm0 p n F0 H) (O2 := OS p (fun q => H q = none) (n + 1)) 2 3 (os_sm _ _ _ _) rfl hN (rn_l (do_lst da_nil)) (dhp_draw (many := 12) 0 D0 hr dx_int (by decide) (by decide) (by omega)) ?_ (by with_unfolding_all rfl)
  rintro y ⟨r, rfl, r0, r1⟩
  show DW _ (Sm0 p (n + 1) F0 H) _ _ _
  refine dw_forH (M := Sm0 p (n + 1) F0 H) (O1 := OS p (fun q => H q = none) (n + 2)) (Pz := fun xs => ∃ k : Nat, k ≤ 5 ∧ xs = intsD 0 k) (is := [1]) (g := tg1 1) (os_sm _ _ _ _) PassesOwn.never rfl (dip_rngH (m := 5) m.range (dhp_imp (dhp_draw (many := 6) 0 D0 hr dx_int (by decide) (by decide) (by omega)) fun x ⟨r, e, a, b⟩ => ⟨r, e, a, by omega⟩) (by decide)) (fun O' _ => dtg1 1 hN)
    (fun xs i O' ds => O' = OS p (fun q => H q = none) (n + 2 + i) ∧ ∃ ps, Gd isPlace "places" ps ∧ ps.length = i ∧ ps.map (txt 0) = PN.take i ∧ (("many" : Str) ∈ ps.map (txt 1) → r < (i : Int)) ∧ ∃ a b, ds = [.v (.ref p.st), a, .l ps, .d (.int r), b]) ?_ ?_ ?_
  · rintro xs ⟨k, hk, rfl⟩
    exact ⟨rfl, [], rfl, rfl, rfl, fun z => (nomatch z), .u, .u, rfl⟩
  · rintro xs ⟨k, hk, rfl⟩ i x O' ds1 sm hx ⟨rfl, ps, hg, hl, hnms, hmany, a, b, rfl⟩
    obtain ⟨hi, rfl⟩ := intsD_get hx
    refine ⟨_, rfl, ?_⟩
    show DW _ (Sm0 p (n + 2 + i) F0 H) _ _ _
    obtain ⟨q1, q2, q3⟩ := pn_at i (by omega)
    refine dw_setHP (M := Sm0 p (n + 2 + i) F0 H) (O' := OS p (fun q => H q = none) (n + 2 + i + 1)) (P := fun x => ∃ s ∈ ARI, x = .str s ∧ (s = "many" → (0 + (i : Int)) = r)) 4 (os_sm _ _ _ _) hN (dh_if (dt_cmp op_eq (dx_var 1) (dx_var 3) op2_eqI) (fun h => ?_) (fun h => ?_)) ?_
    · exact dhp_imp (dh_post (dhp_of dx_str) fun _ j => StJ.mono j (by omega)) fun x e => ⟨"many", by decide +kernel, e, fun _ => of_decide_eq_true h⟩
    · exact dhp_imp (dhp_pickL (l := tX ["one", "may"]) 0 D0 hr (dx_lst (da_cons dx_str (da_one dx_str)) (by show 2 ≤ 100000; decide)) dx_int (by decide +kernel) (by decide +kernel) (by decide +kernel) (by omega)) fun x hx => by
        obtain ⟨s, hs, rfl⟩ := List.mem_map.mp hx
        have : ∀ s ∈ ([("one" : Str), "may"] : List Str), s ∈ ARI ∧ s ≠ "many" := by decide +kernel
        exact ⟨s, (this s hs).1, rfl, fun e => absurd e (this s hs).2⟩
    · rintro x ⟨ar, har, rfl, hir⟩
      show DW _ (Sm0 p (n + 2 + i + 1) F0 H) _ _ _
      refine dw_append (xs := ps) 2 (dx_tup (da_cons (dx_ixF (dx_lst (xs := tX PN) (da_cons dx_str (da_cons dx_str (da_cons dx_str (da_cons dx_str (da_one dx_str))))) (by show 5 ≤ 100000; decide)) (dx_var 1) (pn_ix (by omega))) (da_one (dx_var 4))) (by show 2 ≤ 100000; decide)) ?_ (by omega)
      refine dw_nil ⟨rfl, ps ++ [.tuple [.str (PN.getD i ""), .str ar]], gd_snoc hg ?_, by rw [List.length_append]; show ps.length + 1 = i + 1; omega, by rw [List.map_append, hnms, q3]; rfl, fun hmn => ?_, _, _, rfl⟩
      · rw [pla_fits]
        refine decide_eq_true ⟨isPlace_mk q1 har, fun z => ?_, fun ⟨z1, z2⟩ => ?_⟩
        · rw [hnms] at z; exact q2 z
        · have h1 := hmany (of_decide_eq_true z1)
          have h2 := hir z2
          omega
      · rw [List.map_append] at hmn
        rcases List.mem_append.mp hmn with h | h
        · have := hmany h; push_cast; omega
        · have := hir (List.mem_singleton.mp h).symm; push_cast; omega
  · rintro xs ⟨k, hk, rfl⟩ O' ds1 sm ⟨rfl, ps, hg, hl, _, _, a, b, rfl⟩
    rw [intsD_len] at hl
    refine dw_retL 2 rfl ⟨⟨n + 2 + (intsD 0 k).length, ?_, rfl⟩, hz ps hg (by omega)⟩
    rw [intsD_len]
    omega
def grm (os ps : List PyData) (b0 b1 b2 : Bool) : PyData := .tuple [.tuple os, .tuple ps, .tuple [.bool b0, .bool b1, .bool b2]]
def R_grammar : RelS := fun p xs c z => xs = [.int 12] ∧ c = 287 ∧ ∀ os ps b0 b1 b2, Gd isOption "options" os → os.length ≤ 12 → Gd isPlace "places" ps → ps.length ≤ 5 → z (.d (grm os ps b0 b1 b2))
theorem b_law_grammar (m : Free mg) (D0 : Def P w K mg base "_law_draw" 2 P_draw (spS K true R_draw)) (D1 : Def P w K mg base "_law_more" 4 ["state", "options", "many"] (spS K true R_more)) (D2 : Def P w K mg base "_law_places" 3 ["state"] (spS K true R_places)) : BodyOkS P w K mg base N_law_grammar "_law_grammar" s_law_grammar true 4 R_grammar := by
  intro f cdv A outer s H E F0 p n xs c z hr hR hn
  obtain ⟨rfl, rfl, hz⟩ := hR
  have hn' : n + 287 ≤ NMX := hn
  have hN := sc_law_grammar.nd
  refine dw_setHP (M := Sm0 p n F0 H) (O' := OS p (fun q => H q = none) (n + 1 + 276)) (P := fun x => ∃ os, x = .list os ∧ Gd isOption "options" os ∧ os.length ≤ 12) 2 (os_sm _ _ _ _) hN
    (dhp_ofR (dh_callS (n1 := n + 1) (c := 276) (Ps := fun xs => ∃ r : Int, xs = [.list [], .int r] ∧ 0 ≤ r ∧ r < 13) 0 D1 hr (dah_cons (O1 := OS p (fun q => H q = none) n) (os_sm _ _ _ _) (dhp_of (dx_lst da_nil)) (dah_cons (O1 := OS p (fun q => H q = none) (n + 1)) (P := fun x => ∃ r : Int, x = .int r ∧ 0 ≤ r ∧ r < 13) (Ps := fun l => l = []) (S := fun l => ∃ r : Int, l = [.int r] ∧ 0 ≤ r ∧ r < 13) (os_sm _ _ _ _) (dhp_draw (many := 13) 0 D0 (hr.mono (by decide)) (dx_is (dx_add (dx_var (x := .int 12) 1) dx_int) rfl) (by decide) (by decide) (by omega)) dah_nil fun x xs ⟨r, e, a, b⟩ e2 => ⟨r, by rw [e, e2], a, b⟩) fun x xs e ⟨r, e2, a, b⟩ => ⟨r, by rw [e, e2], a, b⟩)
      (fun xs ⟨r, e, a, b⟩ => ⟨r.toNat, by rw [e, Int.toNat_of_nonneg a], by omega, by omega, fun os h1 h2 => ⟨_, rfl, os, rfl, h1, by omega⟩⟩) (by omega))) ?_
  rintro x ⟨os, rfl, ho, hol⟩
  show DW _ (Sm0 p (n + 277) F0 H) _ _ _
  refine dw_setHP (M := Sm0 p (n + 277) F0 H) (O' := OS p (fun q => H q = none) (n + 280)) (P := fun x => ∃ ys, x = .tuple ys ∧ ∃ a b c : Bool, ys = [.bool a, .bool b, .bool c]) 3 (os_sm _ _ _ _) hN (dh_tupleL m.tuple (os_sm _ _ _ _) (dh_imp (dh_lc (own := [("k", 4)]) (g := tg1 4) (O1 := OS p (fun q => H q = none) (n + 277)) (O2 := OS p (fun q => H q = none) (n + 280)) (fun xs => xs = intsD 0 (3 : Int).toNat) (fun xs i => OS p (fun q => H q = none) (n + 277 + i)) (fun _ y => ∃ b, y = .bool b) rfl hN (dip_of (di_rng1 m.range dx_int (by decide) (by decide))) (blkOk_by (N := N_law_grammar) (sc := defScope s_law_grammar) (by decide +kernel)) ?_ (fun _ _ => os_sm _ _ _ _) (fun xs H _ j => j) (fun xs i H _ j => j.mono (by omega)) ?_ (fun O s H C cl fp => dtg1 4 hN) (fun xs x _ hx => ⟨_, rfl⟩) ?_) ?_)) ?_
  · rintro xs rfl
    decide
  · rintro xs H rfl j
    exact j
  · rintro s1 H1 C cl fp xs i x ds1 rfl hx e
    cases e
    exact dhp_imp (dh_cmp (P := fun x => ∃ r : Int, x = .int r ∧ 0 ≤ r ∧ r < 2) (Q := fun y => y = .int 0) (S := fun z => ∃ b, z = .bool b) (os_sm _ _ _ _) op_eq (dhp_draw (many := 2) 0 D0 (hr.mono (by decide)) dx_int (by decide) (by decide) (by
      have := (intsD_get hx).1
      have h3 : (3 : Int).toNat = 3 := rfl
      omega)) (dhp_of dx_int) fun x y ⟨r, ex, _⟩ ey => ⟨.bool (decide (r = 0)), ⟨_, rfl⟩, by subst ex ey; exact op2_eqI⟩) fun _ h => h
  · rintro H0 F' H' v ⟨xs, ys, rfl, hp, p1, vs, e1, h1, h2, h3, h4⟩
    refine ⟨ys, ?_, p1, vs, e1, SqL.of h3, h4⟩
    have hp' : Paired (fun _ y => ∃ b, y = PyData.bool b) ([.int (0 + ((0 : Nat) : Int)), .int (0 + ((1 : Nat) : Int)), .int (0 + ((2 : Nat) : Int))] : List PyData) ys := hp
    cases hp' with
    | cons a1 t1 =>
      cases t1 with
      | cons a2 t2 =>
        cases t2 with
        | cons a3 t3 =>
          cases t3
          obtain ⟨b1, rfl⟩ := a1
          obtain ⟨b2, rfl⟩ := a2
          obtain ⟨b3, rfl⟩ := a3
          exact ⟨b1, b2, b3, rfl⟩
  · rintro x ⟨_, rfl, b0, b1, b2, rfl⟩
    show DW _ (Sm0 p (n + 280) F0 H) _ _ _
    refine dw_retHP (M := Sm0 p (n + 280) F0 H) (O' := OS p (fun q => H q = none) (n + 280 + 7)) (P := fun x => ∃ xs, x = .tuple xs ∧ ∃ ps, xs = [.tuple os, .tuple ps, .tuple [.bool b0, .bool b1, .bool b2]] ∧ Gd isPlace "places" ps ∧ ps.length ≤ 5) (os_sm _ _ _ _)
      (dh_tup (dah_cons (O1 := OS p (fun q => H q = none) (n + 280)) (os_sm _ _ _ _) (dhp_of (dx_tupleL m.tuple (dls_of (dx_var 2)))) (dah_cons (O1 := OS p (fun q => H q = none) (n + 280 + 7)) (P := fun x => ∃ ps, x = .tuple ps ∧ Gd isPlace "places" ps ∧ ps.length ≤ 5) (S := fun l => ∃ ps, l = [.tuple ps, .tuple [.bool b0, .bool b1, .bool b2]] ∧ Gd isPlace "places" ps ∧ ps.length ≤ 5) (os_sm _ _ _ _)
        (dh_tupleL m.tuple (os_sm _ _ _ _) (dh_lsOf (dhp_ofR (dh_callS (c := 7) 0 D2 (hr.mono (by decide)) dah_nil (fun xs e => ⟨e, rfl, fun ps h1 h2 => ⟨_, rfl, ps, rfl, h1, h2⟩⟩) (by omega)))))
        (dah_of (da_one (dx_var 3))) (fun x xs ⟨ps, e, h1, h2⟩ e2 => ⟨ps, by rw [e, e2], h1, h2⟩)) (fun x xs e ⟨ps, e2, h1, h2⟩ => ⟨ps, by rw [e, e2], h1, h2⟩)) (os_sm _ _ _ _) (fun xs ⟨ps, e, _⟩ => by subst e; show 3 ≤ 100000; decide)) fun x ⟨xs, ex, ps, exs, h1, h2⟩ => ⟨⟨n + 287, by omega, rfl⟩, by subst ex exs; exact hz os ps b0 b1 b2 ho hol h1 h2⟩
end
end KS
end
section
set_option Elab.async false
set_option linter.all false
set_option maxRecDepth 100000
set_option maxHeartbeats 2000000
namespace DS
open PySem PySem.Spec PyProof.Rows L2 LamX
open Evl (Ex ex_l ex_t ex_rd)
/-! ### defs that show data: no guard stands around -/
structure RoomG (k : Nat) (A : Around) : Prop where
  r : Room k A
  g : A.guards = some []
theorem RoomG.mono {j k : Nat} {A : Around} (r : RoomG k A) (h : j ≤ k) : RoomG j A := ⟨r.r.mono h, r.g⟩
structure FnG (P : Program) (w : World) (K : PySem.W.Frag) (mg : Str → Option Value) (base : Heap) (k : Nat) (f : Addr) (fd : FuncData) (ps : List Str) (sp : Sp) : Prop where
  len : ∀ vs H Q E, sp vs H Q E → vs.length = ps.length
  run : ∀ (A : Around) (outer : List Env) (s : Shared) (H : Hp) (args : Args) (us : List Value) (vs : List V) (Q : VK) (E : XK), RoomG k A → Env0 P w K mg base A outer s H → BindsTo s fd args (ps.zip us) → Vals vs us → sp vs H Q E →
    codeAny (model P w) A (.call (.ref f) args) (CR (L2.CX P w) outer P w H s Q E) s
section
variable {P : Program} {w : World} {K : PySem.W.Frag} {mg : Str → Option Value} {base : Heap}
theorem okG {x qual : Str} {st : Stmt} {f : Addr} {fd : FuncData} {N ps : List Str} {k : Nat} {sp : Sp} (F : Fun K x qual st f fd) (S : FnScope N ps (defScope st)) (len : ∀ vs H Q E, sp vs H Q E → vs.length = ps.length)
    (hbody : ∀ (cdv : Value) (A : Around) (outer : List Env) (s : Shared) (H : Hp) (vs : List V) (Q : VK) (E : XK), RoomG k (A.deeper (envOfC qual (defScope st) s.heap.objs.size f cdv)) → sp vs H Q E →
      ∃ t, PSs (cxOf (L2.CX P w) P w K mg base N qual (defScope st) f cdv A outer s H E) (defBody st) t ∧ t { nx := fun _ H' => Q .non H', rt := Q } (L2.start N vs) H) : FnG P w K mg base (k + 1) f fd ps sp := by
  obtain ⟨oc, od, kV, doc, pm, an, cdv, ct, osl, rfl, lk, hcd⟩ := F.ex
  refine ⟨len, fun A outer s H args us vs Q E hr e0 hb r hsp => ?_⟩
  exact run_ofS lk hcd S hr.r e0 hb r (len _ _ _ _ hsp) fun hr' => hbody cdv A outer s H vs Q E ⟨hr', hr.g⟩ hsp
structure DefG (P : Program) (w : World) (K : PySem.W.Frag) (mg : Str → Option Value) (base : Heap) (nm : Str) (k : Nat) (ps : List Str) (sp : Sp) : Prop where
  ex : ∃ f fd, FnG P w K mg base k f fd ps sp ∧ mg nm = some (.ref f) ∧ PySem.W.keepIn K (.ref f) = true ∧ Binds K fd ps []
end
section
variable {X : Cx} {k : Nat} {f : Addr} {fd : FuncData} {ps : List Str} {sp : Sp} {E : XK} {x : Str} {p pos : Pos} {e : Expr} {es : List Expr} {t : TA}
theorem run_fnG {pins : List (Addr × Obj)} {σ : L2.St} {H : Hp} {s : Shared} {Q : VK} {us : List Value} {vs : List V} (F : FnG X.prog X.w X.K X.mg X.base k f fd ps sp) (hr : RoomG k X.A) (hb : Binds X.K fd ps []) (hx : Passes (L2.CX X.prog X.w) X E)
    (I : Inv X pins σ H s) (r : Vals vs us) (h : sp vs H Q E) : wpAny (model X.prog X.w) X.A (call (.ref f) us) (EP X pins σ Q) X.xe s := by
  have hl : us.length = ps.length := by rw [← r.length]; exact F.len _ _ _ _ h
  have hbs := hb s us I.kIn (by rw [List.append_nil]; exact hl)
  rw [List.append_nil] at hbs
  refine wpAny_call (codeAny_mono (F.run X.A X.stack s H ⟨us, []⟩ us vs Q E hr I.env0 hbs r h) fun r s' hq => ?_)
  match r, hq with
  | .error e, hq => exact hx pins σ H s e s' I hq
  | .ok (.ret u), hq => exact I.after hq
theorem pe_callG (F : FnG X.prog X.w X.K X.mg X.base k f fd ps sp) (hr : RoomG k X.A) (hg : Gl X x) (hm : X.mg x = some (.ref f)) (hk : PySem.W.keepIn X.K (.ref f) = true) (hb : Binds X.K fd ps []) (hx : Passes (L2.CX X.prog X.w) X E)
    (ha : PA X (e :: es) t) (hdb : (x == ("__debug__" : Str)) = false := by decide) (he : starEach (e :: es) X.env = (false, eval e X.env) :: starEach es X.env := by rfl) (hpl : (backTo pos (starEach es X.env)).any (·.1) = false := by rfl) :
    PE X (.Call (.Name x p) (e :: es) [] pos) (fun σ H Q => t σ H fun vs H1 => sp vs H1 Q E) := by
  refine ⟨fun pins s σ H Q I h => ?_⟩
  refine wpAny_Call_Name_kw (ld_glob I hg hm ?_ hdb)
  exact PySem.W.callWith_K (h₀ := X.base) I.ok.mod.kin hk (thn (ha.run pos pins s σ H _ I h) fun us s1 ⟨vs, H1, I1, r, q⟩ => ⟨I1.kIn, run_fnG F hr hb hx I1 r q⟩) he hpl
theorem pe_callG0 (F : FnG X.prog X.w X.K X.mg X.base k f fd ps sp) (hr : RoomG k X.A) (hg : Gl X x) (hm : X.mg x = some (.ref f)) (hk : PySem.W.keepIn X.K (.ref f) = true) (hb : Binds X.K fd ps []) (hx : Passes (L2.CX X.prog X.w) X E)
    (hdb : (x == ("__debug__" : Str)) = false := by decide) : PE X (.Call (.Name x p) [] [] pos) (fun _ H Q => sp [] H Q E) := by
  refine ⟨fun pins s σ H Q I h => ?_⟩
  refine wpAny_Call_Name_kw (ld_glob I hg hm ?_ hdb)
  exact PySem.W.callWith_K0 I.kIn hk (run_fnG (us := []) F hr hb hx I .nil h)
end
/-! ### the defs with a state -/
def BodyOkSG (P : Program) (w : World) (K : PySem.W.Frag) (mg : Str → Option Value) (base : Heap) (N : List Str) (nm : Str) (st : Stmt) (b : Bool) (k : Nat) (Rl : RelS) : Prop :=
  ∀ (f : Addr) (cdv : Value) (A : Around) (outer : List Env) (s : Shared) (H : Hp) (E : XK) (F0 : Hp) (p : Pl) (n : Nat) (xs : List PyData) (c : Nat) (z : Sl → Prop), RoomG k (A.deeper (envOfC nm (defScope st) s.heap.objs.size f cdv)) → Rl p xs c z → n + c ≤ NMX →
    DW (Bx P w K mg base N nm (defScope st) f cdv A outer s H E) (Sm0 p n F0 H) (startS N b p xs) (defBody st) (CzS p (fun q => H q = none) (n + c) z)
theorem def_mkSG {P : Program} {w : World} {K : PySem.W.Frag} {mg : Str → Option Value} {base : Heap} {N : List Str} {nm : Str} {st : Stmt} {b : Bool} {k : Nat} {Rl : RelS} {f : Addr} {fd : FuncData} {ps : List Str} (F : Fun K nm nm st f fd) (hm : mg nm = some (.ref f)) (hb : Binds K fd ps []) (S : FnScope N ps (defScope st)) (hN : N ≠ [])
    (hl : ∀ p xs c z, Rl p xs c z → xs.length + (if b = true then 1 else 0) = ps.length) (body : BodyOkSG P w K mg base N nm st b k Rl) : DefG P w K mg base nm (k + 1) ps (spS K b Rl) := by
  refine ⟨f, fd, okG F S (fun vs H Q E h => ?_) (fun cdv A outer s H vs Q E hr h => ?_), hm, F.kp, hb⟩
  · obtain ⟨F0, p, n, us, xs, c, z, rfl, _, _, _, d, r, _⟩ := h
    rw [← hl p xs c z r, ← d.len]
    cases b <;> rfl
  · obtain ⟨F0, p, n, us, xs, c, z, rfl, ex, sf, j, d, r, hn, q⟩ := h
    refine ⟨_, PSs.nox (body f cdv A outer s H E F0 p n xs c z hr r hn), F0, ⟨start_okS ex sf j d hN, Grow.refl ex⟩, fun σ' H' F' ds' O' m _ a ⟨⟨k, hk, e⟩, hz⟩ => ?_, fun v r' F' H' O' m g j' o ⟨⟨k, hk, e⟩, hr'⟩ => ?_, fun _ _ _ _ _ _ _ _ z => z.elim, fun _ _ _ _ _ _ _ _ z => z.elim⟩
    · subst e
      exact q .non (.d .none) F' H' (grow_os a.g) (StJ.mono a.st.j hk) rt_none hz
    · subst e
      exact q v r' F' H' (grow_os g) (StJ.mono j' hk) (rt_wi rfl o) hr'
section
variable {X : Cx} {ds : List Sl} {e : Expr} {es : List Expr} {pos p1 pc : Pos} {nm sn : Str} {k n n1 c : Nat} {ps : List Str} {Rl : RelS} {p : Pl} {W : Addr → Prop}
theorem dh_callSG {zz : Sl → Prop} {Ps : List PyData → Prop} (i : Nat) (D : DefG X.prog X.w X.K X.mg X.base nm k ps (spS X.K true Rl)) (hr : RoomG k X.A) (ha : DAH X (OS p W n) (OS p W n1) ds es Ps) (hR : ∀ xs, Ps xs → Rl p xs c zz) (hn : n1 + c ≤ NMX) (hd : ds[i]? = some (.v (.ref p.st)) := by rfl) (hN : X.N[i]? = some sn := by rfl)
    (hv : Vis X.env.scope sn := by first | exact Or.inl rfl | exact Or.inr (Or.inl rfl) | exact Or.inr (Or.inr rfl)) (h1 : (sn == ("__debug__" : Str)) = false := by decide) (h2 : (sn == ("__classdict__" : Str)) = false := by decide) (hg : Gl X nm := by rfl) (hdb : (nm == ("__debug__" : Str)) = false := by decide)
    (he : starEach (.Name sn p1 :: es) X.env = (false, eval (.Name sn p1) X.env) :: starEach es X.env := by rfl) (hpl : (backTo pos (starEach es X.env)).any (·.1) = false := by rfl) : DH X (OS p W n) (OS p W (n1 + c)) ds (.Call (.Name nm pc) (.Name sn p1 :: es) [] pos) (rR X.K zz) := by
  obtain ⟨f, fd, G, hm, hk, hb⟩ := D.ex
  refine pe_mono (pe_callG G hr hg hm hk hb passL (pa_cons (pe_var (i := i) hN hv h1 h2) ha he) hdb he hpl) fun σ H Q ⟨F, st, q⟩ => ⟨.ref p.st, st.val hd, F, st, fun vs F1 H1 xs pxs g1 j1 d1 => ?_⟩
  have g1' : Grow (OS p W n) F H F1 H1 := g1
  refine ⟨F1, p, n1, vs, xs, c, zz, by rw [if_pos rfl], g1.s, fun a s => ?_, j1, d1, hR xs pxs, hn, fun v r F2 H2 g2 j2 o hz => q v F2 H2 (g1.trans (grow_os g2)) j2 ⟨r, hz, rt_up (fun _ => g1.free) o⟩⟩
  cases e : F1 a with
  | none => rfl
  | some u => exact absurd (g1.n a (st.sf a s) (by rw [e]; exact fun z => nomatch z)) ((OS p W n).dom st.j s)
theorem dh_callS0G {zz : Sl → Prop} {Ps : List PyData → Prop} (D : DefG X.prog X.w X.K X.mg X.base nm k ps (spS X.K false Rl)) (hr : RoomG k X.A) (ha : DAH X (OS p W n) (OS p W n1) ds (e :: es) Ps) (hR : ∀ xs, Ps xs → Rl p xs c zz) (hn : n1 + c ≤ NMX) (hg : Gl X nm := by rfl) (hdb : (nm == ("__debug__" : Str)) = false := by decide)
    (he : starEach (e :: es) X.env = (false, eval e X.env) :: starEach es X.env := by rfl) (hpl : (backTo pos (starEach es X.env)).any (·.1) = false := by rfl) : DH X (OS p W n) (OS p W (n1 + c)) ds (.Call (.Name nm pc) (e :: es) [] pos) (rR X.K zz) := by
  obtain ⟨f, fd, G, hm, hk, hb⟩ := D.ex
  refine pe_mono (pe_callG G hr hg hm hk hb passL ha hdb he hpl) fun σ H Q ⟨F, st, q⟩ => ⟨F, st, fun vs F1 H1 xs pxs g1 j1 d1 => ?_⟩
  refine ⟨F1, p, n1, vs, xs, c, zz, by rw [if_neg Bool.false_ne_true], g1.s, fun a s => ?_, j1, d1, hR xs pxs, hn, fun v r F2 H2 g2 j2 o hz => q v F2 H2 (g1.trans (grow_os g2)) j2 ⟨r, hz, rt_up (fun _ => g1.free) o⟩⟩
  cases e : F1 a with
  | none => rfl
  | some u => exact absurd (g1.n a (st.sf a s) (by rw [e]; exact fun z => nomatch z)) ((OS p W n).dom st.j s)
/-- f() -/
theorem dh_callS00G {zz : Sl → Prop} (D : DefG X.prog X.w X.K X.mg X.base nm k ps (spS X.K false Rl)) (hr : RoomG k X.A) (hR : Rl p [] c zz) (hn : n + c ≤ NMX) (hg : Gl X nm := by rfl) (hdb : (nm == ("__debug__" : Str)) = false := by decide) : DH X (OS p W n) (OS p W (n + c)) ds (.Call (.Name nm pc) [] [] pos) (rR X.K zz) := by
  obtain ⟨f, fd, G, hm, hk, hb⟩ := D.ex
  refine pe_mono (pe_callG0 G hr hg hm hk hb passL hdb) fun σ H Q ⟨F, st, q⟩ => ?_
  exact ⟨F, p, n, [], [], c, zz, by rw [if_neg Bool.false_ne_true], st.ex, st.sf, st.j, .nil, hR, hn, fun v r F2 H2 g2 j2 o hz => q v F2 H2 (grow_os g2) j2 ⟨r, hz, o⟩⟩
end
/-! ### repr -/
/-- data that may be shown -/
structure Shw (d : PyData) : Prop where
  rf : (∃ xs, d = .list xs) ∨ ∃ xs, d = .tuple xs
  cl : d.canLay0 = true
  dp : d.depth ≤ 64
  wt : d.weight ≤ 2 ^ 20
  is : d.intsShort 13 = true
  sh : d.showable = true
theorem call_repr {X : Cx} (hu : X.A.units + 100 < cLine) (hg : X.A.guards = some []) : CallR X (.builtin "repr") (fun xs H Q => ∃ (x : V) (d : PyData), xs = [x] ∧ Dp X.K H x d ∧ Shw d ∧ Q (.str d.shown) H) := by
  intro pins s σ H vs us Q I r h
  obtain ⟨x, d, rfl, hd, S, q⟩ := h
  match us, r with
  | [u], .cons r1 .nil =>
    obtain ⟨as, R⟩ := Dp.reads I d x u hd r1
    have hl : PyData.layable0 d = true := by
      show (_ && _) = true
      rw [S.cl, decide_eq_true S.dp, decide_eq_true S.wt]
      rfl
    have key : ∃ a, u = .ref a := by
      rcases S.rf with ⟨xs, rfl⟩ | ⟨xs, rfl⟩
      · obtain ⟨a, vs, rfl, _⟩ := Dp.lst_eq hd
        exact ⟨a, r1⟩
      · obtain ⟨a, vs, rfl, _⟩ := Dp.tup_eq hd
        exact ⟨a, r1⟩
    obtain ⟨a, rfl⟩ := key
    have hdp := S.dp
    exact repr_of_reads' R S.sh (PyData.noDict_hsm (PyData.hasDict_of_layable hl)) hg (by omega) (fun _ _ e => e) (fun h' v tk hk => ⟨.str d.shown, H, I.kept hk, ⟨v, rfl⟩, q⟩) (Nat.le_trans (PyData.shown_le_of_layable0 hl S.is) (by rw [sizeLine_eq]; decide))
theorem dx_repr {X : Cx} {O : Own} {ds : List Sl} {e : Expr} {x : PyData} {p pos : Pos} (hm : X.mg "repr" = none) (hu : X.A.units + 100 < cLine) (hgd : X.A.guards = some []) (ha : DX X O ds e x) (S : Shw x) (hg : Gl X "repr" := by rfl) (he : starEach [e] X.env = (false, eval e X.env) :: starEach [] X.env := by rfl) : DX X O ds (.Call (.Name "repr" p) [e] [] pos) (.str x.shown) :=
  dx_callB (call_repr hu hgd) hm (by decide +kernel) (da_one ha he) (cal_pure fun F H vs Q e d q => by
    obtain ⟨v, r, rfl, dv, dr⟩ := d.cons_of
    have := dr.nil_of
    subst this
    exact ⟨v, x, rfl, dv.up e, S, q _ (.str _)⟩) hg (by decide) (by decide) he rfl
end DS
end
section
set_option Elab.async false
set_option linter.all false
set_option maxRecDepth 100000
set_option maxHeartbeats 2000000
namespace KS
open PySem PySem.Spec PyProof.Rows L2 DS KT KM KD KL
section
variable {P : Program} {w : World} {K : PySem.W.Frag} {mg : Str → Option Value} {base : Heap} {Cb Ck fI : Addr}
def R_tellings : RelE := fun xs z b => ∃ x, xs = [x] ∧ ok x ∧ (∀ os ps b0 b1 b2, KM.fault x = .none → GV x os ps b0 b1 b2 → z (.m (kvT (KM.tellings os b0)))) ∧ (KM.fault x ≠ .none → b (KM.fault x))
theorem b_tellings (D1 : Def P w K mg base "tellings_of" 2 ["grammar"] (spE K Cb R_tellings_of)) (D2 : Def P w K mg base "need_grammar" 6 ["thing"] (spE K Cb R_need)) : BodyOkE P w K mg base N_tellings "tellings" s_tellings Cb 6 R_tellings := by
  intro f cdv A outer s H E F0 xs z b hr hR hE
  obtain ⟨x, rfl, hx, h1, h2⟩ := hR
  by_cases hf : KM.fault x = .none
  · obtain ⟨os, ps, b0, b1, b2, hg⟩ := gv_of hf
    exact dw_retDM (dm_ofR (dg_callE (zz := fun r => r = .m (kvT (KM.tellings os b0))) D1 (hr.mono (by decide)) (da_one (dx_need D2 hr (dx_var 0) hx hf)) ⟨x, os, ps, b0, b1, b2, rfl, hg, rfl⟩)) (h1 os ps b0 b1 b2 hf hg)
  · exact dw_retN (dg_callN D1 (hr.mono (by decide)) (dn_need (M := Bm F0 H) (E := E) (W := fun cls d _ H => E cls d H) D2 hr (takes_of rfl rfl rfl rfl) (fun _ _ _ _ h => h) (dx_var 0) hx hf fun σ F H2 F1 H1 st g j => wb_at hE st g fun p e => e ▸ h2 hf))
end
end KS
end
section
set_option Elab.async false
set_option linter.all false
set_option maxRecDepth 100000
set_option maxHeartbeats 2000000
namespace DS
open PySem PySem.Spec PyProof.Rows L2 LamX
open Evl (Ex ex_l ex_t ex_rd)
/-! ### an exception that is kept behind the try -/
/-- an exception object of the class cls with the dict d, at a -/
def XO (cls : Value) (d : Option Addr) (a : Addr) : HO := .ext fun h => ∃ (oe : Obj) (vs : Array Value), h.get? a = some oe ∧ Zc cls d oe ∧ oe.data = .fields vs
section
variable {X : Cx} {pins : List (Addr × Obj)} {σ : L2.St} {H : Hp} {s : Shared}
theorem inv_adopt {cls : Value} {d : Option Addr} {a : Addr} {oe : Obj} {vs : Array Value} (I : Inv X pins σ H s) (hn : H a = none) (e : s.heap.get? a = some oe) (z : Zc cls d oe) (dd : oe.data = .fields vs) (h0 : X.s_0.heap.get? a = none) (nL : a ≠ X.env.locals) (np : ∀ p ∈ X.pn ++ pins, p.1 ≠ a) : Inv X pins σ (upd H a (XO cls d a)) s := by
  refine ⟨I.ok, I.os, I.bare, ⟨I.base.keep, I.base.slot, fun b o e1 n hx => ?_, I.base.there, fun b xs q => ?_, fun b o u q => ?_, fun b ps q => ?_⟩, I.loc, I.cell, ?_, fun x c e1 => ?_, fun p hp => ?_, fun b u q => ?_, I.len⟩
  · have hb : b ≠ a := fun w => by rw [w, h0] at e1; cases e1
    rw [upd_ne hb]; exact I.base.free b o e1 n hx
  · have q1 := I.base.tups b xs q
    rw [upd_ne (ne_of_none q1 hn)]; exact q1
  · have q1 := I.base.frzs b o u q
    rw [upd_ne (ne_of_none q1 hn)]; exact q1
  · obtain ⟨m, q1⟩ := I.base.tbls b ps q
    exact ⟨m, by rw [upd_ne (ne_of_none q1 hn)]; exact q1⟩
  · rw [upd_ne (Ne.symm nL)]; exact I.free
  · have hc : c ≠ a := fun w => by
      obtain ⟨v, o, ho, hd⟩ := I.cell x c e1
      rw [w, e] at ho
      cases ho
      rw [dd] at hd
      cases hd
    rw [upd_ne hc]; exact I.freeC x c e1
  · obtain ⟨e1, n1, r⟩ := I.pin p hp
    exact ⟨e1, by rw [upd_ne (np p hp)]; exact n1, r⟩
  · by_cases hb : b = a
    · subst hb
      rw [upd_same] at q
      cases q
      exact ⟨⟨oe, vs, e, z, dd⟩, ⟨oe, e⟩, fun _ _ ⟨o, v, q, r⟩ k => ⟨o, v, k o q, r⟩⟩
    · rw [upd_ne hb] at q
      exact (I.hok b u q).stay (fun c v _ q => q) (fun c q => by rw [upd_ne (ne_of_none q hn)]; exact q) fun c xs q => by rw [upd_ne (ne_of_none q hn)]; exact q
/-- an exception that has landed, beside all that stood before *or* was noted -/
structure Apart (X : Cx) (pins : List (Addr × Obj)) (a : Addr) : Prop where
  loc : a ≠ X.env.locals
  fs : a ∉ X.fs
  old : X.s_0.heap.get? a = none
  pins : ∀ p ∈ X.pn ++ pins, p.1 ≠ a
theorem frs_eq (hs : X.stack = X.env :: X.outer) (hf : X.env.frame = some X.env.locals) : frs X.stack = X.env.locals :: X.fs := by
  rw [hs]
  show List.filterMap _ _ = _
  rw [List.filterMap_cons, hf] <;> rfl
theorem apart {B : Heap} {a : Addr} {Z : Obj → Prop} {h : Heap} (hs : X.stack = X.env :: X.outer) (hf : X.env.frame = some X.env.locals) (hex : X.ex = []) (J : Inv X pins σ H s) (fl : HandSPX.FlyingZ B X.stack a Z h) (ground : ∀ b o, s.heap.get? b = some o → b ∉ frs X.stack → B.get? b = some o) : Apart X pins a := by
  obtain ⟨oe, vs, at_, -, isE⟩ := fl.there
  have notF : a ∉ frs X.stack := by
    intro z
    obtain ⟨-, o, at2, no⟩ := fl.2.2.1.mem z
    obtain rfl : oe = o := Option.some.inj (at_.symm.trans at2)
    exact no vs isE
  have other : ∀ b o, s.heap.get? b = some o → b ∉ frs X.stack → b ≠ a := by
    rintro b o e nf rfl
    exact absurd ((ground b o e nf).symm.trans fl.2.1) (fun z => nomatch z)
  rw [frs_eq hs hf] at notF other
  refine ⟨fun e => notF (e ▸ List.mem_cons_self), fun e => notF (List.mem_cons_of_mem _ e), ?_, fun p hp => ?_⟩
  · match e : X.s_0.heap.get? a with
    | none => rfl
    | some o =>
      obtain ⟨o2, e2⟩ := J.base.there a o e (hex ▸ List.not_mem_nil)
      exact absurd rfl (other a o2 e2 notF)
  · obtain ⟨e, _, nl, nf, _⟩ := J.pin p hp
    exact other p.1 _ e fun z => (List.mem_cons.mp z).elim nl nf
end
/-- what 'except x as n' wishes of an exception that it catches for sure; its suite ends by itself; the exception is kept behind it -/
def wAsK (K : PySem.W.Frag) (c : Value) (i : Nat) (ts : Addr → Value → Option Addr → TS) (D : Ends) : WX := fun cls d σ H =>
  PySem.W.exmOne K cls c = some true ∧ ∀ a, H a = none → ts a cls d { nx := fun σ' H' => D.nx (σ'.set i none) (upd H' a (XO cls d a)), rt := fun _ _ => False } (σ.set i (some (.ref a))) H
section
variable {X : Cx} {x n : Str} {c : Value} {i : Nat} {b₀ : Stmt} {suite : List Stmt} {np pos' : Pos} {ts : Addr → Value → Option Addr → TS} {pins : List (Addr × Obj)} {D : Ends}
/-- the suite, and how it is left -/
theorem suite_kept {a : Addr} {B : Heap} {sI s : Shared} {σ : L2.St} {H : Hp} {cls : Value} {d : Option Addr} (hs : X.stack = X.env :: X.outer) (hN : X.N.Nodup) (hi : X.N[i]? = some n) (hln : X.env.kindOf n = some .local) (J : Inv X pins σ H sI) (no : H a = none) (ap : Apart X pins a)
    (ground : ∀ b o, sI.heap.get? b = some o → b ∉ frs X.stack → B.get? b = some o) (up : sI.heap.UpToSlots s.heap) (os : s.os = sI.os) (ag : AllBare s.gens) (fl : HandSPX.FlyingZ B X.stack a (Zc cls d) s.heap)
    (hsu : ∀ (oe : Obj) (pn : List (Addr × Obj)), Zc cls d oe → (∃ vs, oe.data = .fields vs) → PSs (X.suite a ((a, oe) :: pn)) (b₀ :: suite) (ts a cls d))
    (wish : ts a cls d { nx := fun σ' H' => D.nx (σ'.set i none) (upd H' a (XO cls d a)), rt := fun _ _ => False } (σ.set i (some (.ref a))) H) :
    codeAny (model X.prog X.w) (X.A.mark (some (.ref a))) (.handlers (.ref a) [.ExceptHandler none (some n) (b₀ :: suite) pos'] X.env)
      (fun r s2 => match r with
        | .ok f => wpAny (model X.prog X.w) X.A (do bindName X.env n .none; unbindBehindTheSuite X.env n pos') (fun _ s3 => SP X pins D f s3) X.xe s2
        | .error y => cameBackBy (model X.prog X.w) X.A X.env X.xe y s2) s := by
  refine codeAny_handlers_suite_as (HandSPX.lands_againZ fl fun h fl2 up2 => ?_)
  have inv := Inv.landed (s' := { s with heap := h }) J ground fl2.1 (up.trans up2) os ag
  obtain ⟨oe, vs, at_, isZ, isE⟩ := fl2.there
  have within := inv.suite at_ isE no ap.loc ap.fs
  refine store_ok (X := X.suite a ((a, oe) :: (X.pn ++ pins))) (v := .ref a) within hN hi (.inl hln) rfl (fun s1 J1 => ?_) (.inr hln)
  apply wpAny_mono ((hsu oe _ isZ ⟨vs, isE⟩).run [] s1 _ H _ J1 wish)
  · rintro f s2 out
    match f, out with
    | .next, ⟨σ2, H2, J2, q⟩ =>
      have still := J2.pin (a, oe) (List.mem_append_left _ List.mem_cons_self)
      have J3 := J2.unsuite J.ok
      have J4 : Inv X ((a, oe) :: pins) σ2 H2 s2 := J3.pins_of fun p hp => (List.mem_cons.mp hp).elim (fun e => e ▸ still) fun z => J3.pin p (List.mem_append_right _ z)
      refine gone_ok J4 hN hi hln fun s3 J5 => ?_
      have last := J5.pin (a, oe) (List.mem_append_right _ List.mem_cons_self)
      have J6 := J5.pins_of (pins' := pins) fun p hp => J5.pin p (List.mem_append_right _ (List.mem_cons_of_mem _ hp))
      exact ⟨_, _, inv_adopt J6 last.2.1 last.1 isZ isE ap.old ap.loc ap.pins, q⟩
    | .brk, ⟨_, _, _, q⟩ => exact q.elim
    | .cont, ⟨_, _, _, q⟩ => exact q.elim
    | .ret _, ⟨_, _, _, _, _, q⟩ => exact q.elim
  · exact fun _ _ z => z.elim
/-- what the try does with an exception of its body -/
abbrev catcher (X : Cx) (pins : List (Addr × Obj)) (D : Ends) (hd : ExceptHandler) (e : Value) (s : Shared) : Prop :=
  wpAny (model X.prog X.w) X.A (noteFrame e X.env) (fun _ s1 => wpAny (model X.prog X.w) X.A (setFlight e none) (fun _ s2 => wpAny (model X.prog X.w) X.A (handleBy e X.env [hd]) (SP X pins D) X.xe s2) X.xe s1) X.xe s
theorem catches (hs : X.stack = X.env :: X.outer) (hf : X.env.frame = some X.env.locals) (hex : X.ex = []) (hN : X.N.Nodup) (hi : X.N[i]? = some n) (hln : X.env.kindOf n = some .local) (hg : Gl X x) (hm : X.mg x = some c) (noD : (x == ("__debug__" : Str)) = false) (ok : X.Ok)
    (hsu : ∀ (a : Addr) (oe : Obj) (cls : Value) (d : Option Addr) (pn : List (Addr × Obj)), Zc cls d oe → (∃ vs, oe.data = .fields vs) → PSs (X.suite a ((a, oe) :: pn)) (b₀ :: suite) (ts a cls d)) {xe : Value → Shared → Prop} {u : Value} {s : Shared} :
    XE (X.tr (X.pn ++ pins) xe) (wAsK X.K c i ts D) u s → catcher X pins D (.ExceptHandler (some (.Name x np)) (some n) (b₀ :: suite) pos') u s := by
  rintro ⟨a, B, sI, pins2, σ, H, cls, d, rfl, J2, ground, up, sky, no, os, ag, sure, wish⟩
  have J : Inv X pins σ H sI := J2.ofTry ok
  refine Sky.land Zc.steady (by rw [ok.frames, hs]) hf (hs ▸ sky) fun h fl up2 => ?_
  rw [← hs] at fl
  have ap := apart hs hf hex J fl ground
  have inv := Inv.landed (s' := { s with heap := h }) J ground fl.1 (up.trans up2) os ag
  obtain ⟨oe, vs, at_, isZ, isE⟩ := fl.there
  have within := inv.suite at_ isE no ap.loc ap.fs
  have isC : PySem.W.Looks (model X.prog X.w) h (typeOf (.ref a)) cls := fun _ _ _ _ k q => wpAny_typeOf_ref (k _ _ at_) (isZ.1.symm ▸ q)
  refine wpAny_handleBy_cons (codeAny_handlers_test (ld_glob (X := X.suite a ((a, oe) :: (X.pn ++ pins))) within hg hm ?_ noD)) (fun z => nomatch z)
  exact (PySem.W.exm_one inv.kIn isC sure).here (suite_kept hs hN hi hln J no ap ground (up.trans up2) os ag fl (fun oe pn => hsu a oe cls d pn) (wish a no))
theorem ps_try_keep {body : List Stmt} {pos : Pos} {tb : WX → TS} (hs : X.stack = X.env :: X.outer) (hf : X.env.frame = some X.env.locals) (hex : X.ex = []) (hN : X.N.Nodup) (hi : X.N[i]? = some n) (hln : X.env.kindOf n = some .local) (hg : Gl X x) (hm : X.mg x = some c) (noD : (x == ("__debug__" : Str)) = false)
    (hb : ∀ (W : WX) (pn : List (Addr × Obj)) (xe : Value → Shared → Prop), Takes (X.tr pn xe) W → PSs (X.tr pn xe) body (tb W))
    (hsu : ∀ (a : Addr) (oe : Obj) (cls : Value) (d : Option Addr) (pn : List (Addr × Obj)), Zc cls d oe → (∃ vs, oe.data = .fields vs) → PSs (X.suite a ((a, oe) :: pn)) (b₀ :: suite) (ts a cls d)) :
    PS X (.Try body [.ExceptHandler (some (.Name x np)) (some n) (b₀ :: suite) pos'] [] [] pos) (fun D σ H => tb (wAsK X.K c i ts D) D σ H) := by
  constructor
  intro pins s σ H D I wish
  have tried := (hb (wAsK X.K c i ts D) (X.pn ++ pins) (catcher X pins D (.ExceptHandler (some (.Name x np)) (some n) (b₀ :: suite) pos')) fun u s1 => catches hs hf hex hN hi hln hg hm noD I.ok hsu).run [] s σ H D (I.toTry _) wish
  refine wpAny_Try_except (wpAny_mono tried ?_ fun _ _ z => z)
  rintro f s1 out
  match f, out with
  | .next, ⟨σ1, H1, J, q⟩ => exact wpAny_execs_nil ⟨σ1, H1, J.ofTry I.ok, q⟩
  | .brk, ⟨σ1, H1, J, q⟩ => exact ⟨σ1, H1, J.ofTry I.ok, q⟩
  | .cont, ⟨σ1, H1, J, q⟩ => exact ⟨σ1, H1, J.ofTry I.ok, q⟩
  | .ret _, ⟨v, σ1, H1, J, r, q⟩ => exact ⟨v, σ1, H1, J.ofTry I.ok, r, q⟩
end
end DS
end
section
set_option Elab.async false
set_option linter.all false
set_option maxRecDepth 100000
set_option maxHeartbeats 4000000
namespace DS
open PySem PySem.Spec PySem.Calls PyProof.Rows L2 LamX
open Evl (Ex ex_l ex_t ex_rd)
/-! ### isinstance and a field of a kept exception with a dict -/
/-- KE.KExcIs has it, for instances with a dict too -/
theorem kitX_exc {K : PySem.W.Frag} {x D : Addr} {ox : Obj} {od : Option Obj} (C : ExcC K D) : PySem.W.KitX K (.ref x) (.ref D) (fun h => PySem.W.InstAt h x ox D od) :=
  PySem.W.kitx_exc (by obtain ⟨_, e, _⟩ := PySem.W.any_some C.hd; rw [e]; rfl) C.hg C.hk C.hs C.ha C.hn C.ht C.hm
section
variable {X : Cx} {pins : List (Addr × Obj)} {σ : L2.St} {H : Hp} {s : Shared}
theorem inst_at {a D dx : Addr} {fs : List (Str × V)} (I : Inv X pins σ H s) (ha : H a = some (XO (.ref D) (some dx) a)) (hd : H dx = some (.xd fs)) : ∃ oe od, PySem.W.InstAt s.heap a oe D (some od) := by
  obtain ⟨⟨oe, vs, ho, hz, hv⟩, _, _⟩ := I.hok a _ ha
  obtain ⟨mA, ⟨od, es, ep, he, hde, _⟩, _⟩ := I.hok dx _ hd
  exact ⟨oe, od, ho, hz.1, by unfold PySem.W.notCls; rw [hv] <;> rfl, by rw [hz.2]; exact he⟩
/-- .. and what a name of its dict holds -/
theorem kept_field {a C dx : Addr} {fs : List (Str × V)} {n : Str} {v : V} (J : Inv X pins σ H s) (hx : H a = some (XO (.ref C) (some dx) a)) (hdx : H dx = some (.xd fs)) (T : XfC X.K C) (hno : PySem.W.findIn X.K (.ref C) n = some none) (l : fs.lookup n = some v) :
    ∃ (oe od : Obj) (y : Value), PySem.W.InstAt s.heap a oe C (some od) ∧ PySem.W.findObj X.K C (some od) n = some (.value y) ∧ RelV v y := by
  obtain ⟨⟨oe, parts, there, ofC, isE⟩, -, -⟩ := J.hok a _ hx
  obtain ⟨names, nsD, same⟩ := J.hok dx _ hdx
  obtain ⟨od, atD, look⟩ := lookIn_ns nsD
  obtain ⟨y, hy, ry⟩ := RelO.some_of (l ▸ same n)
  refine ⟨oe, od, y, ⟨there, ofC.1, ?_, ofC.2 ▸ atD⟩, PySem.W.findObj_own T.hdC hno rfl ((look n).trans (congrArg some hy)), ry⟩
  unfold PySem.W.notCls
  rw [isE] <;> rfl
/-- isinstance(e, c), e kept -/
theorem call_isX : CallR X (.builtin "isinstance") (fun xs H Q => ∃ (a D dx : Addr) (fs : List (Str × V)) (c : V) (cv : Value) (b : Bool), xs = [.ref a, c] ∧ H a = some (XO (.ref D) (some dx) a) ∧ H dx = some (.xd fs) ∧ ExcC X.K D ∧ (∀ u, RelV c u → u = cv) ∧ PySem.W.kitOne X.K (.ref D) cv = some b ∧ Q (.bl b) H) := by
  intro pins s σ H xs us Q I r h
  obtain ⟨a, D, dx, fs, c, cv, b, rfl, ha, hd, C, hcv, e, q⟩ := h
  match us, r with
  | [u1, u2], .cons rx (.cons rt .nil) =>
    cases rx
    have ec := hcv _ rt
    subst ec
    obtain ⟨oe, od, J⟩ := inst_at I ha hd
    exact PySem.W.kia_one (kitX_exc (od := some od) C) I.kIn J e (fun z => nomatch z) fun tk => ⟨.bl b, H, I.kept (t' := tk) fun _ _ z => z, rfl, q⟩
/-- isinstance(e, (c, ..)) -/
theorem call_isXt : CallR X (.builtin "isinstance") (fun xs H Q => ∃ (a D dx t : Addr) (fs : List (Str × V)) (cs : List Addr) (b : Bool), xs = [.ref a, .ref t] ∧ H a = some (XO (.ref D) (some dx) a) ∧ H dx = some (.xd fs) ∧ ExcC X.K D ∧ H t = some (.tup (cs.map V.ref)) ∧ PySem.W.kitAny X.K (.ref D) (cs.map Value.ref) = some b ∧ Q (.bl b) H) := by
  intro pins s σ H xs us Q I r h
  obtain ⟨a, D, dx, t, fs, cs, b, rfl, ha, hd, C, ht, e, q⟩ := h
  match us, r with
  | [u1, u2], .cons rx (.cons rt .nil) =>
    cases rx
    cases rt
    obtain ⟨oe, od, J⟩ := inst_at I ha hd
    obtain ⟨hsz, its, rv, ob, hob, hcl, n, hdt⟩ := I.hok t _ ht
    have hits : its = cs.map Value.ref := by
      clear hdt e q ht hsz
      induction cs generalizing its with
      | nil => cases rv; rfl
      | cons c cs ih =>
        cases rv with
        | cons r1 r2 =>
          rw [ih _ r2]
          cases r1
          rfl
    subst hits
    obtain ⟨oc, odd, odt, osl⟩ := ob
    dsimp only at hcl hdt
    subst hcl hdt
    exact PySem.W.kia_tup (kitX_exc (od := some od) C) I.kIn J hob e (fun z => nomatch z) fun tk => ⟨.bl b, H, I.kept (t' := tk) fun _ _ z => z, rfl, q⟩
/-- e.f, e kept -/
theorem pe_xfK {e : Expr} {te : TE} {pos : Pos} {n : Str} (he : PE X e te) (hb : attributeBase e n X.env (eval e X.env) = eval e X.env := by rfl) :
    PE X (.Attribute e n pos) (fun σ H Q => te σ H fun x H1 => ∃ (a C dx : Addr) (fs : List (Str × V)) (v : V), x = .ref a ∧ XfC X.K C ∧ PySem.W.findIn X.K (.ref C) n = some none ∧ H1 a = some (XO (.ref C) (some dx) a) ∧ H1 dx = some (.xd fs) ∧ fs.lookup n = some v ∧ Q v H1) := by
  constructor
  intro pins s σ H Q I h
  apply attr_of hb
  apply thn (he.run pins s σ H _ I h)
  rintro y s1 ⟨x, H1, J, rx, a, C, dx, fs, v, rfl, T, hno, hx, hdx, l, q⟩
  cases rx
  obtain ⟨oe, od, z, at_, fo, rz⟩ := kept_field J hx hdx T hno l
  exact HandSPX.exc_get J.kIn at_ T.ga T.gg T.exC fo (handed_of rz) ⟨v, H1, J.tok _, rz, q⟩
end
end DS
end
section
set_option Elab.async false
set_option linter.all false
set_option maxRecDepth 100000
set_option maxHeartbeats 2000000
namespace DS
open PySem PySem.Spec PyProof.Rows L2 LamX KD KT
open Evl (Ex ex_l ex_t ex_rd)
/-! ### what is asked of a kept exception -/
structure SaidC (K : PySem.W.Frag) (mg : Str → Option Value) (Cb Ck : Addr) : Prop where
  ex : ExcC K Cb
  xf : XfC K Cb
  noP : PySem.W.findIn K (.ref Cb) "place" = some none
  gK : mg "KeptError" = some (.ref Ck)
  gB : mg "BadGrammar" = some (.ref Cb)
  ek : PySem.W.exmOne K (.ref Cb) (.ref Ck) = some true
  kB : PySem.W.kitOne K (.ref Cb) (.ref Cb) = some true
  ln : ∃ C, mg "BadLine" = some (.ref C) ∧ PySem.W.kitOne K (.ref Cb) (.ref C) = some false
  fm : ∃ C, mg "BadForm" = some (.ref C) ∧ PySem.W.kitOne K (.ref Cb) (.ref C) = some false
  tx : ∃ C, mg "BadText" = some (.ref C) ∧ PySem.W.kitOne K (.ref Cb) (.ref C) = some false
  mn : ∃ C, mg "BadMeaning" = some (.ref C) ∧ PySem.W.kitOne K (.ref Cb) (.ref C) = some false
  qu : ∃ C, mg "BadQuestion" = some (.ref C) ∧ PySem.W.kitOne K (.ref Cb) (.ref C) = some false
/-- the exception at a, its dict at dx, its place dv -/
def OX (Cb a dx : Addr) (dv : V) (B : Hp) : Own := ⟨fun b => b = dx, fun H => H a = some (XO (.ref Cb) (some dx) a) ∧ H dx = some (.xd [("place", dv)]), fun q => B q = none, fun {H H'} h k => ⟨k a _ (.inr ⟨_, rfl⟩) h.1, k dx _ (.inl rfl) h.2⟩, fun {H b} h s => by
  have s : b = dx := s
  rw [s, h.2]; exact fun z => nomatch z⟩
def MX (Cb a dx : Addr) (dv : V) (F0 B : Hp) : Frm := ⟨OX Cb a dx dv B, F0, B, fun _ => Iff.rfl⟩
section
variable {X : Cx} {M : Frm} {O : Own} {ds : List Sl} {e c b : Expr} {es : List Expr} {pos p p1 p2 p3 : Pos} {Cb a dx : Addr} {dv : V} {F0 B : Hp} {nm sn cn : Str} {i k0 : Nat} {k : Bool} {x : PyData} {C : Cn} {rest : List Stmt}
theorem dt_isNv (ha : DG X O ds e (rV (.ref a))) {j : Nat} {p : Pos} : DT X O ds (.Compare e [.Is] [.Constant .none j p] pos) false :=
  pt_mono (pt_cmpR op_isN ha (pe_non (X := X)) rfl) fun σ H Q ⟨F, st, q⟩ => ⟨F, st, fun v F1 H1 g1 j1 ev => ⟨rfl, false, by
    have ev : v = .ref a := ev
    subst ev
    simp, q F1 H1 g1 j1⟩⟩
theorem dx_isX {D : Addr} {fs : List (Str × V)} {Cc : Addr} (i : Nat) (hm : X.mg "isinstance" = none) (hJ : ∀ H, O.J H → H a = some (XO (.ref D) (some dx) a) ∧ H dx = some (.xd fs)) (ec : ExcC X.K D) (hc : X.mg cn = some (.ref Cc)) (hk : PySem.W.kitOne X.K (.ref D) (.ref Cc) = some k) (hd : ds[i]? = some (.v (.ref a)) := by rfl) (hN : X.N[i]? = some sn := by rfl)
    (hv : Vis X.env.scope sn := by first | exact Or.inl rfl | exact Or.inr (Or.inl rfl) | exact Or.inr (Or.inr rfl)) (d1 : (sn == ("__debug__" : Str)) = false := by decide) (d2 : (sn == ("__classdict__" : Str)) = false := by decide) (hg : Gl X "isinstance" := by rfl) (hgc : Gl X cn := by rfl) (d3 : (cn == ("__debug__" : Str)) = false := by decide)
    (h1 : starEach [.Name sn p1, .Name cn p2] X.env = (false, eval (.Name sn p1) X.env) :: starEach [.Name cn p2] X.env := by rfl) (h2 : starEach [.Name cn p2] X.env = (false, eval (.Name cn p2) X.env) :: starEach [] X.env := by rfl)
    (hpl : (backTo pos (starEach [.Name cn p2] X.env)).any (·.1) = false := by rfl) : DX X O ds (.Call (.Name "isinstance" p) [.Name sn p1, .Name cn p2] [] pos) (.bool k) :=
  pe_mono (pe_callB call_isX hg hm PyProof.Rows.boot_isinstance (pa_cons (pe_var (i := i) hN hv d1 d2) (pa_cons (pe_glob (v := .ref Cc) hgc hc rfl d3) pa_nil h2) h1) (by decide) (by decide) h1 hpl) fun σ H Q ⟨F, st, q⟩ =>
    ⟨.ref a, st.val hd, a, D, dx, fs, .ref Cc, .ref Cc, k, rfl, (hJ H st.j).1, (hJ H st.j).2, ec, fun u r => r, hk, q _ F H (Grow.refl st.ex) st.j (.bl k)⟩
/-- names of classes -/
abbrev PGl (X : Cx) (es : List Expr) (cs : List Addr) : Prop := PA X es (fun _ H Q => Q (cs.map V.ref) H)
theorem pgl_nil : PGl X [] [] := pa_nil
theorem pgl_cons {Cc : Addr} {cs : List Addr} (hc : X.mg cn = some (.ref Cc)) (h : PGl X es cs) (hgc : Gl X cn := by rfl) (d3 : (cn == ("__debug__" : Str)) = false := by decide) (hs : starEach (.Name cn p :: es) X.env = (false, eval (.Name cn p) X.env) :: starEach es X.env := by rfl) : PGl X (.Name cn p :: es) (Cc :: cs) :=
  pa_cons (pe_glob (v := .ref Cc) hgc hc rfl d3) h hs
theorem dx_isXt {D : Addr} {fs : List (Str × V)} {cs : List Addr} (i : Nat) (hm : X.mg "isinstance" = none) (hJ : ∀ H, O.J H → H a = some (XO (.ref D) (some dx) a) ∧ H dx = some (.xd fs)) (ec : ExcC X.K D) (he : PGl X es cs) (hl : cs.length ≤ 100) (hk : PySem.W.kitAny X.K (.ref D) (cs.map Value.ref) = some k) (hd : ds[i]? = some (.v (.ref a)) := by rfl) (hN : X.N[i]? = some sn := by rfl)
    (hv : Vis X.env.scope sn := by first | exact Or.inl rfl | exact Or.inr (Or.inl rfl) | exact Or.inr (Or.inr rfl)) (d1 : (sn == ("__debug__" : Str)) = false := by decide) (d2 : (sn == ("__classdict__" : Str)) = false := by decide) (hg : Gl X "isinstance" := by rfl)
    (h1 : starEach [.Name sn p1, .Tuple es k0 p2] X.env = (false, eval (.Name sn p1) X.env) :: starEach [.Tuple es k0 p2] X.env := by rfl) (h2 : starEach [.Tuple es k0 p2] X.env = (false, eval (.Tuple es k0 p2) X.env) :: starEach [] X.env := by rfl)
    (hpl : (backTo pos (starEach [.Tuple es k0 p2] X.env)).any (·.1) = false := by rfl) : DX X O ds (.Call (.Name "isinstance" p) [.Name sn p1, .Tuple es k0 p2] [] pos) (.bool k) :=
  pe_mono (pe_callB call_isXt hg hm PyProof.Rows.boot_isinstance (pa_cons (pe_var (i := i) hN hv d1 d2) (pa_cons (pe_tup he) pa_nil h2) h1) (by decide) (by decide) h1 hpl) fun σ H Q ⟨F, st, q⟩ =>
    ⟨.ref a, st.val hd, Evl.sz_of (by rw [List.length_map]; omega), fun t ht => by
      have g := Grow.new (O := O) (o := .tup (cs.map V.ref)) st.ex ht
      have j := own_new (O := O) (o := .tup (cs.map V.ref)) st.j ht
      obtain ⟨j1, j2⟩ := hJ _ j
      exact ⟨a, D, dx, t, fs, cs, k, rfl, j1, j2, ec, upd_same, hk, q _ _ _ g j (.bl k)⟩⟩
/-- e.place of it -/
theorem dga_place {pl : PyData} (i : Nat) (T : XfC X.K Cb) (noP : PySem.W.findIn X.K (.ref Cb) "place" = some none) (d : Dp X.K F0 dv pl) (hd : ds[i]? = some (.v (.ref a)) := by rfl) (hN : X.N[i]? = some sn := by rfl)
    (hv : Vis X.env.scope sn := by first | exact Or.inl rfl | exact Or.inr (Or.inl rfl) | exact Or.inr (Or.inr rfl)) (d1 : (sn == ("__debug__" : Str)) = false := by decide) (d2 : (sn == ("__classdict__" : Str)) = false := by decide)
    (hb : attributeBase (.Name sn p1) "place" X.env (eval (.Name sn p1) X.env) = eval (.Name sn p1) X.env := by rfl) : DGA X (MX Cb a dx dv F0 B) ds (.Attribute (.Name sn p1) "place" pos) (rD X.K pl) :=
  pe_mono (pe_xfK (pe_var (i := i) hN hv d1 d2) hb) fun σ H Q ⟨F, at_, q⟩ => ⟨.ref a, at_.st.val hd, a, Cb, dx, [("place", dv)], dv, rfl, T, noP, at_.st.j.1, at_.st.j.2, rfl, q dv F H (Grow.refl at_.st.ex) at_.st.j (d.up at_.g.f)⟩
theorem dga_if {R : Rs} (hc : DT X M.O ds c true) (ha : DGA X M ds e R) (hR : ∀ H0 H1 F' H' v, R H1 F' H' v → R H0 F' H' v := by intro H0 H1 F' H' v h; exact h) : DGA X M ds (.IfExp c e b pos) R :=
  pe_mono (pe_ifExp hc ha (pe_mono (t' := fun σ H Q => False) (t := fun σ H Q => False) ⟨fun _ _ _ _ _ _ z => z.elim⟩ fun _ _ _ z => z)) fun σ H Q ⟨F, at_, q⟩ => ⟨F, at_.st, fun F1 H1 g1 j1 => iteT ⟨F1, at_.grow g1 j1, fun v F2 H2 g2 j2 r2 => q v F2 H2 (g1.trans g2) j2 (hR _ _ _ _ _ r2)⟩⟩
theorem dw_setA (i : Nat) (hN : X.N.Nodup) (he : DGA X M ds e (rD X.K x)) (h : DW X M (ds.set i (.d x)) rest C) (hi : X.N[i]? = some nm := by rfl) (hx : Loc X.env.scope nm := by first | exact .inl rfl | exact .inr rfl) (hs : swapsWith e (some (.Name nm p)) pos.line X.env = pure false := by rfl) (hf : X.fn nm = true ∨ X.env.scope.names.lookup nm = some .local := by first | exact .inl rfl | exact .inr rfl) : DW X M ds (.Assign [.Name nm p] e pos :: rest) C :=
  dw_seq (N := fun ds' => ds' = ds.set i (.d x)) (ps_mono (ps_set hN hi hx he hs hf) fun D σ H ⟨F, at_, q, _⟩ => ⟨F, at_, fun v F' H' g j d => q.here g.f ((at_.grow g j).setD d) ⟨rfl, rfl⟩⟩) fun _ e => e ▸ h
end
end DS
end
section
set_option Elab.async false
set_option linter.all false
set_option maxRecDepth 100000
set_option maxHeartbeats 2000000
namespace KS
open PySem PySem.Spec PyProof.Rows L2 DS KT KM KD KL LamX
open Evl (Ex ex_l ex_t ex_rd)
section
variable {P : Program} {w : World} {K : PySem.W.Frag} {mg : Str → Option Value} {base : Heap} {Cb Ck fI : Addr}
abbrev Xsaid (P : Program) (w : World) (K : PySem.W.Frag) (mg : Str → Option Value) (base : Heap) (g : Addr) (cdg : Value) (A : Around) (outer : List Env) (s : Shared) (H : Hp) : Cx := (cxOf C8.CX0 P w K mg base N_law_said "_law_said" (defScope s_law_said) g cdg A outer s H C8.E0).nox
/-- the tail behind the try, nothing caught -/
theorem said_ok {f : Addr} {x : PyData} {g : Addr} {cdg : Value} {A : Around} {outer : List Env} {s : Shared} {H : Hp} {F0 : Hp} : DW (Xsaid P w K mg base g cdg A outer s H) (Bm F0 H) [.v (.ref f), .u, .u, .u, .l [x], .d .none, .u, .u] ((defBody s_law_said).drop 2) { nx := fun _ _ => False, rt := fun _ r => r = .d (.list [x]) } := by
  refine dw_if (k := true) (dt_isN (x := .none) (dx_var 5)) (fun _ => ?_) (fun z => nomatch z)
  exact dw_retL 4 rfl rfl
def kindsD (b : Bool × Bool × Bool × Bool) : List PyData := [.tuple [.str "grammar", .bool b.1], .tuple [.str "line", .bool b.2.1], .tuple [.str "form", .bool b.2.2.1], .tuple [.str "text", .bool b.2.2.2]]
def btK (x : PyData) : Bool := match x with
  | .tuple [_, .bool b] => b
  | _ => false
def fK (x : PyData) : PyData := match x with
  | .tuple [a, _] => a
  | _ => .none
/-- .. something caught -/
theorem said_ex (m : Free mg) (S : SaidC K mg Cb Ck) {f a dx : Addr} {dv : V} {pl : PyData} {g : Addr} {cdg : Value} {A : Around} {outer : List Env} {s : Shared} {H : Hp} {F0 B : Hp} (d : Dp K F0 dv pl) : DW (Xsaid P w K mg base g cdg A outer s H) (MX Cb a dx dv F0 B) [.v (.ref f), .u, .u, .u, .u, .v (.ref a), .u, .u] ((defBody s_law_said).drop 2) { nx := fun _ _ => False, rt := fun O' r => O' = OX Cb a dx dv B ∧ r = .d (.tuple [.str "grammar", pl]) } := by
  have hN := sc_law_said.nd
  have hJ : ∀ H, (OX Cb a dx dv B).J H → H a = some (XO (.ref Cb) (some dx) a) ∧ H dx = some (.xd [("place", dv)]) := fun H h => h
  obtain ⟨Cl, l1, l2⟩ := S.ln
  obtain ⟨Cf, f1, f2⟩ := S.fm
  obtain ⟨Ct, t1, t2⟩ := S.tx
  obtain ⟨Cm, m1, m2⟩ := S.mn
  obtain ⟨Cq, q1, q2⟩ := S.qu
  refine dw_ifR (k := false) (dt_isNv (a := a) (dv_var 5)) (fun z => nomatch z) (fun _ => ?_)
  refine dw_setO (M := MX Cb a dx dv F0 B) 2 hN (do_lst (da_cons (dx_tup (da_cons dx_str (da_one (dx_isX 5 m.isi hJ S.ex S.gB S.kB)))) (da_one (dx_tup (da_cons dx_str (da_one (dx_isX 5 m.isi hJ S.ex l1 l2))))))) ?_
  refine dw_setO (M := MX Cb a dx dv F0 B) 2 hN (do_cat (dlt_var 2) (dlt_ofO (do_lst (da_cons (dx_tup (da_cons dx_str (da_one (dx_isX 5 m.isi hJ S.ex f1 f2)))) (da_one (dx_tup (da_cons dx_str (da_one (dx_isX 5 m.isi hJ S.ex t1 t2)))))))) (by decide)) ?_
  refine dw_setLc (M := MX Cb a dx dv F0 B) (i := 2) (own := [("word", 6), ("is_so", 7)]) (xs := kindsD (true, false, false, false)) (g := tg2 6 7) btK fK rfl hN (dig_own (dlt_var 2)) (blkOk_by (N := N_law_said) (sc := defScope s_law_said) (by decide +kernel)) (by decide) (fun s H C cl fp => dtg2 6 7 rfl hN (gn 6 hN) (gn 7 hN)) (fun x hx => ?_) (fun s H C cl fp x ds1 hx e => ?_) (fun s H C cl fp x ds1 hx _ e => ?_) ?_
  · have : ∃ u v, x = .tuple [u, v] := by
      simp only [kindsD, List.mem_cons, List.not_mem_nil, or_false] at hx
      rcases hx with rfl | rfl | rfl | rfl <;> exact ⟨_, _, rfl⟩
    obtain ⟨u, v, rfl⟩ := this
    exact ⟨_, rfl⟩
  · have : ∃ u b, x = .tuple [u, .bool b] := by
      simp only [kindsD, List.mem_cons, List.not_mem_nil, or_false] at hx
      rcases hx with rfl | rfl | rfl | rfl <;> exact ⟨_, _, rfl⟩
    obtain ⟨u, b, rfl⟩ := this
    cases e
    exact pts_one (dt_val (dx_var 7))
  · have : ∃ u b, x = .tuple [u, .bool b] := by
      simp only [kindsD, List.mem_cons, List.not_mem_nil, or_false] at hx
      rcases hx with rfl | rfl | rfl | rfl <;> exact ⟨_, _, rfl⟩
    obtain ⟨u, b, rfl⟩ := this
    cases e
    exact dx_var 6
  show DW _ _ [.v (.ref f), .u, .l [.str "grammar"], .u, .u, .v (.ref a), .u, .u] _ _
  have k1 : PySem.W.kitAny K (.ref Cb) ([Cm, Cq].map Value.ref) = some false := by
    show (match PySem.W.kitOne K (.ref Cb) (.ref Cm) with | some true => some true | some false => (match PySem.W.kitOne K (.ref Cb) (.ref Cq) with | some true => some true | some false => some false | none => none) | none => none) = some false
    rw [m2]
    show (match PySem.W.kitOne K (.ref Cb) (.ref Cq) with | some true => some true | some false => some false | none => none) = some false
    rw [q2]
  have k2 : PySem.W.kitAny K (.ref Cb) ([Cf, Cb, Cl, Ct].map Value.ref) = some true := by
    show (match PySem.W.kitOne K (.ref Cb) (.ref Cf) with | some true => some true | some false => PySem.W.kitAny K (.ref Cb) ([Cb, Cl, Ct].map Value.ref) | none => none) = some true
    rw [f2]
    show (match PySem.W.kitOne K (.ref Cb) (.ref Cb) with | some true => some true | some false => PySem.W.kitAny K (.ref Cb) ([Cl, Ct].map Value.ref) | none => none) = some true
    rw [S.kB]
  refine dw_ifR (k := false) (dw_pt (dw_or (k := false) (k' := false) (dt_is (dt_cmp op_ne (dx_len m.len (dl_var 2)) dx_int op2_neI) (by decide)) fun _ => dw_or1 (dt_val (dx_isXt 5 m.isi hJ S.ex (pgl_cons m1 (pgl_cons q1 pgl_nil)) (by show 2 ≤ 100; decide) k1)))) (fun z => nomatch z) (fun _ => ?_)
  refine dw_setA 3 hN (dga_if (dt_val (dx_isXt 5 m.isi hJ S.ex (pgl_cons f1 (pgl_cons S.gB (pgl_cons l1 (pgl_cons t1 pgl_nil)))) (by show 4 ≤ 100; decide) k2)) (dga_place 5 S.xf S.noP d)) ?_
  exact dw_ret (dx_tup (da_cons (dx_ixLt (dlt_var 2) dx_int rfl) (da_one (dx_var 3))) (by show 2 ≤ 100000; decide)) ⟨rfl, rfl⟩
end
end KS
end
section
set_option Elab.async false
set_option linter.all false
set_option maxRecDepth 100000
set_option maxHeartbeats 2000000
namespace DS
open PySem PySem.Spec PyProof.Rows L2 LamX
open Evl (Ex ex_l ex_t ex_rd)
/-- a lambda, as the def that got it calls it -/
def ActP (X : Cx) (a : Str) (f c' : Addr) (q : Str) (tl : XK → Hp → VK → Prop) : Prop := ∀ (W : WX) (pn : List (Addr × Obj)) (xe : Value → Shared → Prop) (p1 p2 : Pos), Takes (X.tr pn xe) W →
  PE (X.tr pn xe) (.Call (.Name a p1) [] [] p2) (fun σZ HZ Q => σZ[0]? = some (some (.ref f)) ∧ HZ c' = some (CodeO c' q) ∧ tl (fun cls d H' => W cls d σZ H') HZ Q)
/-- what _law_said makes of it -/
def TTs (K : PySem.W.Frag) (Cb : Addr) : (XK → Hp → VK → Prop) → Hp → VK → Prop := fun tl H Q => ∃ (F : Hp) (good bad : PyData → Prop), Ex F H ∧
  (∀ (E : XK) (F1 H1 : Hp) (Q1 : VK), Grow Own.no F H F1 H1 → (∀ v F' H' x, Grow Own.no F1 H1 F' H' → Dp K F' v x → good x → Q1 v H') → Wb K Cb F1 H1 bad E → tl E H1 Q1) ∧
  (∀ v F' H' x, Grow Own.no F H F' H' → Dp K F' v x → ((∃ y, good y ∧ x = .list [y]) ∨ (∃ y, bad y ∧ x = .tuple [.str "grammar", y])) → Q v H')
theorem st_vals {K : PySem.W.Frag} {O : Own} {F H : Hp} {σ : L2.St} {ds : List Sl} (hu : ∀ s ∈ ds, s = Sl.u ∨ ∃ x, s = Sl.v x) (hl : σ.length = ds.length) (hv : ∀ (i : Nat) x, ds[i]? = some (Sl.v x) → σ[i]? = some (some x)) (ex : Ex F H) (sf : ∀ a, O.S a → F a = none) (j : O.J H) : StOk K O F σ H ds := by
  refine ⟨ex, sf, j, hl, fun i s o e1 e2 => ?_, fun i k s t p hik e1 o1 e2 o2 e3 e4 => ?_⟩
  · rcases hu s (List.mem_of_getElem? e1) with rfl | ⟨x, rfl⟩
    · trivial
    · have := hv i x e1
      rw [e2] at this
      cases this
      rfl
  · rcases hu s (List.mem_of_getElem? e1) with rfl | ⟨x, rfl⟩ <;> cases o1
end DS
namespace KS
open PySem PySem.Spec PyProof.Rows L2 DS KT KM KD KL LamX
open Evl (Ex ex_l ex_t ex_rd)
section
variable {P : Program} {w : World} {K : PySem.W.Frag} {mg : Str → Option Value} {base : Heap} {Cb Ck fI : Addr}
def okDs (f : Addr) (x : PyData) : List Sl := [.v (.ref f), .u, .u, .u, .l [x], .d .none, .u, .u]
def exDs (f a : Addr) : List Sl := [.v (.ref f), .u, .u, .u, .u, .v (.ref a), .u, .u]
def okCn (x : PyData) : Cn := { nx := fun _ _ => False, rt := fun _ r => r = .d (.list [x]) }
def exCn (Cb a dx : Addr) (dv : V) (B : Hp) (pl : PyData) : Cn := { nx := fun _ _ => False, rt := fun O' r => O' = OX Cb a dx dv B ∧ r = .d (.tuple [.str "grammar", pl]) }
def tTail (K : PySem.W.Frag) (Cb f : Addr) (H0 : Hp) : TS := fun D σ H => (∃ F0 x, tW K (Bm F0 H0) (okDs f x) (okCn x) D σ H) ∨ ∃ a dx dv pl F0 B, Dp K F0 dv pl ∧ tW K (MX Cb a dx dv F0 B) (exDs f a) (exCn Cb a dx dv B pl) D σ H
def tbS (f c' : Addr) (q : Str) (tl : XK → Hp → VK → Prop) (W : WX) : TS := fun D σ H => ∃ l vs, σ[4]? = some (some (.ref l)) ∧ H l = some (.lst vs) ∧ σ[0]? = some (some (.ref f)) ∧ H c' = some (CodeO c' q) ∧ tl (fun cls d H' => W cls d σ H') H (fun v H' => rAppend (.ref l) [v] H' (fun _ H'' => D.nx σ H''))
def tsS (_ : Addr) (_ : Value) (_ : Option Addr) : TS := fun D σ H => ∃ v, σ[1]? = some (some v) ∧ D.nx (σ.set 5 (some v)) H
theorem said_gives (m : Free mg) (S : SaidC K mg Cb Ck) {f c' g : Addr} {q : Str} {cdg : Value} {A : Around} {outer : List Env} {s : Shared} {H : Hp} {Q : VK} {tl : XK → Hp → VK → Prop} (act : ActP (Xsaid P w K mg base g cdg A outer s H) "call" f c' q tl) (hc : H c' = some (CodeO c' q)) (ht : TTs K Cb tl H Q) :
    ∃ t, PSs (Xsaid P w K mg base g cdg A outer s H) (defBody s_law_said) t ∧ t { nx := fun _ H' => Q .non H', rt := Q } (L2.start N_law_said [.ref f]) H := by
  obtain ⟨F, good, bad, ex, hcall, hres⟩ := ht
  have hN := sc_law_said.nd
  have tail : PSs (Xsaid P w K mg base g cdg A outer s H) ((defBody s_law_said).drop 2) (tTail K Cb f H) := ⟨fun pins s' σ H' D I z => by
    rcases z with ⟨F0, x, z⟩ | ⟨a, dx, dv, pl, F0, B, d, z⟩
    · exact said_ok.run pins s' σ H' D I z
    · exact (said_ex m S d).run pins s' σ H' D I z⟩
  refine' Exists.intro (tSeq _ (tSeq (fun D σ H => tbS f c' q tl (wAsK K (.ref Ck) 1 tsS D) D σ H) (tTail K Cb f H))) (And.intro (pss_cons ?h1 (pss_cons ?h2 tail)) ?h3)
  case h1 => exact d1_par (M := Bm F H) (ds := [.v (.ref f), .u, .u, .u, .u, .u, .u, .u]) (C := { nx := fun O' ds' => O' = Bo H ∧ ds' = [.v (.ref f), .u, .u, .u, .l [], .d .none, .u, .u], rt := fun _ _ => False }) 4 5 rfl hN (rn_l (do_lst da_nil)) (rn_d dx_non) ⟨rfl, rfl⟩ (by with_unfolding_all rfl)
  case h2 =>
    refine ps_try_keep (c := .ref Ck) (i := 1) (tb := tbS f c' q tl) (ts := tsS) rfl rfl rfl hN rfl rfl rfl S.gK (by decide) (fun W pn xe tk => ?_) (fun a oe cls d pn _ _ => ?_)
    · exact pss_one (ps_mono (ps_expr (pe_bm PySem.F.plainAttrs_list PySem.F.slot_list_append PySem.F.type_list_append mt_append (pe_var (i := 4) rfl (.inl rfl)) (pa_cons (act W pn xe _ _ tk) pa_nil))) fun D σ H ⟨l, vs, e1, hl, e2, e3, h⟩ => ⟨.ref l, e1, .inl ⟨rfl, vs, SqL.of hl⟩, e2, e3, h⟩)
    · exact pss_one (ps_mono (ps_set (i := 5) hN rfl (.inl rfl) (pe_var (i := 1) rfl (.inl rfl))) fun D σ H h => h)
  have st0 : StOk K (Bo H) F (L2.start N_law_said [.ref f]) H [.v (.ref f), .u, .u, .u, .u, .u, .u, .u] := by
    refine st_vals (fun s hs => ?_) rfl (fun i x e => ?_) ex (fun a z => z.elim) trivial
    · simp only [List.mem_cons, List.not_mem_nil, or_false] at hs
      rcases hs with rfl | rfl | rfl | rfl | rfl | rfl | rfl | rfl
      · exact .inr ⟨_, rfl⟩
      all_goals exact .inl rfl
    · rcases i with _ | _ | _ | _ | _ | _ | _ | _ | i
      · cases e; rfl
      all_goals first | cases e | (simp at e)
  refine ⟨F, ⟨st0, Grow.refl ex⟩, fun σ1 H1 F1 ds1 O1 sm1 e1 a1 ⟨eO, eds⟩ => ?_, fun _ _ _ _ _ _ _ _ _ z => z.elim, fun _ _ _ _ _ _ _ _ z => z.elim, fun _ _ _ _ _ _ _ _ z => z.elim⟩
  subst eO eds
  have a1 : At K (Bm F H) F1 σ1 H1 [.v (.ref f), .u, .u, .u, .l [], .d .none, .u, .u] := a1
  have g1 : Grow Own.no F H F1 H1 := bo_no a1.g
  obtain ⟨l, vs, s4, fl, nsl, hl, dl, wl⟩ := a1.st.lst (i := 4) rfl
  have dl := dl.nil_of
  subst dl
  have hc1 : H1 c' = some (CodeO c' q) := g1.h c' _ (fun z => z) hc
  refine ⟨l, [], s4, hl, a1.st.val (i := 0) rfl, hc1, hcall _ F1 H1 _ g1 (fun v F' H' x g d hx => ?_) (fun pl dv dx F' H' g hb d n1 n2 hx => ?_)⟩
  · have hl' : H' l = some (.lst []) := g.h l _ (fun z => z) hl
    refine ⟨l, [], v, rfl, rfl, hl', by rw [sizeLine_eq]; decide, .inl ⟨F, x, ?_⟩⟩
    have a2 := a1.grow g.lift trivial
    have nF' : F' l = none := by
      cases e : F' l with
      | none => rfl
      | some u => have := g.n l fl (by rw [e]; exact fun z => nomatch z); rw [hl] at this; cases this
    have a3 : At K (Bm F H) F' σ1 (upd H' l (.lst ([] ++ [v]))) (okDs f x) := a2.write (s := .l []) (t := .l [x]) (i := 4) rfl rfl s4 ⟨l, [v], rfl, nF', fun z => z, upd_same, .cons d .nil, wl⟩ rfl
    refine ⟨F', a3, fun _ _ _ _ _ _ _ _ z => z.elim, fun u r F'' H'' O' m' g' j o hr => ?_, fun _ _ _ _ _ _ _ _ z => z.elim, fun _ _ _ _ _ _ _ _ z => z.elim⟩
    have hr : r = .d (.list [x]) := hr
    subst hr
    exact hres u F'' H'' _ (bo_no g') o (.inl ⟨x, hx, rfl⟩)
  · refine ⟨S.ek, fun a ha => ?_⟩
    have l1 : σ1.length = 8 := a1.st.len
    refine ⟨.ref a, ?_, .inr ⟨a, dx, dv, pl, F', upd H' a (XO (.ref Cb) (some dx) a), d, ?_⟩⟩
    · rw [List.getElem?_set_self (by rw [l1]; decide)]
    have hadx : dx ≠ a := fun z => by rw [z, ha] at hx; cases hx
    have ex2 : Ex F' (upd H' a (XO (.ref Cb) (some dx) a)) := fun b o hb => by
      have h1 := g.s b o hb
      rw [upd_ne (ne_of_none h1 ha)]
      exact h1
    have st2 : StOk K (OX Cb a dx dv (upd H' a (XO (.ref Cb) (some dx) a))) F' (((σ1.set 1 (some (.ref a))).set 5 (some (.ref a))).set 1 none) (upd H' a (XO (.ref Cb) (some dx) a)) (exDs f a) := by
      refine st_vals (fun s hs => ?_) (by rw [List.length_set, List.length_set, List.length_set, l1]; rfl) (fun i x e => ?_) ex2 (fun b z => ?_) ⟨upd_same, by rw [upd_ne hadx]; exact hx⟩
      · simp only [exDs, List.mem_cons, List.not_mem_nil, or_false] at hs
        rcases hs with rfl | rfl | rfl | rfl | rfl | rfl | rfl | rfl
        · exact .inr ⟨_, rfl⟩
        · exact .inl rfl
        · exact .inl rfl
        · exact .inl rfl
        · exact .inl rfl
        · exact .inr ⟨_, rfl⟩
        · exact .inl rfl
        · exact .inl rfl
      · rcases i with _ | _ | _ | _ | _ | _ | _ | _ | i
        · cases e
          rw [List.getElem?_set_ne (by decide), List.getElem?_set_ne (by decide), List.getElem?_set_ne (by decide)]
          exact a1.st.val (i := 0) rfl
        · cases e
        · cases e
        · cases e
        · cases e
        · cases e
          rw [List.getElem?_set_ne (by decide), List.getElem?_set_self (by rw [List.length_set, l1]; decide)]
        · cases e
        · cases e
        · simp [exDs] at e
      · have z : b = dx := z
        rw [z]; exact n2
    refine ⟨F', ⟨st2, Grow.refl ex2⟩, fun _ _ _ _ _ _ _ _ z => z.elim, fun u r F'' H'' O' m' g' j o hr => ?_, fun _ _ _ _ _ _ _ _ z => z.elim, fun _ _ _ _ _ _ _ _ z => z.elim⟩
    obtain ⟨eO, hr⟩ := hr
    subst eO hr
    refine hres u F'' H'' _ ?_ o (.inr ⟨pl, hb, rfl⟩)
    have g3 : Grow Own.no F' H' F' (upd H' a (XO (.ref Cb) (some dx) a)) := Grow.own g.s ha
    have g4 : Grow Own.no F' (upd H' a (XO (.ref Cb) (some dx) a)) F'' H'' := ⟨g'.f, fun b o _ hb => by
      by_cases z : b = dx
      · subst z
        rw [upd_ne hadx, hx] at hb
        cases hb
        exact j.2
      · exact g'.h b o z hb, g'.s, g'.n, g'.t⟩
    exact ((g1.trans g).trans g3).trans g4
end
end KS
end
section
set_option Elab.async false
set_option linter.all false
set_option maxRecDepth 100000
set_option maxHeartbeats 4000000
namespace DS
open PySem PySem.Spec PyProof.Rows L2 LamX
open Evl (Ex ex_l ex_t ex_rd)
/-! ### a lambda, perhaps with defaults (KE.KDflt makes it) -/
abbrev lfn (q : Str) (params : Arguments) (body : Expr) (scope : Scope) (cl : List (Str × Addr)) (pm cdv ct dV doc : Value) : FuncData := PySem.W.kdv_fn "<lambda>" q params (.expr body) scope cl dV doc pm cdv ct
abbrev lobj (q : Str) (params : Arguments) (body : Expr) (scope : Scope) (cl : List (Str × Addr)) (pm cdv ct dV doc : Value) : Obj := { cls := .type "function", data := .func (lfn q params body scope cl pm cdv ct dV doc) }
/-- the step of the heap at the making: the table grown, the code object known *or* nothing -/
def LStep (H H1 : Hp) (c' P : Addr) (q : Str) : Prop := H1 = H ∨ (H c' = none ∧ ∃ ps ps', H P = some (.tbl ps) ∧ H1 = upd (upd H P (.tbl ps')) c' (CodeO c' q))
/-- the tables, where one of them gets a row more, of a new code object -/
theorem tabs_row {T : List (Addr × Str)} {H : Hp} {P c' : Addr} {q : Str} {ps : Array Value} {pos : Pos} (hT : Tabs T H) (hP : H P = some (.tbl ps)) (hm : (P, q) ∈ T) (hu : ∀ p ∈ T, p.1 = P → p.2 = q) (new : H c' = none) :
    Tabs T (upd (upd H P (.tbl (ps ++ #[rawInt pos.line, rawInt pos.col, .ref c']))) c' (CodeO c' q)) := by
  have notNew : ∀ {b o}, H b = some o → b ≠ c' := fun e => ne_of_none e new
  have code : ∀ {c r}, H c = some (CodeO c r) → upd (upd H P (.tbl (ps ++ #[rawInt pos.line, rawInt pos.col, .ref c']))) c' (CodeO c' q) c = some (CodeO c r) := by
    intro c r e
    have notP : c ≠ P := by
      rintro rfl
      exact codeO_ne ps (Option.some.inj (e.symm.trans hP))
    rw [upd_ne (notNew e), upd_ne notP, e]
  rintro ⟨P2, r⟩ mem
  obtain ⟨rows, at2, good, named⟩ := hT _ mem
  by_cases same : P2 = P
  · subst same
    obtain rfl : r = q := hu _ mem rfl
    obtain rfl : rows = ps := by
      rw [hP] at at2
      cases at2; rfl
    refine ⟨_, (upd_ne (notNew hP)).trans upd_same, ?_, ?_⟩
    · rw [Array.toList_append]
      exact PySem.TriplesOk_snoc _ _ _ _ good
    · intro p v e
      rw [Array.toList_append] at e
      rcases among_app _ good e with old | new'
      · obtain ⟨c, e1, e2⟩ := named p v old
        exact ⟨c, e1, code e2⟩
      · exact ⟨c', new', upd_same⟩
  · refine ⟨rows, (upd_ne (notNew at2)).trans ((upd_ne same).trans at2), good, fun p v e => ?_⟩
    obtain ⟨c, e1, e2⟩ := named p v e
    exact ⟨c, e1, code e2⟩
section
variable {X : Cx} {pins : List (Addr × Obj)} {σ : L2.St} {H : Hp} {s : Shared}
/-- what is new is no frame -/
theorem nofr_of (I : Inv X pins σ H s) : ∀ f, s.heap.objs.size ≤ f → f ∉ frs X.stack := by
  intro f above isF
  rcases List.mem_cons.mp (I.stkSub _ isF) with rfl | isO
  · exact absurd I.lt (Nat.not_lt.mpr above)
  · exact I.nofs above isO
theorem lam_tail {T : List (Addr × Str)} {c P : Addr} {params : Arguments} {body : Expr} {scope : Scope} {pos : Pos} {line : Nat} {dV : Value} {q : Str} {E : Value → Shared → Prop} {Q : Value → Shared → Prop} (I : Inv X pins σ H s) (TB : TabB X.base X.mg c P) (hcode : X.env.code = .ref c)
    (hm : (P, q) ∈ T) (hu : ∀ p ∈ T, p.1 = P → p.2 = q) (hT : Tabs T H) (hfree : ∀ y ∈ scope.names, y.2 = .free → ∃ c, X.env.cells.lookup y.1 = some c)
    (h : ∀ (f c' : Addr) (pm ctv doc : Value) (H1 : Hp) (s' : Shared), Inv X pins σ H1 s' → LStep H H1 c' P q → Tabs T H1 → (∀ b o, b ≠ P → s.heap.get? b = some o → s'.heap.get? b = some o) →
      s'.heap.get? f = some (lobj q params body scope (cloFrom X.env.cells scope.names []) pm (.ref c') ctv dV doc) → H1 f = none → f ∉ frs X.stack → H1 c' = some (CodeO c' q) → Q (.ref f) s') :
    wpAny (model X.prog X.w) X.A (makeTail "<lambda>" q params (.expr body) scope X.env dV .none none pos line) Q E s := by
  obtain ⟨ps, tracked, good, named⟩ := hT _ hm
  have atP : s.heap.get? P = some (PySem.W.tabObj ps) := I.hok P _ tracked
  match found : codeAmong pos ps.toList with
  | some cv =>
    obtain ⟨c', rfl, known⟩ := named pos cv found
    apply PySem.W.kdv_makeTailHit (mg := X.mg) (ps := ps) (closure_ok hfree) I.ok.glob (I.mod.glob.keeps I.bk) hcode (TB.code.keeps I.bk) atP good found (TB.bm.keeps I.bk)
    intro ctv doc h' tk kept grew
    exact h _ c' _ ctv doc H _ (I.kept fun b o e => Heap.get?_push_of_some _ (kept b o e)) (.inl rfl) hT (fun b o _ e => Heap.get?_push_of_some _ (kept b o e)) (Heap.get?_push_size _ rfl) (I.hok.fresh grew) (nofr_of I _ grew) known
  | none =>
    apply PySem.W.kdv_makeTail (mg := X.mg) (ps := ps) (closure_ok hfree) I.ok.glob (I.mod.glob.keeps I.bk) hcode (TB.code.keeps I.bk) atP good found TB.gP (TB.bm.keeps I.bk)
    rintro c' ctv doc h' tk kept above below ⟨_, oc, vs, t, ⟨⟩, atC, isC, its⟩ row
    have grew : s.heap.objs.size ≤ h'.objs.size := Nat.le_trans above (Nat.le_of_lt below)
    have newC : H c' = none := I.hok.fresh above
    have newF : h'.objs.size ≠ c' ∧ h'.objs.size ≠ P := ⟨Nat.ne_of_gt below, Nat.ne_of_gt (Nat.lt_of_lt_of_le (Heap.lt_size atP) grew)⟩
    refine h h'.objs.size c' _ ctv doc _ _ (inv_table I tracked (fun b o ne e => Heap.get?_push_of_some _ (kept b o ne e)) (Heap.get?_push_of_some _ row) above ⟨oc, vs, t, Heap.get?_push_of_some _ atC, isC, its⟩) (.inr ⟨newC, ps, _, tracked, rfl⟩) (tabs_row hT tracked hm hu newC)
      (fun b o ne e => Heap.get?_push_of_some _ (kept b o ne e)) (Heap.get?_push_size _ rfl) ?_ (nofr_of I _ grew) upd_same
    rw [upd_ne newF.1, upd_ne newF.2, I.hok.fresh grew]
end
/-! ### its names, its frame -/
structure LamP (N : List Str) (sc scope : Scope) (bs : List Str) : Prop where
  kind : scope.kind = .function
  co : scope.isCoroutine = false
  gen : scope.isGenerator = false
  own : ∀ y ∈ scope.names, y.2 ≠ .cell ∧ (y.2 = .local → y.1 ∉ N)
  free : ∀ y ∈ scope.names, y.2 = .free → sc.names.lookup y.1 = some .cell ∨ sc.names.lookup y.1 = some .free
  bnd : ∀ y ∈ bs, scope.names.lookup y = some .local
def lamPB (N : List Str) (sc scope : Scope) (bs : List Str) : Bool :=
  decide (scope.kind = .function) && !scope.isCoroutine && !scope.isGenerator && (scope.names.all fun y => !decide (y.2 = .cell) && (!decide (y.2 = .local) || !decide (y.1 ∈ N)) && (!decide (y.2 = .free) || decide (sc.names.lookup y.1 = some .cell) || decide (sc.names.lookup y.1 = some .free))) && bs.all fun y => decide (scope.names.lookup y = some .local)
theorem lamP_by {N : List Str} {sc scope : Scope} {bs : List Str} (h : lamPB N sc scope bs = true) : LamP N sc scope bs := by
  unfold lamPB at h
  simp only [Bool.and_eq_true, Bool.or_eq_true, Bool.not_eq_true', decide_eq_true_eq, decide_eq_false_iff_not, List.all_eq_true] at h
  obtain ⟨⟨⟨⟨h1, h2⟩, h3⟩, h4⟩, h5⟩ := h
  refine ⟨h1, h2, h3, fun y hy => ⟨(h4 y hy).1.1, fun e => ?_⟩, fun y hy e => ?_, h5⟩
  · rcases (h4 y hy).1.2 with z | z
    · exact absurd e z
    · exact z
  · rcases (h4 y hy).2 with (z | z) | z
    · exact absurd e z
    · exact .inl z
    · exact .inr z
theorem LamP.has {X : Cx} {scope : Scope} {bs : List Str} (L : LamP X.N X.env.scope scope bs) (ok : X.Ok) : ∀ y ∈ scope.names, y.2 = .free → ∃ c, X.env.cells.lookup y.1 = some c := fun y hy e => by
  rcases L.free y hy e with k | k
  · exact ok.has _ (.inl k)
  · exact ok.has _ (.inr k)
section
variable {X : Cx} {pins : List (Addr × Obj)} {σ : L2.St} {H HZ : Hp} {s s1 : Shared}
/-- the body's start: the maker's names are seen through their cells *or* not at all -/
theorem lam_startP {A : Around} {outer : List Env} {E : XK} {scope : Scope} {f c' : Addr} {h₁ : Heap} {tk : Nat} {bs : List Str} {bd : List (Str × Value)} (I : Inv X pins σ H s) (L : LamP X.N X.env.scope scope bs) (e0 : Env0 X.prog X.w X.K X.mg X.base A outer s1 HZ) (noH : A.handled = none)
    (un : Un (frs X.stack) [] H HZ s.heap s1.heap) (hns : h₁.Ns s1.heap.objs.size fun y => bd.reverse.lookup y) (kp : ∀ b o, s1.heap.get? b = some o → h₁.get? b = some o) :
    Inv (lamCx X A outer s1 HZ E scope f c') [] σ HZ { s1 with heap := h₁, toks := tk } := by
  have his : ∀ y c, (cloFrom X.env.cells scope.names []).lookup y = some c → X.env.cells.lookup y = some c := by
    intro y c e
    rcases cloFrom_mem (PySem.mem_of_lookup e) with z | ⟨isF, z⟩
    · exact absurd z List.not_mem_nil
    · obtain ⟨c1, e1⟩ := L.has I.ok _ isF rfl
      rw [z, show X.env.cells.lookup y = some c1 from e1] <;> rfl
  have handed : ∀ y, scope.names.lookup y = some .free → ∃ c, (cloFrom X.env.cells scope.names []).lookup y = some c := fun y e => mem_lookup (cloFrom_has (acc := []) (PySem.mem_of_lookup e))
  have noCell : ∀ y, scope.names.lookup y ≠ some .cell := fun y e => (L.own _ (PySem.mem_of_lookup e)).1 rfl
  have stands : ∀ c v, H c = none → s.heap.IsCell c v → h₁.IsCell c v := by
    rintro c v no ⟨o, at_, isC⟩
    obtain ⟨sl, e⟩ := un.any at_ no List.not_mem_nil
    exact ⟨_, kp _ _ e, isC⟩
  refine
    { ok :=
        { mod := e0.mod, kind := L.kind, glob := rfl, blt := rfl, above := Nat.le_refl _, inj := fun y z c e1 e2 => I.ok.inj y z c (his y c e1) (his z c e2), has := fun y hy => hy.elim (fun e => absurd e (noCell y)) (handed y), cab := fun _ _ e => Bool.noConfusion e, hd := fun _ => noH
          frames := Around.frames_deeper e0.frames, stk := .inr ⟨rfl, rfl⟩, exf := (fun _ z => nomatch z), bs := e0.bs, bsz := e0.bsz, noex := (fun _ _ _ z => nomatch z), exfs := (fun _ z => nomatch z), funs := e0.funs, frf := e0.frf }
      os := rfl, bare := e0.bare, base := Un.kept kp, loc := ⟨_, hns, fun i y v atN isV sees => ?_⟩, cell := fun y c e => ?_, free := e0.hok.fresh (Nat.le_refl _), freeC := fun y c e => ?_, pin := (fun _ z => nomatch z), hok := e0.hok.kept kp, len := I.len }
  · rcases sees with z | z | z
    · exact absurd (List.mem_of_getElem? (show X.N[i]? = some y from atN)) ((L.own _ (PySem.mem_of_lookup z)).2 rfl)
    · exact absurd z (noCell y)
    · have outerV := L.free _ (PySem.mem_of_lookup z) rfl
      obtain ⟨m, _, all⟩ := I.loc
      obtain ⟨u, ru, at_⟩ := all i y v atN isV (.inr outerV)
      obtain ⟨c, ec⟩ := handed y z
      refine ⟨u, ru, .inr ⟨.inr z, c, ec, ?_⟩⟩
      rcases at_ with ⟨loc, _⟩ | ⟨_, c2, ec2, isC⟩
      · have loc : X.env.scope.names.lookup y = some .local := loc
        rcases outerV with e | e
        · exact absurd (loc.symm.trans e) (fun z => nomatch z)
        · exact absurd (loc.symm.trans e) (fun z => nomatch z)
      · obtain rfl : c = c2 := Option.some.inj ((his y c ec).symm.trans ec2)
        exact stands c _ (I.freeC y c ec2) isC
  · obtain ⟨v, z⟩ := I.cell y c (his y c e)
    exact ⟨v, stands c v (I.freeC y c (his y c e)) z⟩
  · obtain ⟨_, o, at_, _⟩ := I.cell y c (his y c e)
    exact un.free c o at_ (I.freeC y c (his y c e)) List.not_mem_nil
/-- how a lambda's parameters are bound, called by nothing: dV its defaults -/
def DflAt (h : Heap) (dV : Value) (us : List Value) : Prop := (us = [] ∧ dV = .none) ∨ ∃ (T : Addr) (o : Obj) (n : Nat), dV = .ref T ∧ h.get? T = some o ∧ o.data = .seq us.toArray n
def BindL (params : Arguments) (body : Expr) (scope : Scope) (us : List Value) (bd : List (Str × Value)) : Prop := ∀ (q : Str) (cl : List (Str × Addr)) (pm cv ctv dV doc : Value) (M : Model) (A : Around) (Q : List (Str × Value) → Shared → Prop) (E : Value → Shared → Prop) (s : Shared), DflAt s.heap dV us → Q bd s →
  wpAny M A (bindArgs (lfn q params body scope cl pm cv ctv dV doc) ⟨[], []⟩) Q E s
/-- the lambda called, by whom it was handed to -/
theorem lam_called {A : Around} {outer : List Env} {E : XK} {f c' : Addr} {pm ctv dV doc : Value} {params : Arguments} {body : Expr} {scope : Scope} {k : Nat} {t : TE} {bs : List Str} {us : List Value} {bd : List (Str × Value)} {Q : VK}
    (I : Inv X pins σ H s) (L : LamP X.N X.env.scope scope bs) (un : Un (frs X.stack) [] H HZ s.heap s1.heap) (e0 : Env0 X.prog X.w X.K X.mg X.base A outer s1 HZ) (lim : s1.heap.NoLimit)
    (atF : s1.heap.get? f = some (lobj (X.env.qual ++ "<lambda>") params body scope (cloFrom X.env.cells scope.names []) pm (.ref c') ctv dV doc)) (atC : HZ c' = some (CodeO c' (X.env.qual ++ "<lambda>"))) (dfl : DflAt s1.heap dV us) (hbs : ∀ y ∈ bd, y.1 ∈ bs) (hbind : BindL params body scope us bd) (hr : Room (k + 1) A)
    (hbody : Room k (A.deeper (lamEnv X scope s1.heap.objs.size f c')) → PE (lamCx X A outer s1 HZ E scope f c') body t) (ht : t σ HZ Q) : codeAny (model X.prog X.w) A (.call (.ref f) ⟨[], []⟩) (CR (L2.CX X.prog X.w) outer X.prog X.w HZ s1 Q E) s1 := by
  obtain ⟨⟨oc, vs, tok, there, isC, its⟩, -, -⟩ := e0.hok c' _ atC
  apply PySem.W.kla_callFunE hr.depth atF rfl L.co L.gen rfl ⟨c', oc, vs, tok, rfl, there, isC, its⟩
  apply hbind _ _ _ _ _ _ _ _ _ _ _ _ dfl
  refine wpAny_newFunctionEnv (fun y hy => (L.own y hy).1) (fun y hy => L.bnd _ (hbs y hy)) ?_ L.kind
  intro h₁ ns same
  refine ⟨lim.fresh _ same, ?_⟩
  have start := lam_startP (tk := s1.toks + bd.length) (E := E) (f := f) (c' := c') I L e0 hr.hd un ns fun b o e => same.extBut b o (Nat.ne_of_lt (Heap.lt_size e)) (Heap.get?_push_of_some _ e)
  apply PySem.W.kla_codeExpr
  refine wpAny_mono ((hbody (hr.deeper _)).run [] _ _ HZ Q start ht) ?_ fun _ _ z => z
  rintro v s2 ⟨x, H2, J, rv, q⟩
  exact ⟨x, H2, J.os, J.bare, J.base, J.hok, rv, q⟩
/-- x(), in the def that got the lambda -/
theorem pe_actP {Ng : List Str} {qg : Str} {sg : Scope} {g f c' : Addr} {cdg pm ctv dV doc : Value} {params : Arguments} {body : Expr} {scope : Scope} {k : Nat} {a q : Str} {tb : XK → TE} {bs : List Str} {us : List Value} {bd : List (Str × Value)}
    (I : Inv X pins σ H s) (L : LamP X.N X.env.scope scope bs) (hq : q = X.env.qual ++ "<lambda>") (hf : s.heap.get? f = some (lobj q params body scope (cloFrom X.env.cells scope.names []) pm (.ref c') ctv dV doc)) (hfn : H f = none) (hfr : f ∉ frs X.stack)
    (hdv : (us = [] ∧ dV = .none) ∨ ∃ (T : Addr) (o : Obj) (n : Nat), dV = .ref T ∧ s.heap.get? T = some o ∧ o.data = .seq us.toArray n ∧ H T = none ∧ T ∉ frs X.stack)
    (hbs : ∀ y ∈ bd, y.1 ∈ bs) (hbind : BindL params body scope us bd) (hr : Room (k + 1) (X.A.deeper (envOfC qg sg s.heap.objs.size g cdg)))
    (hbody : ∀ (A : Around) (outer : List Env) (s : Shared) (H : Hp) (E : XK), Room k (A.deeper (lamEnv X scope s.heap.objs.size f c')) → PE (lamCx X A outer s H E scope f c') body (tb E))
    (hN : Ng[0]? = some a) (hv : Vis sg a) (hd : (a == ("__debug__" : Str)) = false := by decide) (hcd : (a == ("__classdict__" : Str)) = false := by decide) :
    ActP (cxOf C8.CX0 X.prog X.w X.K X.mg X.base Ng qg sg g cdg X.A X.stack s H C8.E0).nox a f c' q (fun E HZ Q => tb E σ HZ Q) := by
  subst hq
  intro W pn xe p1 p2 tk
  let Z := (cxOf C8.CX0 X.prog X.w X.K X.mg X.base Ng qg sg g cdg X.A X.stack s H C8.E0).tr pn xe
  have tk : Takes Z W := tk
  suffices run : PE Z _ _ from run
  constructor
  rintro pinsZ sZ σZ HZ Q IZ ⟨inSlot, isC, ht⟩
  have seen := pe_var (X := Z) (pos := p1) (i := 0) hN hv hd hcd
  refine wpAny_Call_Name_kw (thn (seen.run pinsZ sZ σZ HZ (fun v H1 => v = .ref f ∧ H1 = HZ) IZ ⟨.ref f, inSlot, rfl, rfl⟩) ?_)
  rintro u s1 ⟨v, H1, J, rv, rfl, rfl⟩
  cases rv
  have same : ∀ b o, s.heap.get? b = some o → H b = none → b ∉ frs X.stack → s1.heap.get? b = some o := fun b o e n nf => J.base.keep b o e n nf (fun z => nomatch z)
  have atF := same f _ hf hfn hfr
  have dfl : DflAt s1.heap dV us := hdv.imp_right fun ⟨T, o, n, e1, e2, e3, e4, e5⟩ => ⟨T, o, n, e1, same T o e2 e4 e5, e3⟩
  have ran := lam_called (X := X) (s := s) (E := fun cls d H' => W cls d σZ H') (Q := Q) I L J.base J.env0 J.nolimit atF isC dfl hbs hbind hr (hbody _ _ _ _ _) ht
  refine PySem.W.callWith_F0 ⟨_, _, _, _, atF⟩ (wpAny_call (codeAny_mono ran fun r s2 z => ?_))
  match r, z with
  | .ok (.ret _), z => exact J.after z
  | .error _, z => exact tk _ _ (XE.of_call J (fun _ _ _ w => w) z)
end
end DS
end
section
set_option Elab.async false
set_option linter.all false
set_option maxRecDepth 100000
set_option maxHeartbeats 4000000
namespace DS
open PySem PySem.Spec PyProof.Rows L2 LamX
open Evl (Ex ex_l ex_t ex_rd)
section
variable {X : Cx}
def DflN (X : Cx) (H : Hp) (s : Shared) (dV : Value) (us : List Value) : Prop := (us = [] ∧ dV = .none) ∨ ∃ (T : Addr) (o : Obj) (n : Nat), dV = .ref T ∧ s.heap.get? T = some o ∧ o.data = .seq us.toArray n ∧ H T = none ∧ T ∉ frs X.stack
/-- a lambda's evaluation, down to its making; n defaults -/
def LamEval (X : Cx) (params : Arguments) (body : Expr) (scope : Scope) (pos : Pos) (n : Nat) : Prop := ∀ (pins : List (Addr × Obj)) (σ : L2.St) (H : Hp) (s : Shared) (Q E : Value → Shared → Prop), Inv X pins σ H s →
  (∀ dV us s', Inv X pins σ H s' → us.length = n → DflN X H s' dV us → wpAny (model X.prog X.w) X.A (makeTail "<lambda>" (X.env.qual ++ "<lambda>") params (.expr body) scope X.env dV .none none pos pos.line) Q E s') →
  wpAny (model X.prog X.w) X.A (eval (.Lambda params body scope pos) X.env) Q E s
theorem lam_eval0 {params : Arguments} {body : Expr} {scope : Scope} {pos : Pos} (hdef : defaultsOf params X.env = ([], [])) : LamEval X params body scope pos 0 := by
  intro pins σ H s Q E I h
  refine PySem.W.kla_eval hdef ?_
  rw [makeFunction_eq]
  simp only [List.zip_nil_right, List.filterMap_nil, List.isEmpty_nil, if_true, pure_bind]
  exact h .none [] s I rfl (.inl ⟨rfl, rfl⟩)
theorem lam_eval1 {params : Arguments} {body : Expr} {scope : Scope} {pos p : Pos} {i : Int} {j : Nat} (hdef : defaultsOf params X.env = ([eval (.Constant (.int i) j p) X.env], [])) : LamEval X params body scope pos 1 := by
  intro pins σ H s Q E I h
  rw [arm_eval_Lambda, hdef]
  show wpAny _ _ (do let dv ← evalAll [eval (.Constant (.int i) j p) X.env]; let kdv ← holding dv (evalAllOpt []); makeFunction "<lambda>" (X.env.qual ++ "<lambda>") params (.expr body) scope X.env dv kdv [] pos pos.line) Q E s
  have he : PE X (.Constant (.int i) j p) (tC (.int i)) := pe_int
  refine wpAny_bind (wpAny_evalAll_cons (thn (he.run pins s σ H (fun v H1 => v = .int i ∧ H1 = H) I ⟨rfl, rfl⟩) fun u s1 ⟨v, H1, I1, r1, e1, e2⟩ => ?_))
  subst e1 e2
  refine wpAny_evalAll_nil ?_
  refine wpAny_bind (wpAny_holding (wpAny_pure ?_))
  rw [makeFunction_eq]
  simp only [List.zip_nil_right, List.filterMap_nil, List.isEmpty_nil, List.isEmpty_cons, Bool.false_eq_true, if_true, if_false, pure_bind]
  refine wpAny_bind (wpAny_newTextTuple ?_)
  have nT : H1 s1.heap.objs.size = none := I1.hok.fresh (Nat.le_refl _)
  exact h (.ref s1.heap.objs.size) [u] _ (I1.kept fun b o e => Heap.get?_push_of_some _ e) rfl (.inr ⟨_, _, _, rfl, Heap.get?_push_size _ rfl, rfl, nT, nofr_of I1 _ (Nat.le_refl _)⟩)
/-- the defaults stay through the making -/
theorem dfl_step {pins : List (Addr × Obj)} {σ : L2.St} {H H1 : Hp} {s s' : Shared} {c' P : Addr} {q : Str} {ps : Array Value} {dV : Value} {us : List Value} (I : Inv X pins σ H1 s') (st : LStep H H1 c' P q) (tracked : H P = some (.tbl ps)) (isC : H1 c' = some (CodeO c' q)) (kp : ∀ b o, b ≠ P → s.heap.get? b = some o → s'.heap.get? b = some o) :
    DflN X H s dV us → DflN X H1 s' dV us := by
  rintro (z | ⟨T, o, n, rfl, at_, its, no, nf⟩)
  · exact .inl z
  have notP : T ≠ P := by
    rintro rfl
    exact absurd (no.symm.trans tracked) (fun z => nomatch z)
  have now := kp T o notP at_
  refine .inr ⟨T, o, n, rfl, now, its, ?_, nf⟩
  rcases st with rfl | ⟨_, _, _, _, rfl⟩
  · exact no
  · have notC : T ≠ c' := by
      rintro rfl
      obtain ⟨⟨_, _, _, at2, isF, _⟩, -, -⟩ := I.hok _ _ isC
      rw [now] at at2
      cases at2
      exact absurd (its.symm.trans isF) (fun z => nomatch z)
    rw [upd_ne notC, upd_ne notP, no]
/-- the context of the def that gets it; what that def must do -/
abbrev Zof (X : Cx) (Ng : List Str) (x : Str) (st : Stmt) (g : Addr) (cdg : Value) (s : Shared) (H : Hp) : Cx := (cxOf C8.CX0 X.prog X.w X.K X.mg X.base Ng x (defScope st) g cdg X.A X.stack s H C8.E0).nox
def GivesP (X : Cx) (Ng : List Str) (x : Str) (st : Stmt) (g : Addr) (a : Str) (q : Str) (TT : (XK → Hp → VK → Prop) → Hp → VK → Prop) : Prop :=
  ∀ (cdg : Value) (f c' : Addr) (s : Shared) (H : Hp) (Q : VK) (tl : XK → Hp → VK → Prop), ActP (Zof X Ng x st g cdg s H) a f c' q tl → H c' = some (CodeO c' q) → TT tl H Q →
    ∃ t, PSs (Zof X Ng x st g cdg s H) (defBody st) t ∧ t { nx := fun _ H' => Q .non H', rt := Q } (L2.start Ng [.ref f]) H
abbrev LamBody (X : Cx) (k : Nat) (scope : Scope) (body : Expr) (t : XK → TE) : Prop :=
  ∀ (A : Around) (outer : List Env) (s : Shared) (H : Hp) (E : XK) (f c' : Addr), Room k (A.deeper (lamEnv X scope s.heap.objs.size f c')) →
    PE (lamCx X A outer s H E scope f c') body (t E)
/-- x(lambda ..: body) -/
theorem pe_lamcallP {T : List (Addr × Str)} {TT : (XK → Hp → VK → Prop) → Hp → VK → Prop} {x a : Str} {g c P : Addr} {k n : Nat} {st : Stmt} {fd : FuncData} {Ng : List Str} {params : Arguments} {body : Expr} {scope : Scope} {t : XK → TE} {p lpos pos : Pos} {bs : List Str} {bdOf : List Value → List (Str × Value)}
    (hg : Gl X x) (hm : X.mg x = some (.ref g)) (F : L2.Fun X.K x x st g fd) (hb : L2.Binds X.K fd [a] []) (Sg : FnScope Ng [a] (defScope st)) (hNg : Ng[0]? = some a) (hva : Vis (defScope st) a) (hG : GivesP X Ng x st g a (X.env.qual ++ "<lambda>") TT)
    (TB : TabB X.base X.mg c P) (hcode : X.env.code = .ref c) (hmT : (P, X.env.qual ++ "<lambda>") ∈ T) (hu : ∀ p ∈ T, p.1 = P → p.2 = X.env.qual ++ "<lambda>") (hr : Room (k + 2) X.A) (L : LamP X.N X.env.scope scope bs) (hev : LamEval X params body scope lpos n)
    (hbs : ∀ us, us.length = n → ∀ y ∈ bdOf us, y.1 ∈ bs) (hbind : ∀ us, us.length = n → BindL params body scope us (bdOf us)) (hbody : LamBody X k scope body t)
    (noD : (x == ("__debug__" : Str)) = false := by decide) (noDa : (a == ("__debug__" : Str)) = false := by decide) (noC : (a == ("__classdict__" : Str)) = false := by decide) :
    PE X (.Call (.Name x p) [.Lambda params body scope lpos] [] pos) (fun σ H Q => Tabs T H ∧ ∀ H1 c', LStep H H1 c' P (X.env.qual ++ "<lambda>") → Tabs T H1 → TT (fun E H' Q' => t E σ H' Q') H1 Q) := by
  obtain ⟨oc, od, kV, doc, pm, an, cdv, ct, osl, rfl, lk, isCode⟩ := F.ex
  constructor
  rintro pins s σ H Q I ⟨tabs, wish⟩
  obtain ⟨ps, tracked, -, -⟩ := tabs _ hmT
  suffices args : wpAny (model X.prog X.w) X.A (spliced ((false, eval (.Lambda params body scope lpos) X.env) :: backTo pos (starEach [] X.env))) _ X.xe s from
    wpAny_Call_Name_kw (ld_glob I hg hm (PySem.W.callWith_K (h₀ := X.base) I.ok.mod.kin F.kp args (by rfl) (by rfl)) noD)
  refine Calls.spliced_cons (hev pins σ H s _ _ I ?_)
  intro dV us s0 I0 many dfl
  refine lam_tail I0 TB hcode hmT hu tabs (L.has I0.ok) ?_
  intro f c' pm' ctv doc' H1 s1 J step tabs1 kp atF noF noFr isC
  refine Calls.spliced_nil ⟨J.kIn, wpAny_call ?_⟩
  have did : codeAny (model X.prog X.w) X.A (.call (.ref g) ⟨[.ref f], []⟩) (CR C8.CX0 X.stack X.prog X.w H1 s1 Q C8.E0) s1 := by
    apply run_ofS lk isCode Sg hr J.env0 (hb s1 [.ref f] J.kIn rfl) (vs := [.ref f]) (.cons rfl .nil) rfl
    intro room
    obtain ⟨t', b, z⟩ := hG cdv f c' s1 H1 Q (fun E H' Q' => t E σ H' Q') (pe_actP J L rfl atF noF noFr (dfl_step J step tracked isC kp dfl) (hbs us many) (hbind us many) room (fun A outer s H E => hbody A outer s H E f c') hNg hva noDa noC) isC (wish H1 c' step tabs1)
    exact ⟨t', b.nox, z⟩
  refine codeAny_mono did ?_
  rintro (e | fl) s2 z
  · exact False.elim z
  · match fl, z with
    | .ret u, z => exact J.after z
end
end DS
end
section
set_option Elab.async false
set_option linter.all false
set_option maxRecDepth 100000
set_option maxHeartbeats 2000000
namespace KS
open PySem PySem.Spec PyProof.Rows L2 DS KT KM KD KL LamX
open Evl (Ex ex_l ex_t ex_rd)
/-- the reach is given up -/
def bareO (W : Addr → Prop) : Own := ⟨fun _ => False, fun _ => True, W, fun _ _ => trivial, fun _ h => h.elim⟩
theorem st_bare {K : PySem.W.Frag} {O : Own} {F H : Hp} {σ : L2.St} {ds : List Sl} (h : StOk K O F σ H ds) : StOk K (bareO O.W) F σ H ds :=
  ⟨h.ex, fun _ z => z.elim, trivial, h.len, fun i s o e1 e2 => by
    have b := h.sl i s o e1 e2
    cases s with
    | u => exact b
    | d x => exact b
    | v x => exact b
    | l xs => obtain ⟨q, vs, e, f, _, r⟩ := b; exact ⟨q, vs, e, f, fun z => z, r⟩
    | m kvs => obtain ⟨q, e, f, _, r⟩ := b; exact ⟨q, e, f, fun z => z, r⟩, h.sep⟩
theorem bare_no {W : Addr → Prop} {F H F' H' : Hp} (g : Grow (bareO W) F H F' H') : Grow Own.no F H F' H' := ⟨g.f, fun a o _ h => g.h a o (fun z => z) h, g.s, g.n, g.t⟩
/-- what is asked of a lambda's body -/
def tE (K : PySem.W.Frag) (Cb : Addr) (W : Addr → Prop) (ds : List Sl) (good bad : PyData → Prop) (E : XK) : TE := fun σ H Q => ∃ F, StOk K (bareO W) F σ H ds ∧ (∀ v F' H' x, Grow Own.no F H F' H' → Dp K F' v x → good x → Q v H') ∧ Wb K Cb F H bad E
theorem pe_lamE {Xl : Cx} {Cb : Addr} {W : Addr → Prop} {ds : List Sl} {good bad : PyData → Prop} {E : XK} {nm : Str} {k : Nat} {ps : List Str} {Rl : RelE} {e : Expr} {es : List Expr} {xs : List PyData} {p pos : Pos} (D : Def Xl.prog Xl.w Xl.K Xl.mg Xl.base nm k ps (spE Xl.K Cb Rl)) (hr : Room k Xl.A) (tk : Takes Xl (fun cls d _ H => E cls d H)) (ha : DA Xl (bareO W) ds (e :: es) xs) (hR : Rl xs (fun r => ∃ x, r = .d x ∧ good x) bad) (hg : Gl Xl nm := by rfl) (hdb : (nm == ("__debug__" : Str)) = false := by decide)
    (he : starEach (e :: es) Xl.env = (false, eval e Xl.env) :: starEach es Xl.env := by rfl) (hpl : (backTo pos (starEach es Xl.env)).any (·.1) = false := by rfl) : PE Xl (.Call (.Name nm p) (e :: es) [] pos) (tE Xl.K Cb W ds good bad E) := by
  obtain ⟨f, fd, G, hm, hk, hb⟩ := D.ex
  refine pe_mono (pe_call G hr hg hm hk hb .nil (passes_call tk fun _ _ _ _ h => h) ha hdb he hpl) fun σ H Q ⟨F, st, hgd, hbd⟩ => ⟨F, st, fun vs F1 H1 g1 j1 d1 => ?_⟩
  have g1 := bare_no g1
  refine ⟨F1, xs, _, bad, g1.s, (List.append_nil vs).symm ▸ d1, hR, fun v r F2 H2 g2 o ⟨x, ex, gx⟩ => ?_, fun pl dv dx F' H' g hb d n1 n2 hx => hbd pl dv dx F' H' (g1.trans g) hb d (g1.free n1) n2 hx⟩
  subst ex
  exact hgd v F2 H2 x (g1.trans g2) o gx
section
variable {P : Program} {w : World} {K : PySem.W.Frag} {mg : Str → Option Value} {base : Heap} {Cb Ck fI : Addr}
/-- _law_said, as it stands -/
structure SaidD (K : PySem.W.Frag) (mg : Str → Option Value) (Cb Ck : Addr) : Prop where
  S : SaidC K mg Cb Ck
  ex : ∃ g fd, Fun K "_law_said" "_law_said" s_law_said g fd ∧ mg "_law_said" = some (.ref g) ∧ Binds K fd ["call"] []
theorem lstep_grow {p : Pl} {W : Addr → Prop} {n : Nat} {F H H1 : Hp} {c' P0 : Addr} {q : Str} (st : LStep H H1 c' P0 q) (hP : p.S P0) (sf : ∀ a, p.S a → F a = none) (ex : Ex F H) (j : StJ p n H) (t1 : Tabs p.T H1) : Grow (OS p W n) F H F H1 ∧ StJ p n H1 := by
  rcases st with e | ⟨nc, ps, ps', hp, e⟩
  · subst e; exact ⟨Grow.refl ex, j⟩
  · subst e
    have hpc : P0 ≠ c' := fun z => by rw [z, nc] at hp; cases hp
    have at_ : ∀ b o, H b = some o → b ≠ P0 → upd (upd H P0 (.tbl ps')) c' (CodeO c' q) b = some o := fun b o hb z => by
      rw [upd_ne (ne_of_none hb nc), upd_ne z]; exact hb
    refine ⟨⟨Ex.refl F, fun b o hs hb => at_ b o hb (fun z => hs (by rw [z]; exact hP)), fun b o hb => at_ b o (ex b o hb) (fun z => by rw [z, sf _ hP] at hb; cases hb), fun b h1 h2 => absurd h1 h2, fun b hb => ?_⟩, ?_⟩
    · by_cases z : b = c'
      · rw [z, upd_same]; exact fun z => nomatch z
      · rw [upd_ne z]
        by_cases z2 : b = P0
        · rw [z2, upd_same]; exact fun z => nomatch z
        · rw [upd_ne z2]; exact hb
    · obtain ⟨cells, lefts, at1, h1, h2, h3, l1, l2, a1, a2, _⟩ := j
      refine ⟨cells, lefts, at1, at_ _ _ h1 (fun z => ?_), at_ _ _ h2 (fun z => ?_), at_ _ _ h3 (fun z => ?_), l1, l2, a1, a2, t1⟩
      · rw [z, hp] at h1; cases h1
      · rw [z, hp] at h2; cases h2
      · rw [z, hp] at h3; cases h3
theorem dp_said {X : Cx} {ds : List Sl} {p : Pl} {W : Addr → Prop} {n k nd : Nat} {good bad : PyData → Prop} {c P0 : Addr} {params : Arguments} {body : Expr} {scope : Scope} {p1 lpos pos : Pos} {bs : List Str} {bdOf : List Value → List (Str × Value)} (m : Free X.mg) (D : SaidD X.K X.mg Cb Ck)
    (TB : TabB X.base X.mg c P0) (hcode : X.env.code = .ref c) (hmT : (P0, X.env.qual ++ "<lambda>") ∈ p.T) (hu : ∀ q ∈ p.T, q.1 = P0 → q.2 = X.env.qual ++ "<lambda>") (hr : Room (k + 2) X.A) (L : LamP X.N X.env.scope scope bs) (hev : LamEval X params body scope lpos nd)
    (hbs : ∀ us, us.length = nd → ∀ y ∈ bdOf us, y.1 ∈ bs) (hbind : ∀ us, us.length = nd → BindL params body scope us (bdOf us))
    (hbody : LamBody X k scope body (tE X.K Cb W ds good bad)) (hg : Gl X "_law_said" := by rfl) :
    DP X (OS p W n) ds (.Call (.Name "_law_said" p1) [.Lambda params body scope lpos] [] pos) (fun x => (∃ y, good y ∧ x = .list [y]) ∨ ∃ y, bad y ∧ x = .tuple [.str "grammar", y]) := by
  obtain ⟨g, fd, F, hm, hb⟩ := D.ex
  refine pe_mono (pe_lamcallP (T := p.T) (TT := TTs X.K Cb) (a := "call") (t := tE X.K Cb W ds good bad) (k := k) hg hm F hb sc_law_said rfl (.inl rfl) (fun cdg f c' s H Q tl act hc ht => said_gives m D.S act hc ht) TB hcode hmT hu hr L hev hbs hbind hbody) fun σ H Q ⟨F0, st, q⟩ => ⟨?_, fun H1 c' stp T1 => ?_⟩
  · obtain ⟨_, _, _, _, _, _, _, _, _, _, t⟩ := st.j
    exact t
  · have hP : p.S P0 := .inr (.inr (.inr ⟨_, hmT, rfl⟩))
    obtain ⟨g0, j1⟩ := lstep_grow (W := W) stp hP st.sf st.ex st.j T1
    have st1 : StOk X.K (OS p W n) F0 σ H1 ds := st.grow g0 j1
    refine ⟨F0, good, bad, g0.s, fun E F1 H1' Q1 g hgood hbad => ⟨F1, ?_, hgood, hbad⟩, fun v F' H' x g d hx => q v F' H' (g0.trans g.lift) (g.j (O := OS p W n) j1) ⟨x, d, hx⟩⟩
    exact st_bare (st1.grow (O := OS p W n) g.lift (g.j (O := OS p W n) j1))
end
end KS
end
section
set_option Elab.async false
set_option linter.all false
set_option maxRecDepth 100000
set_option maxHeartbeats 2000000
namespace DS
open PySem PySem.Spec PyProof.Rows L2 LamX
open Evl (Ex ex_l ex_t ex_rd)
theorem op2_catT {K : PySem.W.Frag} {xs ys : List PyData} (hl : xs.length + ys.length ≤ 100000) : Op2 K (rCatA K) (.tuple xs) (.tuple ys) (.tuple (xs ++ ys)) := fun F H v w Q e d1 d2 q => by
  obtain ⟨a, vs, rfl, s1, s2⟩ := d1.tup_eq
  obtain ⟨b, ws, rfl, t1, t2⟩ := d2.tup_eq
  refine ⟨a, b, vs, ws, rfl, rfl, ex_t e s1, ex_t e t1, Evl.sz_of (by rw [s2.len, t2.len]; exact hl), fun z => ?_, fun _ z => ?_, fun _ _ p hp => ?_⟩
  · subst z
    cases s2
    exact q _ F H (Grow.refl e) (.tup t1 t2)
  · subst z
    cases t2
    exact q _ F H (Grow.refl e) (by rw [List.append_nil]; exact .tup s1 s2)
  · have g := Grow.new (O := Own.no) (o := .tup (vs ++ ws)) e hp
    exact q _ _ _ g (.tup (SqT.of upd_same) ((s2.up g.f).app (t2.up g.f)))
section
variable {X : Cx} {O O1 : Own} {ds : List Sl} {e b : Expr} {xs : List PyData} {pos p2 : Pos} {x : PyData}
/-- t[:e], e drawn -/
theorem dh_cutT {P : Int → Prop} (sm : Sm O O1) (he : DX X O ds e (.tuple xs)) (hb : DHP X O O1 ds b (fun y => ∃ i : Int, y = .int i ∧ P i)) : DHP X O O1 ds (.Subscript e (.Slice none (some b) none p2) pos) (fun y => ∃ i, P i ∧ y = .tuple (cutD xs none (some i))) :=
  pe_mono (pe_slice sl_tupA he po_none (po_some hb)) fun σ H Q ⟨F, st, q⟩ => ⟨F, st, fun v F1 H1 g1 j1 d1 => ⟨F1, st.grow g1 j1, fun w F3 H3 g3 j3 ⟨y, dy, i, ey, pi⟩ => by
    subst ey
    obtain ⟨a, vs, rfl, s1, s2⟩ := Dp.tup_eq d1
    have s1' : SqT X.K F3 a vs := ex_t g3.f s1
    have s2' : DpAll X.K F3 vs xs := s2.up g3.f
    have g := g1.trans g3
    refine ⟨i, Dp.int_eq dy, a, vs, rfl, ex_t g3.s s1', fun hw => ?_, fun hw p hp => ?_⟩
    · rw [s2'.len] at hw
      exact q _ F3 H3 g j3 ⟨_, .tup s1' s2', i, pi, by rw [cutD_whole hw]⟩
    · have g4 := Grow.new (O := O) (o := .tup (cutV vs none (some i))) g3.s hp
      exact q _ _ _ (g.trans g4) (own_new j3 hp) ⟨_, .tup (SqT.of upd_same) ((cut_dp s2' none (some i)).up g4.f), i, pi, rfl⟩⟩⟩
theorem dx_ofP (h : DP X O ds e (fun y => y = x)) : DX X O ds e x := dg_imp h fun _ _ _ _ ⟨y, d, e⟩ => e ▸ d
end
end DS
namespace KM
open PySem DS L2 PyProof.Rows
/-! sizes -/
theorem weightAll_le {B : Nat} : ∀ {xs : List PyData}, (∀ x ∈ xs, x.weight ≤ B) → PyData.weightAll xs ≤ xs.length * (B + 1)
  | [], _ => Nat.zero_le _
  | x :: xs, h => by
    have h1 := h x List.mem_cons_self
    have h2 := weightAll_le (xs := xs) fun y hy => h y (List.mem_cons_of_mem _ hy)
    show x.weight + 1 + PyData.weightAll xs ≤ (xs.length + 1) * (B + 1)
    rw [Nat.add_mul]
    omega
theorem okN_w0 : ∀ {d : PyData}, okN 0 d = true → d.weight ≤ 100
  | .none, _ => Nat.zero_le _
  | .bool _, _ => Nat.zero_le _
  | .int i, h => by
    have h' : i.natAbs ≤ 1000000000 := of_decide_eq_true h
    show (if i == 0 then 0 else i.natAbs.log2 + 1) ≤ 100
    split
    · omega
    · have h3 : i.natAbs.log2 < 30 := by
        by_cases z : i.natAbs = 0
        · rw [z]; decide
        · exact (Nat.log2_lt z).mpr (by omega)
      omega
  | .str s, h => (okN_str h).1
  | .list _, h => by cases h
  | .tuple _, h => by cases h
  | .dict _, h => by cases h
theorem okN_w1 {d : PyData} (h : okN 1 d = true) : d.weight ≤ 10100 := by
  have key : ∀ xs : List PyData, xs.length ≤ 100 → (∀ x ∈ xs, okN 0 x = true) → PyData.weightAll xs ≤ 10100 := fun xs h1 h2 => by
    have := weightAll_le fun x hx => okN_w0 (h2 x hx)
    have h3 : xs.length * (100 + 1) ≤ 100 * 101 := Nat.mul_le_mul_right _ h1
    omega
  cases d with
  | none => exact Nat.zero_le _
  | bool b => exact Nat.zero_le _
  | int i => exact Nat.le_trans (okN_w0 h) (by decide)
  | str s => exact Nat.le_trans (okN_w0 h) (by decide)
  | list xs =>
    obtain ⟨m, e, h1, h2⟩ := okN_lst h
    cases e
    exact key xs h1 h2
  | tuple xs =>
    obtain ⟨m, e, h1, h2⟩ := okN_tup h
    cases e
    exact key xs h1 h2
  | dict _ => cases h
theorem shAll {xs : List PyData} (h : ∀ x ∈ xs, x.showable = true ∧ x.intsShort 13 = true) : PyData.showableAll xs = true ∧ PyData.intsShortAll 13 xs = true := by
  induction xs with
  | nil => exact ⟨rfl, rfl⟩
  | cons x xs ih =>
    obtain ⟨h1, h2⟩ := h x List.mem_cons_self
    obtain ⟨i1, i2⟩ := ih fun y hy => h y (List.mem_cons_of_mem _ hy)
    exact ⟨by show (x.showable && _) = true; rw [h1, i1]; rfl, by show (x.intsShort 13 && _) = true; rw [h2, i2]; rfl⟩
theorem okN_sh : ∀ (n : Nat) (d : PyData), okN n d = true → d.showable = true ∧ d.intsShort 13 = true
  | _, .none, _ => ⟨rfl, rfl⟩
  | _, .bool _, _ => ⟨rfl, rfl⟩
  | n, .int i, h => by
    have h' : i.natAbs ≤ 1000000000 := by
      cases n <;> exact of_decide_eq_true h
    refine ⟨decide_eq_true ?_, decide_eq_true (PyData.shown_int_le (by omega))⟩
    by_cases z : i.natAbs = 0
    · rw [z]; decide
    · exact (Nat.log2_lt z).mpr (Nat.lt_of_le_of_lt h' (by decide +kernel))
  | _, .str _, _ => ⟨rfl, rfl⟩
  | 0, .list _, h => by cases h
  | 0, .tuple _, h => by cases h
  | n + 1, .list xs, h => by
    obtain ⟨m, e, h1, h2⟩ := okN_lst h
    cases e
    exact shAll fun x hx => okN_sh n x (h2 x hx)
  | n + 1, .tuple xs, h => by
    obtain ⟨m, e, h1, h2⟩ := okN_tup h
    cases e
    exact shAll fun x hx => okN_sh n x (h2 x hx)
  | n, .dict _, h => by cases n <;> cases h
theorem shw_of {d : PyData} {n : Nat} (rf : (∃ xs, d = .list xs) ∨ ∃ xs, d = .tuple xs) (h : okN n d = true) (hn : n ≤ 64) (hw : d.weight ≤ 1000000) : Shw d :=
  ⟨rf, okN_lay n d h, Nat.le_trans (okN_depth n d h) hn, Nat.le_trans hw (by decide), (okN_sh n d h).2, (okN_sh n d h).1⟩
/-! faults are small -/
theorem opt_str_ok : ∀ s ∈ ([("options" : Str), "places", "modes", "grammar"] : List Str), s.length ≤ 100 ∧ PyData.strOk s = true := by decide +kernel
theorem wi_ok {s : Str} {n : Nat} (hs : s ∈ ([("options" : Str), "places", "modes", "grammar"] : List Str)) (hn : n ≤ 1000) : okN 1 (.tuple [.str s, .int (n : Int)]) = true := by
  refine tup_okN (by show 2 ≤ 100; decide) fun x hx => ?_
  rcases List.mem_cons.mp hx with e | hx
  · subst e; exact str_okN (opt_str_ok s hs).1 (opt_str_ok s hs).2
  · cases List.mem_singleton.mp hx
    show decide _ = true
    exact decide_eq_true (by omega)
theorem w1_ok {s : Str} (hs : s ∈ ([("options" : Str), "places", "modes", "grammar"] : List Str)) : okN 1 (.tuple [.str s]) = true := by
  refine tup_okN (by show 1 ≤ 100; decide) fun x hx => ?_
  cases List.mem_singleton.mp hx
  exact str_okN (opt_str_ok s hs).1 (opt_str_ok s hs).2
theorem gF_ok {V : PyData → Bool} {s : Str} (hs : s ∈ ([("options" : Str), "places", "modes", "grammar"] : List Str)) : ∀ (r : List PyData) (n : Nat) (prev : List PyData), n + r.length ≤ 1000 → okN 1 (gF V s r n prev) = true
  | [], _, _, _ => rfl
  | o :: r, n, prev, h => by
    rw [gF_cons]
    rw [List.length_cons] at h
    split
    · exact gF_ok hs r _ _ (by omega)
    · exact wi_ok hs (by omega)
theorem fault_ok (d : PyData) : okN 1 (fault d) = true := by
  have hO : ∀ x, okN 1 (optionFault x) = true := fun x => by
    cases x with
    | tuple os =>
      by_cases h : os.length ≤ 24
      · rw [optionFault_gF os h]; exact gF_ok (by decide +kernel) _ _ _ (by omega)
      · show okN 1 (if os.length > 24 then _ else _) = true
        rw [if_pos (by omega)]; exact w1_ok (by decide +kernel)
    | _ => exact w1_ok (by decide +kernel)
  have hP : ∀ x, okN 1 (placeFault x) = true := fun x => by
    cases x with
    | tuple os =>
      by_cases h : os.length ≤ 5
      · rw [placeFault_gF os h]; exact gF_ok (by decide +kernel) _ _ _ (by omega)
      · show okN 1 (if os.length > 5 then _ else _) = true
        rw [if_pos (by omega)]; exact w1_ok (by decide +kernel)
    | _ => exact w1_ok (by decide +kernel)
  unfold fault
  split
  · split
    · exact hO _
    · split
      · exact hP _
      · split
        · rfl
        · exact w1_ok (by decide +kernel)
  · rfl
/-! a drawn grammar has no fault -/
theorem grm_fault {os ps : List PyData} {b0 b1 b2 : Bool} (h1 : Gd isOption "options" os) (l1 : os.length ≤ 24) (h2 : Gd isPlace "places" ps) (l2 : ps.length ≤ 5) : fault (KS.grm os ps b0 b1 b2) = .none := by
  unfold KS.grm
  rw [KD.fault3, optionFault_gF os l1, placeFault_gF ps l2, h1, h2]
  rfl
theorem gv_eq {os ps os' ps' : List PyData} {b0 b1 b2 c0 c1 c2 : Bool} (h : GV (KS.grm os ps b0 b1 b2) os' ps' c0 c1 c2) : os' = os ∧ ps' = ps ∧ c0 = b0 ∧ c1 = b1 ∧ c2 = b2 := by
  have e := h.eq
  unfold KS.grm at e
  simp only [PyData.tuple.injEq, List.cons.injEq, PyData.bool.injEq, and_true] at e
  exact ⟨e.1.symm, e.2.1.symm, e.2.2.1.symm, e.2.2.2.1.symm, e.2.2.2.2.symm⟩
theorem grm_okN {os ps : List PyData} {b0 b1 b2 : Bool} (h1 : ∀ o ∈ os, okN 1 o = true) (l1 : os.length ≤ 100) (h2 : ∀ o ∈ ps, okN 1 o = true) (l2 : ps.length ≤ 100) : okN 3 (KS.grm os ps b0 b1 b2) = true := by
  refine tup_okN (by show 3 ≤ 100; decide) fun x hx => ?_
  rcases List.mem_cons.mp hx with e | hx
  · subst e; exact tup_okN l1 h1
  rcases List.mem_cons.mp hx with e | hx
  · subst e; exact tup_okN l2 h2
  · cases List.mem_singleton.mp hx
    refine tup_okN (by show 3 ≤ 100; decide) fun x hx => ?_
    simp only [List.mem_cons, List.not_mem_nil, or_false] at hx
    rcases hx with rfl | rfl | rfl <;> rfl
theorem grm_w {os ps : List PyData} {b0 b1 b2 : Bool} (h1 : ∀ o ∈ os, okN 1 o = true) (l1 : os.length ≤ 50) (h2 : ∀ o ∈ ps, okN 1 o = true) (l2 : ps.length ≤ 5) : (KS.grm os ps b0 b1 b2).weight ≤ 600000 := by
  have a1 := weightAll_le fun x hx => okN_w1 (h1 x hx)
  have a2 := weightAll_le fun x hx => okN_w1 (h2 x hx)
  have b1 : os.length * (10100 + 1) ≤ 50 * 10101 := Nat.mul_le_mul_right _ l1
  have b2 : ps.length * (10100 + 1) ≤ 5 * 10101 := Nat.mul_le_mul_right _ l2
  show PyData.weightAll os + 1 + (PyData.weightAll ps + 1 + (PyData.weightAll [.bool _, .bool _, .bool _] + 1 + 0)) ≤ 600000
  have b3 : ∀ a b c : Bool, PyData.weightAll [.bool a, .bool b, .bool c] = 3 := fun _ _ _ => rfl
  rw [b3]
  omega
end KM
end
section
set_option Elab.async false
set_option linter.all false
set_option maxRecDepth 100000
set_option maxHeartbeats 4000000
namespace DS
open PySem PySem.Spec PyProof.Rows L2 LamX
open Evl (Ex ex_l ex_t ex_rd)
/-- a def, its code object told -/
structure FunC (K : PySem.W.Frag) (x : Str) (st : Stmt) (f : Addr) (fd : FuncData) (c : Addr) : Prop where
  ex : ∃ (oc : Value) (od : Option Addr) (kV doc pm : Value) (an : Option Addr) (ct : Value) (osl : Array (Option Value)),
    fd = PySem.W.fnOf x x (defArgs st) (defBody st) (defScope st) .none kV doc pm an (.ref c) ct ∧ K.lookup f = some ⟨oc, od, .func fd, osl⟩ ∧ PySem.W.codeIn K (.ref c) x = true
  kp : PySem.W.keepIn K (.ref f) = true
def BodyOkSGc (P : Program) (w : World) (K : PySem.W.Frag) (mg : Str → Option Value) (base : Heap) (N : List Str) (nm : Str) (st : Stmt) (cd : Addr) (b : Bool) (k : Nat) (Rl : RelS) : Prop :=
  ∀ (f : Addr) (A : Around) (outer : List Env) (s : Shared) (H : Hp) (E : XK) (F0 : Hp) (p : Pl) (n : Nat) (xs : List PyData) (c : Nat) (z : Sl → Prop), RoomG k (A.deeper (envOfC nm (defScope st) s.heap.objs.size f (.ref cd))) → Rl p xs c z → n + c ≤ NMX →
    DW (Bx P w K mg base N nm (defScope st) f (.ref cd) A outer s H E) (Sm0 p n F0 H) (startS N b p xs) (defBody st) (CzS p (fun q => H q = none) (n + c) z)
theorem def_mkSGc {P : Program} {w : World} {K : PySem.W.Frag} {mg : Str → Option Value} {base : Heap} {N : List Str} {nm : Str} {st : Stmt} {b : Bool} {k : Nat} {Rl : RelS} {f cd : Addr} {fd : FuncData} {ps : List Str} (F : FunC K nm st f fd cd) (hm : mg nm = some (.ref f)) (hb : Binds K fd ps []) (S : FnScope N ps (defScope st)) (hN : N ≠ [])
    (hl : ∀ p xs c z, Rl p xs c z → xs.length + (if b = true then 1 else 0) = ps.length) (body : BodyOkSGc P w K mg base N nm st cd b k Rl) : DefG P w K mg base nm (k + 1) ps (spS K b Rl) := by
  have len : ∀ vs H Q E, spS K b Rl vs H Q E → vs.length = ps.length := fun vs H Q E h => by
    obtain ⟨F0, p, n, us, xs, c, z, rfl, _, _, _, d, r, _⟩ := h
    rw [← hl p xs c z r, ← d.len]
    cases b <;> rfl
  obtain ⟨oc, od, kV, doc, pm, an, ct, osl, rfl, lk, hcd⟩ := F.ex
  refine ⟨f, _, ⟨len, fun A outer s H args us vs Q E hr e0 hbt r hsp => ?_⟩, hm, F.kp, hb⟩
  refine run_ofS lk hcd S hr.r e0 hbt r (len _ _ _ _ hsp) fun hr' => ?_
  obtain ⟨F0, p, n, us, xs, c, z, rfl, ex, sf, j, d, r, hn, q⟩ := hsp
  refine ⟨_, PSs.nox (body f A outer s H E F0 p n xs c z ⟨hr', hr.g⟩ r hn), F0, ⟨start_okS ex sf j d hN, Grow.refl ex⟩, fun σ' H' F' ds' O' m _ a ⟨⟨k, hk, e⟩, hz⟩ => ?_, fun v r' F' H' O' m g j' o ⟨⟨k, hk, e⟩, hr'⟩ => ?_, fun _ _ _ _ _ _ _ _ z => z.elim, fun _ _ _ _ _ _ _ _ z => z.elim⟩
  · subst e
    exact q .non (.d .none) F' H' (grow_os a.g) (StJ.mono a.st.j hk) rt_none hz
  · subst e
    exact q v r' F' H' (grow_os g) (StJ.mono j' hk) (rt_wi rfl o) hr'
theorem bindL0 {params : Arguments} {body : Expr} {scope : Scope} (hb : ∀ q cl pm cv ctv dV doc, bindArgs (lfn q params body scope cl pm cv ctv dV doc) ⟨[], []⟩ = (seqItems? dV >>= fun _ => pure [])) : ∀ us : List Value, us.length = 0 → BindL params body scope us [] := by
  intro us hl q cl pm cv ctv dV doc M A Q E s hd hq
  rw [hb]
  rcases hd with ⟨_, rfl⟩ | ⟨T, o, n, rfl, h1, h2⟩
  · exact wpAny_bind (wpAny_pure (wpAny_pure hq))
  · exact wpAny_bind (wpAny_seqItems h1 h2 (wpAny_pure hq))
theorem bindAt {body : Expr} {scope : Scope} {pos : Pos} {dl : List Expr} {y : Str} : ∀ us : List Value, us.length = 1 → BindL { posonlyargs := [], args := [⟨y, none, pos⟩], vararg := none, kwonlyargs := [], kw_defaults := [], kwarg := none, defaults := dl } body scope us (us.map fun u => (y, u)) := by
  intro us hl q cl pm cv ctv dV doc M A Q E s hd hq
  match us, hl with
  | [u], _ =>
    rcases hd with ⟨z, _⟩ | ⟨T, o, n, rfl, h1, h2⟩
    · cases z
    · have h2 : o.data = .seq #[u] n := h2
      unfold bindArgs
      simp only [List.map_nil, List.map_cons, List.nil_append, List.zip_nil_right, List.forIn_nil, pure_bind, List.length_nil, List.length_cons]
      refine wpAny_bind (wpAny_seqItems h1 h2 ?_)
      simp
      exact wpAny_pure hq
end DS
end
section
set_option Elab.async false
set_option linter.all false
set_option maxRecDepth 100000
set_option maxHeartbeats 4000000
namespace KS
open PySem PySem.Spec PyProof.Rows L2 DS KT KM KD KL LamX
open Evl (Ex ex_l ex_t ex_rd)
section
variable {P : Program} {w : World} {K : PySem.W.Frag} {mg : Str → Option Value} {base : Heap} {Cb Ck fI : Addr}
/-- the name of a lambda of a def -/
def lq (nm : Str) : Str := (envOfC nm (defScope s_law_more_right) 0 0 .none).qual ++ "<lambda>"
def R_more_right (T0 : List (Addr × Str)) : RelS := fun p xs c z => p.T = T0 ∧ ∃ os ps b0 b1 b2, xs = [grm os ps b0 b1 b2] ∧ Gd isOption "options" os ∧ os.length ≤ 12 ∧ Gd isPlace "places" ps ∧ ps.length ≤ 5 ∧ c = 168 ∧ z (.d (.bool true))
def MoreOk (more : List PyData) : Prop := more.length ≤ 25 ∧ ∀ x ∈ more, okN 1 x = true
/-- what is said of a grammar with more options -/
def saidOf (th : PyData) : PyData := if isNone (KM.fault th) = true then .list [th] else .tuple [.str "grammar", KM.fault th]
theorem none_of {x : PyData} (h : isNone x = true) : x = .none := by cases x <;> first | rfl | cases h
theorem paired_all {Q : PyData → Prop} : ∀ {xs ys : List PyData}, Paired (fun _ y => Q y) xs ys → ∀ y ∈ ys, Q y
  | _, _, .nil => fun y h => (nomatch h)
  | _, _, .cons h t => fun y hy => (List.mem_cons.mp hy).elim (fun e => e ▸ h) (paired_all t y)
theorem saidOf_eq {th x : PyData} (h : (∃ y, (KM.fault th = .none ∧ y = th) ∧ x = .list [y]) ∨ ∃ y, (KM.fault th ≠ .none ∧ y = KM.fault th) ∧ x = .tuple [.str "grammar", y]) : x = saidOf th := by
  unfold saidOf
  rcases h with ⟨y, ⟨h1, rfl⟩, rfl⟩ | ⟨y, ⟨h1, rfl⟩, rfl⟩
  · rw [h1]; rfl
  · rw [if_neg (fun z => h1 (none_of z))]
theorem kk_at : ∀ k : Nat, k < 25 → atI ("abcdefghijklmnopqrstuvwxy" : Str).cps.toList (0 + (k : Int)) = some (("abcdefghijklmnopqrstuvwxy" : Str).cps.toList.getD k 0) ∧ PyData.strOk (("long-" : Str) ++ ⟨#[("abcdefghijklmnopqrstuvwxy" : Str).cps.toList.getD k 0]⟩) = true ∧ (("long-" : Str) ++ ⟨#[("abcdefghijklmnopqrstuvwxy" : Str).cps.toList.getD k 0]⟩).length ≤ 100 := by decide +kernel
theorem s_ok : ∀ s ∈ ([("" : Str), "flag", "ab", "zz"] : List Str), s.length ≤ 100 ∧ PyData.strOk s = true := by decide +kernel
theorem sOk {s : Str} {n : Nat} (h : s ∈ ([("" : Str), "flag", "ab", "zz"] : List Str)) : okN n (.str s) = true := str_okN (s_ok s h).1 (s_ok s h).2
set_option maxHeartbeats 8000000 in
theorem b_more_right {T0 : List (Addr × Str)} {c P0 : Addr} (m : Free mg) (SD : SaidD K mg Cb Ck) (TB : TabB base mg c P0) (hmT : (P0, lq "_law_more_right") ∈ T0) (hu : ∀ q ∈ T0, q.1 = P0 → q.2 = lq "_law_more_right")
    (D0 : Def P w K mg base "_law_draw" 2 P_draw (spS K true R_draw)) (Do : Def P w K mg base "_law_of" 3 ["state", "some"] (spS K true R_of)) (D1 : Def P w K mg base "_law_more" 4 ["state", "options", "many"] (spS K true R_more)) (Df : Def P w K mg base "_law_fault" 5 ["thing"] (spD K R_fault)) (Dw : Def P w K mg base "with_options" 7 ["grammar", "options"] (spE K Cb R_with)) :
    BodyOkSGc P w K mg base N_law_more_right "_law_more_right" s_law_more_right c true 9 (R_more_right T0) := by
  intro f A outer s H E F0 p n xs cc z hr hR hn
  obtain ⟨hT, os, ps, b0, b1, b2, rfl, gO, lO, gP, lP, rfl, hz⟩ := hR
  have hn' : n + 168 ≤ NMX := hn
  have hN := sc_law_more_right.nd
  have hok1 : ∀ o ∈ os, okN 1 o = true := fun o ho => opt_ok (gF_all gO o ho)
  have hok2 : ∀ o ∈ ps, okN 1 o = true := fun o ho => pla_ok (gF_all gP o ho)
  have g0 : ∀ {X : Cx} {O : Own} {ds : List Sl} {e : Expr} {p1 pos : Pos} {j : Nat}, DX X O ds e (grm os ps b0 b1 b2) → DX X O ds (.Subscript e (.Constant (.int 0) j p1) pos) (.tuple os) := fun h => dx_ixT h dx_int rfl
  have g1 : ∀ {X : Cx} {O : Own} {ds : List Sl} {e : Expr} {p1 pos : Pos} {j : Nat}, DX X O ds e (grm os ps b0 b1 b2) → DX X O ds (.Subscript e (.Constant (.int 1) j p1) pos) (.tuple ps) := fun h => dx_ixT h dx_int rfl
  have g2 : ∀ {X : Cx} {O : Own} {ds : List Sl} {e : Expr} {p1 pos : Pos} {j : Nat}, DX X O ds e (grm os ps b0 b1 b2) → DX X O ds (.Subscript e (.Constant (.int 2) j p1) pos) (.tuple [.bool b0, .bool b1, .bool b2]) := fun h => dx_ixT h dx_int rfl
  -- the tail
  have tail : ∀ more, MoreOk more → ∀ u : Sl, DW (Bx P w K mg base N_law_more_right "_law_more_right" (defScope s_law_more_right) f (.ref c) A outer s H E) (Sm0 p (n + 168) F0 H) [.v (.ref p.st), .d (grm os ps b0 b1 b2), .d (.tuple more), .u, .u, .u, .u, u] ((defBody s_law_more_right).drop 3) (CzS p (fun q => H q = none) (n + 168) z) := by
    intro more hm u
    have hokm : ∀ o ∈ os ++ more, okN 1 o = true := fun o ho => (List.mem_append.mp ho).elim (hok1 o) (hm.2 o)
    have hlen : (os ++ more).length ≤ 50 := by rw [List.length_append]; have := hm.1; omega
    have hml := hm.1
    have hth : okN 3 (grm (os ++ more) ps b0 b1 b2) = true := grm_okN hokm (by omega) hok2 (by omega)
    have hg3 : okN 3 (grm os ps b0 b1 b2) = true := grm_okN hok1 (by omega) hok2 (by omega)
    have hu1 : (A.deeper (envOfC "_law_more_right" (defScope s_law_more_right) s.heap.objs.size f (.ref c))).units + 100 < cLine := by have := hr.r.un; omega
    have hpair : Shw (.tuple [grm os ps b0 b1 b2, .tuple more]) := by
      refine shw_of (n := 4) (.inr ⟨_, rfl⟩) (tup_okN (by show 2 ≤ 100; decide) fun x hx => ?_) (by decide) ?_
      · rcases List.mem_cons.mp hx with e | hx
        · subst e; exact hg3
        · cases List.mem_singleton.mp hx
          exact okN_mono (by decide) (tup_okN (n := 1) (by omega) hm.2)
      · have w1 := grm_w (b0 := b0) (b1 := b1) (b2 := b2) hok1 (by omega : os.length ≤ 50) hok2 lP
        have w2 := weightAll_le fun x hx => okN_w1 (hm.2 x hx)
        have w3 : more.length * (10100 + 1) ≤ 25 * 10101 := Nat.mul_le_mul_right _ hml
        show (grm os ps b0 b1 b2).weight + 1 + (PyData.weightAll more + 1 + 0) ≤ 1000000
        omega
    have hsaid : Shw (saidOf (grm (os ++ more) ps b0 b1 b2)) := by
      have w1 := grm_w (b0 := b0) (b1 := b1) (b2 := b2) hokm hlen hok2 lP
      unfold saidOf
      split
      · refine shw_of (n := 4) (.inl ⟨_, rfl⟩) (lst_okN (by show 1 ≤ 100; decide) fun x hx => by cases List.mem_singleton.mp hx; exact hth) (by decide) ?_
        show (grm (os ++ more) ps b0 b1 b2).weight + 1 + 0 ≤ 1000000
        omega
      · have w4 := okN_w1 (fault_ok (grm (os ++ more) ps b0 b1 b2))
        refine shw_of (n := 2) (.inr ⟨_, rfl⟩) (tup_okN (by show 2 ≤ 100; decide) fun x hx => ?_) (by decide) ?_
        · rcases List.mem_cons.mp hx with e | hx
          · subst e; exact str_okN (opt_str_ok _ (by decide +kernel)).1 (opt_str_ok _ (by decide +kernel)).2
          · cases List.mem_singleton.mp hx; exact fault_ok _
        · have w5 : (PyData.str "grammar").weight = 7 := rfl
          show (PyData.str "grammar").weight + 1 + ((KM.fault (grm (os ++ more) ps b0 b1 b2)).weight + 1 + 0) ≤ 1000000
          omega
    refine dw_set (M := Sm0 p (n + 168) F0 H) (x := grm (os ++ more) ps b0 b1 b2) 3 hN (dx_tup (da_cons (dx_catT (g0 (dx_var 1)) (dx_var 2) (by omega)) (da_cons (g1 (dx_var 1)) (da_one (g2 (dx_var 1))))) (by show 3 ≤ 100000; decide)) ?_
    refine dw_par (M := Sm0 p (n + 168) F0 H) 5 6 rfl hN (rn_d (dx_call Df (hr.r.mono (by decide)) (da_one (dx_var 3)) ⟨_, rfl, okN_mono (by decide) hth, rfl⟩)) (rn_d (dx_repr m.repr hu1 hr.g (dx_tup (da_cons (dx_var 1) (da_one (dx_var 2))) (by show 2 ≤ 100000; decide)) hpair)) ?_ (by with_unfolding_all rfl)
    refine dw_set (M := Sm0 p (n + 168) F0 H) (x := saidOf (grm (os ++ more) ps b0 b1 b2)) 4 hN (dx_ofP (dp_imp (dp_said (k := 7) (nd := 0) (bs := []) (bdOf := fun _ => []) (good := fun y => KM.fault (grm (os ++ more) ps b0 b1 b2) = .none ∧ y = grm (os ++ more) ps b0 b1 b2) (bad := fun y => KM.fault (grm (os ++ more) ps b0 b1 b2) ≠ .none ∧ y = KM.fault (grm (os ++ more) ps b0 b1 b2)) m SD TB rfl (by rw [hT]; exact hmT) (by rw [hT]; exact hu) hr.r (lamP_by (N := N_law_more_right) (sc := defScope s_law_more_right) (by decide +kernel)) (lam_eval0 rfl) (fun _ _ y hy => nomatch hy) (bindL0 (by intros; unfold bindArgs; simp))
      (fun A' outer' s' H' E' f' c'' hr'' => pe_lamE Dw hr'' (takes_of rfl rfl rfl rfl) (da_cons (dx_var 1) (da_one (dx_var 2))) ?_)) fun x h => saidOf_eq h)) ?_
    · refine ⟨_, _, rfl, okN_mono (by decide) hg3, fun os' ps' c0 c1 c2 hf gv => ?_, fun h => absurd (grm_fault gO (by omega) gP lP) h⟩
      obtain ⟨rfl, rfl, rfl, rfl, rfl⟩ := gv_eq gv
      exact ⟨more, rfl, by omega, okN_mono (by decide) hth, fun h => ⟨_, rfl, h, rfl⟩, fun h => ⟨h, rfl⟩⟩
    refine dw_ret (M := Sm0 p (n + 168) F0 H) (x := .bool true) (dx_is (dx_and (k := true) (k' := true) (dx_is (dx_eqS (dx_repr m.repr hu1 hr.g (dx_var 4) hsaid) (dx_repr (x := saidOf (grm (os ++ more) ps b0 b1 b2)) m.repr hu1 hr.g (dx_if (dt_isN (dx_var 5)) (fun h => ?_) (fun h => ?_)) hsaid)) (congrArg PyData.bool (decide_eq_true rfl))) fun _ => dx_one (dx_is (dx_eqS (dx_repr m.repr hu1 hr.g (dx_tup (da_cons (dx_var 1) (da_one (dx_var 2))) (by show 2 ≤ 100000; decide)) hpair) (dx_var 6)) (congrArg PyData.bool (decide_eq_true rfl)))) rfl) ⟨⟨n + 168, Nat.le_refl _, rfl⟩, hz⟩
    · exact dx_is (dx_lst (da_one (dx_var 3))) (by unfold saidOf; rw [if_pos h])
    · exact dx_is (dx_tup (da_cons dx_str (da_one (dx_var 5))) (by show 2 ≤ 100000; decide)) (by unfold saidOf; rw [if_neg (by rw [h]; decide)])
  have wide : ∀ {k1 k2 : Nat} {ds : List Sl} {sts : List Stmt} {C : Cn}, k1 ≤ k2 → DW (Bx P w K mg base N_law_more_right "_law_more_right" (defScope s_law_more_right) f (.ref c) A outer s H E) (Sm0 p k2 F0 H) ds sts C → DW (Bx P w K mg base N_law_more_right "_law_more_right" (defScope s_law_more_right) f (.ref c) A outer s H E) (Sm0 p k1 F0 H) ds sts C := fun {k1 k2 ds sts C} hk h => dw_wide (M := Sm0 p k1 F0 H) (O' := OS p (fun q => H q = none) k2) (os_sm _ _ _ _) (fun H j => j.mono hk) h
  have mid : ∀ more, MoreOk more → DW (Bx P w K mg base N_law_more_right "_law_more_right" (defScope s_law_more_right) f (.ref c) A outer s H E) (Sm0 p (n + 164) F0 H) [.v (.ref p.st), .d (grm os ps b0 b1 b2), .d (.tuple more), .u, .u, .u, .u, .u] ((defBody s_law_more_right).drop 2) (CzS p (fun q => H q = none) (n + 168) z) := by
    intro more hm
    refine dw_ifH (M := Sm0 p (n + 164) F0 H) (O' := OS p (fun q => H q = none) (n + 164 + 1)) (os_sm _ _ _ _) (dth_cmp (P := fun x => ∃ r : Int, x = .int r ∧ 0 ≤ r ∧ r < 4) (Q := fun x => x = .int 0) (os_sm _ _ _ _) op_eq (dhp_draw 0 D0 (hr.r.mono (by decide)) dx_int (by decide) (by decide) (by omega)) (dhp_of dx_int) fun x y ⟨r, ex, _⟩ ey => ⟨decide (r = 0), by subst ex ey; exact op2_eqI⟩) ?_ ?_
    · show DW _ (Sm0 p (n + 165) F0 H) _ _ _
      refine dw_setHP (M := Sm0 p (n + 165) F0 H) (O' := OS p (fun q => H q = none) (n + 165 + 1)) (P := fun x => ∃ ys, x = .tuple ys ∧ MoreOk ys) 2 (os_sm _ _ _ _) hN (dh_tupleL m.tuple (os_sm _ _ _ _) (dh_imp (dh_lc (own := [("k", 7)]) (g := tg1 7) (O1 := OS p (fun q => H q = none) (n + 165 + 1)) (O2 := OS p (fun q => H q = none) (n + 165 + 1)) (fun xs => ∃ k : Nat, k ≤ 25 ∧ xs = intsD 0 k) (fun xs i => OS p (fun q => H q = none) (n + 165 + 1)) (fun _ y => okN 1 y = true) rfl hN
        (dip_rngH (m := 25) m.range (dhp_ofR (dh_callS (n1 := n + 165) (c := 1) 0 Do (hr.r.mono (by decide)) (dah_of (da_one (dx_lst (xs := [.int 24, .int 25]) (da_cons dx_int (da_one dx_int)) (by show 2 ≤ 100000; decide)))) (fun xs e => ⟨[.int 24, .int 25], e, by decide, by decide, rfl, fun x hx => ⟨x, rfl, ?_⟩⟩) (by omega))) (by decide)) (blkOk_by (N := N_law_more_right) (sc := defScope s_law_more_right) (by decide +kernel)) ?_ (fun _ _ => os_sm _ _ _ _) (fun xs H _ j => j) (fun xs i H _ j => j) (fun xs H _ j => j) (fun O s H C cl fp => dtg1 7 hN) (fun xs x _ hx => ⟨_, rfl⟩) ?_) ?_)) ?_
      · simp only [List.mem_cons, List.not_mem_nil, or_false] at hx
        rcases hx with rfl | rfl
        · exact ⟨24, rfl, by decide, by decide⟩
        · exact ⟨25, rfl, by decide, by decide⟩
      · rintro xs ⟨k, hk, rfl⟩
        rw [intsD_len]; omega
      · rintro s1 H1 C cl fp xs i x ds1 ⟨k, hk, rfl⟩ hx e
        cases e
        obtain ⟨hi, rfl⟩ := intsD_get hx
        obtain ⟨q1, q2, q3⟩ := kk_at i (by omega)
        refine dhp_imp (dhp_of (dx_tup (da_cons (dx_addS dx_str (dx_ixS dx_str (dx_var 7) q1 (by decide +kernel)) (by show _ + 1 ≤ 100000; decide +kernel)) (da_cons dx_str (da_one dx_str))) (by show 3 ≤ 100000; decide))) fun y ey => ?_
        subst ey
        refine tup_okN (by show 3 ≤ 100; decide) fun x hx => ?_
        simp only [List.mem_cons, List.not_mem_nil, or_false] at hx
        rcases hx with rfl | rfl | rfl
        · exact str_okN q3 q2
        · exact sOk (by decide +kernel)
        · exact sOk (by decide +kernel)
      · rintro H0 F' H' v ⟨xs, ys, ⟨k, hk, rfl⟩, hp, p1, vs, e1, h1, h2, h3, h4⟩
        have hl := paired_len hp
        rw [intsD_len] at hl
        exact ⟨ys, ⟨by omega, fun x hx => paired_all hp x hx⟩, p1, vs, e1, SqL.of h3, h4⟩
      · rintro x ⟨ys, rfl, hys⟩
        show DW _ (Sm0 p (n + 166) F0 H) _ _ _
        refine dw_setHP (M := Sm0 p (n + 166) F0 H) (O' := OS p (fun q => H q = none) (n + 166 + 1)) (P := fun x => ∃ i, True ∧ x = .tuple (cutD ys none (some i))) 2 (os_sm _ _ _ _) hN (dh_cutT (P := fun _ => True) (os_sm _ _ _ _) (dx_var 2) (dhp_ofR (dh_callS (n1 := n + 166) (c := 1) 0 Do (hr.r.mono (by decide)) (dah_of (da_one (dx_lst (xs := [.int 25, .int (24 - (os.length : Int))]) (da_cons dx_int (da_one (dx_sub dx_int (dx_len m.len (dl_ofT (g0 (dx_var 1))))))) (by show 2 ≤ 100000; decide)))) (fun xs e => ⟨[.int 25, .int (24 - (os.length : Int))], e, by show 0 < 2; decide, by show 2 ≤ 1000; decide, rfl, fun x hx => ⟨x, rfl, ?_⟩⟩) (by omega)))) ?_
        · simp only [List.mem_cons, List.not_mem_nil, or_false] at hx
          rcases hx with rfl | rfl
          · exact ⟨_, rfl, trivial⟩
          · exact ⟨_, rfl, trivial⟩
        rintro x ⟨i, _, rfl⟩
        refine dw_nil ⟨os_sm _ _ _ _, wide (by omega) (tail _ ⟨?_, fun x hx => hys.2 x ?_⟩ _)⟩
        · exact Nat.le_trans (cutD_len ys none (some i)) hys.1
        · unfold DS.cutD at hx
          exact List.mem_of_mem_drop (List.mem_of_mem_take hx)
    · exact dw_nil ⟨os_sm _ _ _ _, wide (k1 := n + 165) (by omega) (tail _ hm _)⟩
  refine dw_setHP (M := Sm0 p n F0 H) (O' := OS p (fun q => H q = none) (n + 1 + 161)) (P := fun x => ∃ ys, x = .tuple ys ∧ (Gd isOption "options" ys ∧ ys.length ≤ 7)) 2 (os_sm _ _ _ _) hN (dh_tupleL m.tuple (os_sm _ _ _ _) (dh_lsOf (dhp_ofR (dh_callS (n1 := n + 1) (c := 161) (Ps := fun xs => ∃ r : Int, xs = [.list [], .int r] ∧ 0 ≤ r ∧ r < 8) 0 D1 (hr.r.mono (by decide)) (dah_cons (O1 := OS p (fun q => H q = none) n) (os_sm _ _ _ _) (dhp_of (dx_lst da_nil)) (dah_cons (O1 := OS p (fun q => H q = none) (n + 1)) (P := fun x => ∃ r : Int, x = .int r ∧ 0 ≤ r ∧ r < 8) (Ps := fun l => l = []) (S := fun l => ∃ r : Int, l = [.int r] ∧ 0 ≤ r ∧ r < 8) (os_sm _ _ _ _) (dhp_draw (many := 8) 0 D0 (hr.r.mono (by decide)) dx_int (by decide) (by decide) (by omega)) dah_nil fun x xs ⟨r, e, a, b⟩ e2 => ⟨r, by rw [e, e2], a, b⟩) fun x xs e ⟨r, e2, a, b⟩ => ⟨r, by rw [e, e2], a, b⟩)
      (fun xs ⟨r, e, a, b⟩ => ⟨r.toNat, by rw [e, Int.toNat_of_nonneg a], by omega, by omega, fun os h1 h2 => ⟨_, rfl, os, rfl, h1, by omega⟩⟩) (by omega))))) ?_
  rintro x ⟨m1, rfl, gm, lm⟩
  show DW _ (Sm0 p (n + 162) F0 H) _ _ _
  have hm1 : ∀ o ∈ m1, okN 1 o = true := fun o ho => opt_ok (gF_all gm o ho)
  refine dw_ifH (M := Sm0 p (n + 162) F0 H) (O' := OS p (fun q => H q = none) (n + 162 + 1)) (os_sm _ _ _ _) (dth_cmp (P := fun x => ∃ r : Int, x = .int r ∧ 0 ≤ r ∧ r < 4) (Q := fun x => x = .int 0) (os_sm _ _ _ _) op_eq (dhp_draw 0 D0 (hr.r.mono (by decide)) dx_int (by decide) (by decide) (by omega)) (dhp_of dx_int) fun x y ⟨r, ex, _⟩ ey => ⟨decide (r = 0), by subst ex ey; exact op2_eqI⟩) ?_ ?_
  · show DW _ (Sm0 p (n + 163) F0 H) _ _ _
    have hcl : (cutD os none (some 1)).length ≤ os.length := cutD_len os none (some 1)
    refine dw_setHP (M := Sm0 p (n + 163) F0 H) (O' := OS p (fun q => H q = none) (n + 163 + 1)) (P := fun x => ∃ ys, x = .tuple ys ∧ MoreOk ys) 2 (os_sm _ _ _ _) hN (dh_op (P := fun x => x = .tuple (m1 ++ cutD os none (some 1))) (Q := fun x => ∃ ys, x = .tuple ys ∧ ∃ y, ys = [y] ∧ okN 1 y = true) (os_sm _ _ _ _) op_catA (dhp_of (dx_catT (dx_var 2) (dx_cutT (g0 (dx_var 1)) pt_no (pt_at dx_int)) (by omega))) (dh_tup (dah_cons (O1 := OS p (fun q => H q = none) (n + 163 + 1)) (P := fun x => okN 1 x = true) (Ps := fun l => l = []) (os_sm _ _ _ _) (dhp_ofR (dh_callS (n1 := n + 163) (c := 1) 0 Do (hr.r.mono (by decide)) (dah_of (da_one (dx_lst (xs := [.none, .tuple [.str "ab"], .tuple [.str "zz", .str "zz", .str "flag"]]) (da_cons dx_non (da_cons (dx_tup (da_one dx_str)) (da_one (dx_tup (da_cons dx_str (da_cons dx_str (da_one dx_str))))))) (by show 3 ≤ 100000; decide)))) (fun xs e => ⟨[.none, .tuple [.str "ab"], .tuple [.str "zz", .str "zz", .str "flag"]], e, by decide, by decide, rfl, fun x hx => ⟨x, rfl, ?_⟩⟩) (by omega))) dah_nil fun x xs h e => ⟨x, by rw [e], h⟩) (os_sm _ _ _ _) (fun xs ⟨y, e, _⟩ => by subst e; show 1 ≤ 100000; decide)) ?_) ?_
    · simp only [List.mem_cons, List.not_mem_nil, or_false] at hx
      rcases hx with rfl | rfl | rfl
      · rfl
      · decide +kernel
      · decide +kernel
    · rintro x y rfl ⟨ys, rfl, y, rfl, hy⟩
      have hll : (m1 ++ cutD os none (some 1)).length ≤ 19 := by rw [List.length_append]; omega
      refine ⟨.tuple ((m1 ++ cutD os none (some 1)) ++ [y]), ⟨_, rfl, ?_, fun x hx => ?_⟩, op2_catT (by show _ + 1 ≤ 100000; omega)⟩
      · rw [List.length_append]; show _ + 1 ≤ 25; omega
      · rcases List.mem_append.mp hx with h | h
        · rcases List.mem_append.mp h with h | h
          · exact hm1 x h
          · unfold DS.cutD at h
            exact hok1 x (List.mem_of_mem_drop (List.mem_of_mem_take h))
        · cases List.mem_singleton.mp h; exact hy
    · rintro x ⟨ys, rfl, hys⟩
      exact dw_nil ⟨os_sm _ _ _ _, mid ys hys⟩
  · exact dw_nil ⟨os_sm _ _ _ _, wide (k1 := n + 163) (by omega) (mid m1 ⟨by omega, hm1⟩)⟩
end
end KS
end
section
set_option Elab.async false
set_option linter.all false
set_option maxRecDepth 100000
set_option maxHeartbeats 8000000
namespace KM
open PySem DS L2 PyProof.Rows
theorem gF_bad {V : PyData → Bool} {word : Str} {o : PyData} : ∀ {r : List PyData} {n : Nat} {prev : List PyData}, gF V word r n prev = .none → fits V (prev ++ r) o = false → gF V word (r ++ [o]) n prev = .tuple [.str word, .int ((n + r.length : Nat) : Int)]
  | [], n, prev, _, h => by
    rw [List.append_nil] at h
    rw [List.nil_append, gF_cons, if_neg (by rw [h]; decide)]
    rfl
  | x :: r, n, prev, h, hf => by
    rw [gF_cons] at h
    by_cases c : fits V prev x = true
    · rw [if_pos c] at h
      rw [List.cons_append, gF_cons, if_pos c, gF_bad h (by rw [List.append_assoc]; exact hf), List.length_cons, Nat.add_assoc, Nat.add_comm 1]
    · rw [if_neg c] at h; cases h
/-- what is refused, and why -/
def rowsR (os ps : List PyData) (b0 b1 b2 : Bool) : List (PyData × PyData) :=
  [(.tuple [.tuple os, .tuple ps, .tuple [.bool b0, .bool b1]], .tuple [.str "modes"]), (.list [.tuple os, .tuple ps, .tuple [.bool b0, .bool b1, .bool b2]], .tuple []),
   (.tuple [.tuple os, .none, .tuple [.bool b0, .bool b1, .bool b2]], .tuple [.str "places"]), (.tuple [.tuple (os ++ [.str "ab"]), .tuple ps, .tuple [.bool b0, .bool b1, .bool b2]], .tuple [.str "options", .int (os.length : Int)]),
   (.none, .tuple []), (.tuple [.str "ab", .tuple [], .tuple [.bool b0, .bool b1, .bool b2]], .tuple [.str "options"])]
theorem rowsR_fault {os ps : List PyData} {b0 b1 b2 : Bool} (h1 : Gd isOption "options" os) (l1 : os.length ≤ 12) (h2 : Gd isPlace "places" ps) (l2 : ps.length ≤ 5) : ∀ r ∈ rowsR os ps b0 b1 b2, fault r.1 = r.2 := by
  have e1 : optionFault (.tuple os) = .none := by rw [optionFault_gF os (by omega)]; exact h1
  have e2 : placeFault (.tuple ps) = .none := by rw [placeFault_gF ps l2]; exact h2
  intro r hr
  simp only [rowsR, List.mem_cons, List.not_mem_nil, or_false] at hr
  rcases hr with rfl | rfl | rfl | rfl | rfl | rfl
  · show fault (.tuple _) = _
    rw [KD.fault3, e1, e2]; rfl
  · rfl
  · show fault (.tuple _) = _
    rw [KD.fault3, e1]; rfl
  · show fault (.tuple _) = _
    have hf : fits isOption ([] ++ os) (.str "ab") = false := by
      unfold fits
      rfl
    rw [KD.fault3, optionFault_gF (os ++ [PyData.str ("ab" : Str)]) (by rw [List.length_append]; show os.length + 1 ≤ 24; omega), gF_bad h1 hf, Nat.zero_add]
    rfl
  · rfl
  · rfl
theorem rowsR_ok {os ps : List PyData} {b0 b1 b2 : Bool} (h1 : ∀ o ∈ os, okN 1 o = true) (l1 : os.length ≤ 12) (h2 : ∀ o ∈ ps, okN 1 o = true) (l2 : ps.length ≤ 5) : ∀ r ∈ rowsR os ps b0 b1 b2, okN 3 r.1 = true ∧ okN 1 r.2 = true ∧ r.2 ≠ .none := by
  have t1 : okN 2 (.tuple os) = true := tup_okN (by omega) h1
  have t2 : okN 2 (.tuple ps) = true := tup_okN (by omega) h2
  have t3 : okN 2 (.tuple [.bool b0, .bool b1, .bool b2]) = true := rfl
  have t4 : okN 2 (.tuple [.bool b0, .bool b1]) = true := rfl
  have t5 : okN 1 (.str "ab") = true := KS.sOk (by decide +kernel)
  have t6 : okN 2 (.tuple (os ++ [.str "ab"])) = true := tup_okN (by rw [List.length_append]; show os.length + 1 ≤ 100; omega) fun o ho => (List.mem_append.mp ho).elim (h1 o) fun h => by cases List.mem_singleton.mp h; exact t5
  have tri : ∀ {a b c : PyData}, okN 2 a = true → okN 2 b = true → okN 2 c = true → ∀ x ∈ [a, b, c], okN 2 x = true := fun ha hb hc x hx => by
    simp only [List.mem_cons, List.not_mem_nil, or_false] at hx
    rcases hx with rfl | rfl | rfl
    · exact ha
    · exact hb
    · exact hc
  intro r hr
  simp only [rowsR, List.mem_cons, List.not_mem_nil, or_false] at hr
  rcases hr with rfl | rfl | rfl | rfl | rfl | rfl
  · exact ⟨tup_okN (by show 3 ≤ 100; decide) (tri t1 t2 t4), w1_ok (by decide +kernel), fun z => nomatch z⟩
  · exact ⟨lst_okN (by show 3 ≤ 100; decide) (tri t1 t2 t3), rfl, fun z => nomatch z⟩
  · exact ⟨tup_okN (by show 3 ≤ 100; decide) (tri t1 rfl t3), w1_ok (by decide +kernel), fun z => nomatch z⟩
  · exact ⟨tup_okN (by show 3 ≤ 100; decide) (tri t6 t2 t3), wi_ok (by decide +kernel) (by omega), fun z => nomatch z⟩
  · exact ⟨rfl, rfl, fun z => nomatch z⟩
  · exact ⟨tup_okN (by show 3 ≤ 100; decide) (tri (KS.sOk (by decide +kernel)) rfl t3), w1_ok (by decide +kernel), fun z => nomatch z⟩
end KM
namespace KS
open PySem PySem.Spec PyProof.Rows L2 DS KT KM KD KL LamX
open Evl (Ex ex_l ex_t ex_rd)
section
variable {P : Program} {w : World} {K : PySem.W.Frag} {mg : Str → Option Value} {base : Heap} {Cb Ck fI : Addr}
def R_refused_right (T0 : List (Addr × Str)) : RelS := fun p xs c z => p.T = T0 ∧ ∃ os ps b0 b1 b2, xs = [grm os ps b0 b1 b2] ∧ Gd isOption "options" os ∧ os.length ≤ 12 ∧ Gd isPlace "places" ps ∧ ps.length ≤ 5 ∧ c = 0 ∧ z (.d (.bool true))
def rowD (r : PyData × PyData) : PyData := .tuple [r.1, r.2]
theorem b_refused_right {T0 : List (Addr × Str)} {c P0 : Addr} (m : Free mg) (SD : SaidD K mg Cb Ck) (TB : TabB base mg c P0) (hmT : (P0, lq "_law_refused_right") ∈ T0) (hu : ∀ q ∈ T0, q.1 = P0 → q.2 = lq "_law_refused_right")
    (Dt : Def P w K mg base "tellings" 7 ["grammar"] (spE K Cb R_tellings)) (Dn : Def P w K mg base "numbers" 7 ["grammar"] (spE K Cb R_numbers)) (Dw : Def P w K mg base "with_options" 7 ["grammar", "options"] (spE K Cb R_with)) :
    BodyOkSGc P w K mg base N_law_refused_right "_law_refused_right" s_law_refused_right c false 9 (R_refused_right T0) := by
  intro f A outer s H E F0 p n xs cc z hr hR hn
  obtain ⟨hT, os, ps, b0, b1, b2, rfl, gO, lO, gP, lP, rfl, hz⟩ := hR
  have hN := sc_law_refused_right.nd
  have hok1 : ∀ o ∈ os, okN 1 o = true := fun o ho => opt_ok (gF_all gO o ho)
  have hok2 : ∀ o ∈ ps, okN 1 o = true := fun o ho => pla_ok (gF_all gP o ho)
  have hu1 : (A.deeper (envOfC "_law_refused_right" (defScope s_law_refused_right) s.heap.objs.size f (.ref c))).units + 100 < cLine := by have := hr.r.un; omega
  refine dw_unp (M := Sm0 p n F0 H) (x := grm os ps b0 b1 b2) (dx_var 0) (dtg3 2 3 4 rfl hN (gn 2 hN) (gn 3 hN) (gn 4 hN)) rfl ?_
  refine dw_setO (M := Sm0 p n F0 H) (xs := [rowD (.tuple [.tuple os, .tuple ps, .tuple [.bool b0, .bool b1]], .tuple [.str "modes"]), rowD (.list [.tuple os, .tuple ps, .tuple [.bool b0, .bool b1, .bool b2]], .tuple []), rowD (.tuple [.tuple os, .none, .tuple [.bool b0, .bool b1, .bool b2]], .tuple [.str "places"])]) 1 hN
    (do_lst (da_cons (dx_tup (da_cons (dx_tup (da_cons (dx_var 2) (da_cons (dx_var 3) (da_one (dx_is (dx_cutT (dx_var 4) pt_no (pt_at dx_int)) rfl)))) (by show 3 ≤ 100000; decide)) (da_one (dx_tup (da_one dx_str) (by show 1 ≤ 100000; decide)))) (by show 2 ≤ 100000; decide))
      (da_cons (dx_tup (da_cons (dx_ofO (do_list m.list (dl_ofT (xs := [.tuple os, .tuple ps, .tuple [.bool b0, .bool b1, .bool b2]]) (dx_var 0)))) (da_one (dx_tup da_nil))) (by show 2 ≤ 100000; decide))
      (da_one (dx_tup (da_cons (dx_tup (da_cons (dx_var 2) (da_cons dx_non (da_one (dx_var 4)))) (by show 3 ≤ 100000; decide)) (da_one (dx_tup (da_one dx_str) (by show 1 ≤ 100000; decide)))) (by show 2 ≤ 100000; decide))))) (by show 3 ≤ 100000; decide)) ?_
  refine dw_append (xs := [_, _, _]) 1 (x := rowD (.tuple [.tuple (os ++ [.str "ab"]), .tuple ps, .tuple [.bool b0, .bool b1, .bool b2]], .tuple [.str "options", .int (os.length : Int)])) (dx_tup (da_cons (dx_tup (da_cons (dx_catT (dx_var 2) (dx_tup (da_one dx_str)) (by show os.length + 1 ≤ 100000; omega)) (da_cons (dx_var 3) (da_one (dx_var 4)))) (by show 3 ≤ 100000; decide)) (da_one (dx_tup (da_cons dx_str (da_one (dx_len m.len (dl_ofT (dx_var 2))))) (by show 2 ≤ 100000; decide)))) (by show 2 ≤ 100000; decide)) ?_ (by show 3 < 100000; decide)
  have mono : ∀ {X : Cx} {O : Own} {ds : List Sl} {e : Expr} {th x : PyData}, KM.fault th ≠ .none → DP X O ds e (fun x => (∃ y, (KM.fault th = .none ∧ y = th) ∧ x = .list [y]) ∨ ∃ y, (KM.fault th ≠ .none ∧ y = KM.fault th) ∧ x = .tuple [.str "grammar", y]) → DX X O ds e (.tuple [.str "grammar", KM.fault th]) := fun hf h => dx_ofP (dp_imp h fun x hx => by
    rw [saidOf_eq hx]
    unfold saidOf
    rw [if_neg (fun z => hf (none_of z))])
  refine dw_for (M := Sm0 p n F0 H) (xs := (rowsR os ps b0 b1 b2).map rowD) (is := [5, 6]) (g := tg2 5 6) PassesOwn.never rfl (di_list (dx_is (y := .list ((rowsR os ps b0 b1 b2).map rowD)) (dx_ofO (do_cat (xs := [_, _, _, _]) (ys := [rowD (.none, .tuple []), rowD (.tuple [.str "ab", .tuple [], .tuple [.bool b0, .bool b1, .bool b2]], .tuple [.str "options"])]) (dlt_var 1) (dlt_ofO (do_lst (da_cons (dx_tup (da_cons dx_non (da_one (dx_tup da_nil))) (by show 2 ≤ 100000; decide)) (da_one (dx_tup (da_cons (dx_tup (da_cons dx_str (da_cons (dx_tup da_nil) (da_one (dx_var 4)))) (by show 3 ≤ 100000; decide)) (da_one (dx_tup (da_one dx_str) (by show 1 ≤ 100000; decide)))) (by show 2 ≤ 100000; decide)))) (by show 2 ≤ 100000; decide))) (by show 4 + 2 ≤ 100000; decide))) rfl)) (fun _ => dtg2 5 6 rfl hN (gn 5 hN) (gn 6 hN)) (fun i ds => ∃ a b c, ds = [.d (grm os ps b0 b1 b2), .l [rowD (.tuple [.tuple os, .tuple ps, .tuple [.bool b0, .bool b1]], .tuple [.str "modes"]), rowD (.list [.tuple os, .tuple ps, .tuple [.bool b0, .bool b1, .bool b2]], .tuple []), rowD (.tuple [.tuple os, .none, .tuple [.bool b0, .bool b1, .bool b2]], .tuple [.str "places"]), rowD (.tuple [.tuple (os ++ [.str "ab"]), .tuple ps, .tuple [.bool b0, .bool b1, .bool b2]], .tuple [.str "options", .int (os.length : Int)])], .d (.tuple os), .d (.tuple ps), .d (.tuple [.bool b0, .bool b1, .bool b2]), a, b, c]) ⟨_, _, _, rfl⟩ (fun i x ds1 hx hI => ?_) (fun ds1 hI => ?_)
  · obtain ⟨a, b, c3, rfl⟩ := hI
    obtain ⟨r, hr1, rfl⟩ := List.mem_map.mp (List.mem_of_getElem? hx)
    obtain ⟨th, du⟩ := r
    have hf : KM.fault th = du := rowsR_fault gO lO gP lP _ hr1
    obtain ⟨k1, k2, k3⟩ := rowsR_ok hok1 lO hok2 lP _ hr1
    have k1 : okN 3 th = true := k1
    have k2 : okN 1 du = true := k2
    have k3 : du ≠ .none := k3
    have hfn : KM.fault th ≠ .none := by rw [hf]; exact k3
    have shw : ∀ d, d = .list [.tuple [.str "grammar", du], .tuple [.str "grammar", du], .tuple [.str "grammar", du]] → Shw d := fun d e => by
      subst e
      have w4 := okN_w1 k2
      have ot : okN 2 (.tuple [.str "grammar", du]) = true := tup_okN (by show 2 ≤ 100; decide) fun x hx => by
        rcases List.mem_cons.mp hx with e | hx
        · subst e; exact str_okN (opt_str_ok _ (by decide +kernel)).1 (opt_str_ok _ (by decide +kernel)).2
        · cases List.mem_singleton.mp hx; exact k2
      refine shw_of (n := 3) (.inl ⟨_, rfl⟩) (lst_okN (by show 3 ≤ 100; decide) fun x hx => ?_) (by decide) ?_
      · simp only [List.mem_cons, List.not_mem_nil, or_false] at hx
        rcases hx with rfl | rfl | rfl <;> exact ot
      · have w5 : (PyData.tuple [.str "grammar", du]).weight = 7 + 1 + (du.weight + 1 + 0) := rfl
        show (PyData.tuple [.str "grammar", du]).weight + 1 + ((PyData.tuple [.str "grammar", du]).weight + 1 + ((PyData.tuple [.str "grammar", du]).weight + 1 + 0)) ≤ 1000000
        omega
    refine ⟨_, rfl, ?_⟩
    refine dw_setO (M := Sm0 p n F0 H) (xs := [.tuple [.str "grammar", KM.fault th], .tuple [.str "grammar", KM.fault th]]) 7 hN (do_lst (da_cons (mono (x := .none) hfn (dp_said (k := 7) (nd := 0) (bs := []) (bdOf := fun _ => []) m SD TB rfl (by rw [hT]; exact hmT) (by rw [hT]; exact hu) hr.r (lamP_by (N := N_law_refused_right) (sc := defScope s_law_refused_right) (by decide +kernel)) (lam_eval0 rfl) (fun _ _ y hy => nomatch hy) (bindL0 (by intros; unfold bindArgs; simp))
      (fun A' outer' s' H' E' f' c'' hr'' => pe_lamE Dt hr'' (takes_of rfl rfl rfl rfl) (da_one (dx_var 5)) ?_))) (da_one (mono (x := .none) hfn (dp_said (k := 7) (nd := 1) (bs := ["at"]) (bdOf := fun us => us.map fun u => (("at" : Str), u)) m SD TB rfl (by rw [hT]; exact hmT) (by rw [hT]; exact hu) hr.r (lamP_by (N := N_law_refused_right) (sc := defScope s_law_refused_right) (by decide +kernel)) (lam_eval1 rfl) ?_ bindAt
      (fun A' outer' s' H' E' f' c'' hr'' => pe_lamE Dn hr'' (takes_of rfl rfl rfl rfl) (da_one (dx_var 5)) ?_))))) (by show 2 ≤ 100000; decide)) ?_
    · exact ⟨th, rfl, okN_mono (by decide) k1, fun os' ps' c0 c1 c2 hf' gv => absurd hf' hfn, fun h => ⟨h, rfl⟩⟩
    · intro us _ y hy
      obtain ⟨u, _, rfl⟩ := List.mem_map.mp hy
      exact List.mem_cons_self
    · exact ⟨th, rfl, okN_mono (by decide) k1, fun os' ps' c0 c1 c2 hf' gv => absurd hf' hfn, fun h => ⟨h, rfl⟩⟩
    refine dw_append (xs := [_, _]) 7 (x := .tuple [.str "grammar", KM.fault th]) (mono (x := .none) hfn (dp_said (k := 7) (nd := 0) (bs := []) (bdOf := fun _ => []) m SD TB rfl (by rw [hT]; exact hmT) (by rw [hT]; exact hu) hr.r (lamP_by (N := N_law_refused_right) (sc := defScope s_law_refused_right) (by decide +kernel)) (lam_eval0 rfl) (fun _ _ y hy => nomatch hy) (bindL0 (by intros; unfold bindArgs; simp))
      (fun A' outer' s' H' E' f' c'' hr'' => pe_lamE Dw hr'' (takes_of rfl rfl rfl rfl) (da_cons (dx_var 5) (da_one (dx_tup da_nil))) ?_))) ?_ (by show 2 < 100000; decide)
    · exact ⟨th, _, rfl, okN_mono (by decide) k1, fun os' ps' c0 c1 c2 hf' gv => absurd hf' hfn, fun h => ⟨h, rfl⟩⟩
    rw [hf]
    refine dw_freeze 7 rfl ?_
    refine dw_ifR (M := Sm0 p n F0 H) (k := false) (dt_is (dt_cmp op_ne (dx_repr m.repr hu1 hr.g (dx_var 7) (shw _ rfl)) (dx_repr m.repr hu1 hr.g (dx_is (dx_ofO (do_rep (k := 3) (dlt_ofO (do_lst (da_one (dx_tup (da_cons dx_str (da_one (dx_var 6))) (by show 2 ≤ 100000; decide))) (by show 1 ≤ 100000; decide))) dx_int (by decide) (by decide) (by show 1 ≤ 1000; decide))) rfl) (shw _ rfl)) op2_neS) (by simp)) (fun z => nomatch z) (fun _ => dw_nil ⟨rfl, _, _, _, rfl⟩)
  · obtain ⟨a, b, c3, rfl⟩ := hI
    exact dw_ret (M := Sm0 p n F0 H) dx_bl ⟨⟨n, Nat.le_refl _, rfl⟩, hz⟩
end
end KS
end
section
set_option Elab.async false
set_option linter.all false
set_option maxRecDepth 100000
set_option maxHeartbeats 8000000
namespace DS
open PySem PySem.Spec PyProof.Rows L2 LamX
open Evl (Ex ex_l ex_t ex_rd)
/-- xs[::-1] -/
theorem do_revL {X : Cx} {O : Own} {ds : List Sl} {e : Expr} {xs : List PyData} {k : Nat} {p1 p2 p3 pos : Pos} (he : DX X O ds e (.list xs)) : DO X O ds (.Subscript e (.Slice none none (some (.UnaryOp .USub (.Constant (.int 1) k p1) p2)) p3) pos) xs.reverse :=
  pe_mono (L2.pe_revL he) fun σ H Q ⟨F, st, q⟩ => ⟨F, st, fun v F1 H1 g1 j1 d1 => by
    obtain ⟨a, vs, rfl, s1, s2⟩ := Dp.lst_eq d1
    refine ⟨a, vs, rfl, ex_l g1.s s1, fun p hp => ?_⟩
    have g2 := Grow.own (O := O) (o := .lst vs.reverse) g1.s hp
    have nF : F1 p = none := by
      cases e : F1 p with
      | none => rfl
      | some u => have := g1.s p u e; rw [hp] at this; cases this
    exact q _ F1 _ (g1.trans g2) (own_new j1 hp) ⟨p, vs.reverse, rfl, g1.free hp, nF, upd_same, DpAll.rev s2⟩⟩
end DS
namespace KM
open PySem DS L2 PyProof.Rows
theorem shw_list {xs : List PyData} {n B : Nat} (h : ∀ x ∈ xs, okN n x = true) (hn : n ≤ 60) (hB : ∀ x ∈ xs, x.weight ≤ B) (hw : xs.length * (B + 1) ≤ 1000000) : Shw (.list xs) := by
  have hs := shAll fun x hx => okN_sh n x (h x hx)
  refine ⟨.inl ⟨_, rfl⟩, ?_, ?_, ?_, hs.2, hs.1⟩
  · simp only [PyData.canLay0]
    exact canLayAll_of fun x hx => okN_lay n x (h x hx)
  · simp only [PyData.depth]
    have := depthAll_le fun x hx => okN_depth n x (h x hx)
    omega
  · have := weightAll_le hB
    show PyData.weightAll xs ≤ _
    exact Nat.le_trans this (Nat.le_trans hw (by decide))
theorem pref_strOk {s : Str} {k : Nat} (h : PyData.strOk s = true) : PyData.strOk (pref s (k : Int)) = true := by
  unfold PyData.strOk at *
  rw [← Array.all_toList, List.all_eq_true] at h ⊢
  intro c hc
  rw [pref_list] at hc
  exact h c (List.mem_of_mem_take hc)
theorem pre0_len {os : List PyData} (h : ∀ o ∈ os, isOption o = true) : (pre0 os).length ≤ 13 * os.length := by
  induction os with
  | nil => exact Nat.le_refl _
  | cons o os ih =>
    have h1 := (KD.opt_len (h o List.mem_cons_self)).2
    have h2 := ih fun x hx => h x (List.mem_cons_of_mem _ hx)
    show ((List.range ((nm o).length + 1)).map (fun (i : Nat) => pref (nm o) (i : Int)) ++ pre0 os).length ≤ _
    rw [List.length_append, List.length_map, List.length_range, List.length_cons]
    omega
theorem ltell_in {os : List PyData} {b : Bool} {p : Str × Str} (h : p ∈ ltellings os b) : (∃ o ∈ os, ∃ i : Nat, p.1 = pref (nm o) (i : Int)) ∧ ∃ o ∈ os, p.2 = nm o := by
  unfold ltellings at h
  obtain ⟨t, ht, rfl⟩ := List.mem_map.mp h
  obtain ⟨h1, h2⟩ := List.mem_filter.mp ht
  obtain ⟨o, ho, i, _, e⟩ := mem_pre0.mp (mem_canon.mp h1)
  refine ⟨⟨o, ho, i, e⟩, ?_⟩
  show ∃ o ∈ os, (ltells os b t).headD "" = nm o
  cases hl : ltells os b t with
  | nil => rw [hl] at h2; simp at h2
  | cons x r =>
    obtain ⟨o2, h3, h4⟩ := List.mem_map.mp (KL.ltells_mem (b := b) (t := t) (x := x) (by rw [hl]; exact List.mem_cons_self))
    exact ⟨o2, h3, h4.symm⟩
theorem ltell_len {os : List PyData} {b : Bool} (h : ∀ o ∈ os, isOption o = true) (hl : os.length ≤ 24) : (ltellings os b).length ≤ 312 := by
  unfold ltellings
  rw [List.length_map]
  have h1 := List.length_filter_le (fun t => !decide (ltells os b t = [])) (canon (pre0 os))
  have h2 := canon_len (pre0 os)
  have h3 := pre0_len h
  omega
theorem ltell_shw {os : List PyData} {b : Bool} (h : ∀ o ∈ os, isOption o = true) (hl : os.length ≤ 24) : Shw (.list (pairD (ltellings os b))) := by
  have hn : ∀ o ∈ os, (nm o).length ≤ 12 ∧ PyData.strOk (nm o) = true := fun o ho => by
    refine ⟨(KD.opt_len (h o ho)).2, ?_⟩
    obtain ⟨a, b, c, e, h1, _⟩ := isOption_tup (h o ho)
    have : nm o = a := by rw [e]; rfl
    rw [this]; exact KL.name_strOk h1
  have hp : ∀ o ∈ os, ∀ i : Nat, (pref (nm o) (i : Int)).length ≤ 12 := fun o ho i => Nat.le_trans (cut_len _ _ _) (hn o ho).1
  refine shw_list (n := 1) (B := 50) (fun x hx => ?_) (by decide) (fun x hx => ?_) ?_
  · obtain ⟨p, hp1, rfl⟩ := List.mem_map.mp hx
    obtain ⟨⟨o, ho, i, e1⟩, o2, ho2, e2⟩ := ltell_in hp1
    refine tup_okN (by show 2 ≤ 100; decide) fun x hx => ?_
    simp only [List.mem_cons, List.not_mem_nil, or_false] at hx
    rcases hx with rfl | rfl
    · rw [e1]; exact str_okN (by have := hp o ho i; omega) (pref_strOk (hn o ho).2)
    · rw [e2]; exact str_okN (by have := (hn o2 ho2).1; omega) (hn o2 ho2).2
  · obtain ⟨p, hp1, rfl⟩ := List.mem_map.mp hx
    obtain ⟨⟨o, ho, i, e1⟩, o2, ho2, e2⟩ := ltell_in hp1
    have a1 : p.1.length ≤ 12 := by rw [e1]; exact hp o ho i
    have a2 : p.2.length ≤ 12 := by rw [e2]; exact (hn o2 ho2).1
    show p.1.length + 1 + (p.2.length + 1 + 0) ≤ 50
    omega
  · unfold DS.pairD
    rw [List.length_map]
    have := Nat.mul_le_mul_right (50 + 1) (ltell_len (b := b) h hl)
    omega
end KM
namespace KS
open PySem PySem.Spec PyProof.Rows L2 DS KT KM KD KL LamX
open Evl (Ex ex_l ex_t ex_rd)
section
variable {P : Program} {w : World} {K : PySem.W.Frag} {mg : Str → Option Value} {base : Heap} {Cb Ck fI : Addr}
theorem grm_gv {os ps : List PyData} {b0 b1 b2 : Bool} (gO : Gd isOption "options" os) (lO : os.length ≤ 24) (gP : Gd isPlace "places" ps) (lP : ps.length ≤ 5) : GV (grm os ps b0 b1 b2) os ps b0 b1 b2 := by
  obtain ⟨os', ps', c0, c1, c2, gv⟩ := gv_of (grm_fault (b0 := b0) (b1 := b1) (b2 := b2) gO lO gP lP)
  obtain ⟨rfl, rfl, rfl, rfl, rfl⟩ := gv_eq gv
  exact gv
/-- tellings(g) -/
theorem dm_tell {X : Cx} {O : Own} {ds : List Sl} {e : Expr} {os ps : List PyData} {b0 b1 b2 : Bool} {p pos : Pos} (Dt : Def X.prog X.w X.K X.mg X.base "tellings" 7 ["grammar"] (spE X.K Cb R_tellings)) (hr : Room 7 X.A) (ha : DX X O ds e (grm os ps b0 b1 b2)) (gO : Gd isOption "options" os) (lO : os.length ≤ 24) (gP : Gd isPlace "places" ps) (lP : ps.length ≤ 5) (hg : Gl X "tellings" := by rfl)
    (he : starEach [e] X.env = (false, eval e X.env) :: starEach [] X.env := by rfl) : DM X O ds (.Call (.Name "tellings" p) [e] [] pos) (kvT (ltellings os b0)) := by
  have h1 := gF_all gO
  have hok : ok (grm os ps b0 b1 b2) := okN_mono (by decide) (grm_okN (fun o ho => opt_ok (h1 o ho)) (by omega) (fun o ho => pla_ok (gF_all gP o ho)) (by omega))
  have heq : KM.tellings os b0 = ltellings os b0 := tellings_eq os b0 (fun o ho => by
    obtain ⟨a, b, c, e, _⟩ := isOption_tup (h1 o ho)
    rw [e]; rfl) (fun o ho z => by
    have := (KD.opt_len (h1 o ho)).1
    rw [z, len_empty] at this
    omega)
  rw [← heq]
  exact dm_ofR (dg_callE (zz := fun r => r = .m (kvT (KM.tellings os b0))) Dt hr (da_one ha he) ⟨_, rfl, hok, fun os' ps' c0 c1 c2 _ gv => by
    obtain ⟨rfl, rfl, rfl, rfl, rfl⟩ := gv_eq gv
    rfl, fun z => z (grm_fault gO lO gP lP)⟩ hg (by decide) he)
def letA : Str := "abcdefghijklmnopqrstuvwxyz"
def f21 (x : PyData) : PyData := match x with
  | .int n => .tuple [.str (("n" : Str) ++ ⟨#[letA.cps.toList.getD n.toNat 0] ++ #[letA.cps.toList.getD n.toNat 0] ++ #[letA.cps.toList.getD n.toNat 0]⟩), .str "", .str "flag"]
  | _ => .none
def O21 : List PyData := (intsD 0 21).map f21
def O24 : List PyData := O21 ++ [.tuple [.str "zab", .str "", .str "last"], .tuple [.str "zacd", .str "z", .str "all"], .tuple [.str "zac", .str "", .str "maybe"]]
def L3 : List (List PyData) := [O24, O24.reverse, DS.cutD O24 (some 12) none ++ DS.cutD O24 none (some 12)]
theorem l3_ok : ∀ l ∈ L3, isNone (gF isOption "options" l 0 []) = true ∧ l.length ≤ 24 := by decide +kernel
theorem let_at : ∀ k : Nat, k < 21 → atI letA.cps.toList (0 + (k : Int)) = some (letA.cps.toList.getD (0 + (k : Int)).toNat 0) := by decide +kernel
def R_full_right : RelS := fun p xs c z => xs = [] ∧ c = 0 ∧ z (.d (.bool true))
theorem b_full_right (m : Free mg) (Dt : Def P w K mg base "tellings" 7 ["grammar"] (spE K Cb R_tellings)) (Dl : Def P w K mg base "_law_tellings" 2 ["grammar"] (spD K R_law_tellings)) :
    BodyOkSG P w K mg base N_law_full_right "_law_full_right" s_law_full_right false 7 R_full_right := by
  intro f cdv A outer s H E F0 p n xs c z hr hR hn
  obtain ⟨rfl, rfl, hz⟩ := hR
  have hN := sc_law_full_right.nd
  have hu1 : (A.deeper (envOfC "_law_full_right" (defScope s_law_full_right) s.heap.objs.size f cdv)).units + 100 < cLine := by have := hr.r.un; omega
  refine dw_setLc (M := Sm0 p n F0 H) (i := 0) (own := [("k", 4)]) (xs := intsD 0 (21 : Int).toNat) (g := tg1 4) (fun _ => true) f21 rfl hN (dig_of (di_rng1 m.range dx_int (by decide) (by decide))) (blkOk_by (N := N_law_full_right) (sc := defScope s_law_full_right) (by decide +kernel)) (by decide) (fun s H C cl fp => dtg1 4 hN) (fun x hx => ⟨_, rfl⟩) (fun s H C cl fp x ds1 hx e => pts_no) (fun s H C cl fp x ds1 hx _ e => ?_) ?_
  · cases e
    obtain ⟨i, hi, ei⟩ := List.mem_iff_getElem.mp hx
    obtain ⟨hi2, e2⟩ := intsD_get (List.getElem?_eq_some_iff.mpr ⟨hi, ei⟩)
    subst e2
    exact dx_tup (da_cons (dx_addS dx_str (dx_rep3 (dx_ixS (s := letA) dx_str (dx_var 4) (let_at i hi2) (by decide +kernel)) (by show 1 ≤ 1; decide) (by show 1 ≤ 1000; decide)) (by show _ + 3 ≤ 100000; decide +kernel)) (da_cons dx_str (da_one dx_str))) (by show 3 ≤ 100000; decide)
  rw [filter_yes]
  refine dw_setO (M := Sm0 p n F0 H) (xs := O24) 0 hN (do_cat (xs := O21) (dlt_var 0) (dlt_ofO (do_lst (da_cons (dx_tup (da_cons dx_str (da_cons dx_str (da_one dx_str))) (by show 3 ≤ 100000; decide)) (da_cons (dx_tup (da_cons dx_str (da_cons dx_str (da_one dx_str))) (by show 3 ≤ 100000; decide)) (da_one (dx_tup (da_cons dx_str (da_cons dx_str (da_one dx_str))) (by show 3 ≤ 100000; decide)))))  (by show 3 ≤ 100000; decide))) (by decide +kernel)) ?_
  refine dw_freeze 0 rfl ?_
  refine dw_for (M := Sm0 p n F0 H) (xs := L3.map PyData.list) (is := [1]) (g := tg1 1) PassesOwn.never rfl (di_tup (dx_tup (xs := [.list O24, .list O24.reverse, .list (DS.cutD O24 (some 12) none ++ DS.cutD O24 none (some 12))]) (da_cons (dx_var 0) (da_cons (dx_ofO (do_revL (dx_var 0))) (da_one (dx_ofO (do_cat (dlt_ofO (do_cutLs (dx_var 0) (pt_at dx_int) pt_no)) (dlt_ofO (do_cutLs (dx_var 0) pt_no (pt_at dx_int))) (by decide +kernel)))))) (by show 3 ≤ 100000; decide))) (fun _ => dtg1 1 hN) (fun i ds => ∃ a b c d, ds = [.d (.list O24), a, b, c, d]) ⟨_, _, _, _, rfl⟩ (fun i x ds1 hx hI => ?_) (fun ds1 hI => ?_)
  · obtain ⟨a, b, c, d, rfl⟩ := hI
    obtain ⟨l, hl, rfl⟩ := List.mem_map.mp (List.mem_of_getElem? hx)
    obtain ⟨q1, q2⟩ := l3_ok l hl
    have gO : Gd isOption "options" l := none_of q1
    refine ⟨_, rfl, ?_⟩
    refine dw_for (M := Sm0 p n F0 H) (xs := [.bool true, .bool false]) (is := [2]) (g := tg1 2) PassesOwn.never rfl (di_tup (dx_tup (da_cons dx_bl (da_one dx_bl)) (by show 2 ≤ 100000; decide))) (fun _ => dtg1 2 hN) (fun i ds => ∃ b c d, ds = [.d (.list O24), .d (.list l), b, c, d]) ⟨_, _, _, rfl⟩ (fun j y ds2 hy hJ => ?_) (fun ds2 hJ => ?_)
    · obtain ⟨b', c', d', rfl⟩ := hJ
      have : ∃ bb : Bool, y = .bool bb := by
        have := List.mem_of_getElem? hy
        simp only [List.mem_cons, List.not_mem_nil, or_false] at this
        rcases this with rfl | rfl <;> exact ⟨_, rfl⟩
      obtain ⟨bb, rfl⟩ := this
      refine ⟨_, rfl, ?_⟩
      refine dw_set (M := Sm0 p n F0 H) (x := grm l [] bb true false) 3 hN (dx_tup (da_cons (dx_tupleL m.tuple (dls_of (dx_var 1))) (da_cons (dx_tup da_nil) (da_one (dx_tup (da_cons (dx_var 2) (da_cons dx_bl (da_one dx_bl))) (by show 3 ≤ 100000; decide))))) (by show 3 ≤ 100000; decide)) ?_
      have hsh : Shw (.list (DS.pairD (ltellings l bb))) := ltell_shw (gF_all gO) q2
      refine dw_ifR (M := Sm0 p n F0 H) (k := false) (dt_is (dt_cmp op_ne (dx_repr m.repr hu1 hr.g (dx_items rfl m.list (dmt_of (dm_tell Dt hr.r (dx_var 3) gO q2 (ps := []) rfl (by decide)))) hsh) (dx_repr m.repr hu1 hr.g (dx_call Dl (hr.r.mono (by decide)) (da_one (dx_var 3)) ⟨_, l, [], bb, true, false, rfl, grm_gv gO q2 rfl (by decide), rfl⟩) hsh) op2_neS) (by simp)) (fun z => nomatch z) (fun _ => dw_nil ⟨rfl, _, _, _, rfl⟩)
    · obtain ⟨b', c', d', rfl⟩ := hJ
      exact dw_nil ⟨rfl, _, _, _, _, rfl⟩
  · obtain ⟨a, b, c, d, rfl⟩ := hI
    exact dw_ret (M := Sm0 p n F0 H) dx_bl ⟨⟨n, Nat.le_refl _, rfl⟩, hz⟩
end
end KS
end
section
set_option Elab.async false
set_option linter.all false
set_option maxRecDepth 100000
set_option maxHeartbeats 4000000
namespace KS
open PySem PySem.Spec PyProof.Rows L2 DS KT KM KD KL LamX
open Evl (Ex ex_l ex_t ex_rd)
section
variable {P : Program} {w : World} {K : PySem.W.Frag} {mg : Str → Option Value} {base : Heap} {Cb Ck fI : Addr}
def iD (ns : List Int) : List PyData := ns.map PyData.int
/-- a new state -/
def NewSt (H : Hp) (st cs ls : Addr) (L : Nat) (H' : Hp) : Prop := ∃ cells lefts : List Int, H st = none ∧ H cs = none ∧ H ls = none ∧ cs ≠ ls ∧ H' st = some (.dK (stK cs ls 0)) ∧ H' cs = some (.lst (cells.map V.int)) ∧ H' ls = some (.lst (lefts.map V.int)) ∧ cells.length = L ∧ lefts.length = L ∧ 0 < L
def spB (K : PySem.W.Frag) : Sp := fun vs H Q _ => ∃ F ns v, vs = [v] ∧ Dp K F v (.list (iD ns)) ∧ ns.length ≤ 63 ∧ Ex F H ∧ ∀ st cs ls L F' H', Grow Own.no F H F' H' → F' st = none → F' cs = none → F' ls = none → NewSt H st cs ls L H' → Q (.ref st) H'
theorem iD_shaped {ns : List Int} : SeqAt.shaped (.list (iD ns)) = true := by
  have h1 : (PyData.list (iD ns)).canLay0 = true := by
    simp only [PyData.canLay0]
    exact canLayAll_of fun x hx => by
      obtain ⟨i, _, rfl⟩ := List.mem_map.mp hx
      simp only [PyData.canLay0]
  have h2 : (PyData.list (iD ns)).depth ≤ 64 := by
    simp only [PyData.depth]
    have := depthAll_le (xs := iD ns) (n := 0) fun x hx => by
      obtain ⟨i, _, rfl⟩ := List.mem_map.mp hx
      simp only [PyData.depth]; exact Nat.le_refl _
    omega
  show (_ && _) = true
  rw [h1, decide_eq_true h2]; rfl
def lf (x : PyData) : PyData := match x with
  | .int i => .int (if (10 ^ 18 : Int) ≤ i then i else 0)
  | _ => .none
theorem dpAll_iD {K : PySem.W.Frag} {F : Hp} {ns : List Int} {vs : List V} (h : DpAll K F vs (iD ns)) : vs = ns.map V.int := dpAll_ints h
theorem lf_iD (ns : List Int) : (iD ns).map lf = iD (ns.map fun i => if (10 ^ 18 : Int) ≤ i then i else 0) := by
  unfold iD
  rw [List.map_map, List.map_map]
  rfl
theorem ok_begin {fd : FuncData} {f : Addr} (m : Free mg) (F : Fun K "_law_begin" "_law_begin" s_law_begin f fd) : FnOk P w K mg base (L2.CX P w) 2 f fd ["script"] (spB K) := by
  refine F.okX sc_law_begin (fun vs H Q E h => ?_) (fun cdv A outer s H vs Q E hr h => ?_)
  · obtain ⟨_, _, _, rfl, _⟩ := h
    rfl
  · obtain ⟨F0, ns, v, rfl, dv, hl, ex, q⟩ := h
    have hN := sc_law_begin.nd
    have hu := hr.units
    have hl0 : (iD ns).length ≤ 63 := by unfold iD; rw [List.length_map]; exact hl
    -- the cells
    obtain ⟨cs, hcs⟩ : ∃ cs : List Int, cs = if ns = [] then [0] else ns := ⟨_, rfl⟩
    have hcl : cs.length ≤ 63 ∧ 0 < cs.length := by
      rw [hcs]
      by_cases c : ns = []
      · rw [if_pos c]; decide
      · rw [if_neg c]
        exact ⟨hl, Nat.pos_of_ne_zero fun z => c (List.length_eq_zero_iff.mp z)⟩
    let X := Bx P w K mg base N_law_begin "_law_begin" (defScope s_law_begin) f cdv A outer s H E
    suffices hs : ∃ t, PSs (Bx P w K mg base N_law_begin "_law_begin" (defScope s_law_begin) f cdv A outer s H E) (defBody s_law_begin) t ∧ t { nx := fun _ H' => Q .non H', rt := Q } (L2.start N_law_begin [v]) H by
      obtain ⟨t, h1, h2⟩ := hs
      exact ⟨t, PSs.nox h1, h2⟩
    refine ⟨_, pss_cons (d1_setO (M := Bm F0 H) (ds := [.d (.list (iD ns)), .u, .u]) (xs := iD cs) (C := { nx := fun O' ds' => O' = Bo H ∧ ds' = [.d (.list (iD ns)), .l (iD cs), .u], rt := fun _ _ => False }) 1 hN (dg_if (k := !PyData.eqv (.list (iD ns)) (.list [])) (dt_cmp (op_neD hu) (dx_var 0) (dx_lst da_nil) (op2_ne iD_shaped (by decide +kernel))) (fun h => ?_) (fun h => ?_) (fun H0 H1 F v F' H' g ⟨p, vs, e, h1, h2⟩ => ⟨p, vs, e, g.free h1, h2⟩)) ⟨rfl, rfl⟩)
      (pss_one (ps_ret (pe_disp (pps_cons pe_str (pe_var (i := 1) rfl (.inl rfl)) (pps_cons pe_str (do_lc (O := Bo H) (ds := [.d (.list (iD ns)), .l (iD cs), .u]) (own := [("cell", 2)]) (xs := iD cs) (g := tg1 2) (fun _ => true) lf rfl hN (dig_own (dlt_var 1)) (blkOk_by (N := N_law_begin) (sc := defScope s_law_begin) (by decide +kernel)) ?_ (fun s H C cl fp => dtg1 2 hN) (fun x hx => ⟨_, rfl⟩) (fun s H C cl fp x ds1 hx e => pts_no) (fun s H C cl fp x ds1 hx _ e => ?_)) (pps_cons pe_str pe_int (pps_cons pe_str pe_int pps_nil)))) rfl rfl (fun z => nomatch z) (by decide)))), ?_⟩
    · rw [eqv_nil] at h
      have hne : ns ≠ [] := fun z => by subst z; simp [iD] at h
      rw [hcs, if_neg hne]
      exact do_list m.list (dl_of (dx_var 0))
    · rw [eqv_nil] at h
      have hne : ns = [] := by
        cases ns with
        | nil => rfl
        | cons a r => simp [iD] at h
      rw [hcs, if_pos hne]
      exact do_lst (da_one dx_int)
    · unfold iD; rw [List.length_map]; omega
    · cases e
      obtain ⟨i, _, rfl⟩ := List.mem_map.mp hx
      refine dx_if (k := decide ((10 : Int) ^ (18 : Int).toNat ≤ i)) (dt_cmp op_ge (dx_var 2) (dx_pow (i := 10) (j := 18) dx_int dx_int (by unfold CPow; decide)) (op2_II (h := fun i j => .bool (decide (j ≤ i))) fun _ => .bl _)) (fun h => dx_is (dx_var 2) ?_) (fun h => dx_is dx_int ?_)
      · show PyData.int i = .int (if (10 ^ 18 : Int) ≤ i then i else 0)
        rw [if_pos (show (10 ^ 18 : Int) ≤ i from of_decide_eq_true h)]
      · show PyData.int 0 = .int (if (10 ^ 18 : Int) ≤ i then i else 0)
        rw [if_neg (show ¬ (10 ^ 18 : Int) ≤ i from of_decide_eq_false h)]
    · have st0 : StOk K (Bo H) F0 (L2.start N_law_begin [v]) H [.d (.list (iD ns)), .u, .u] := start_ok (N := N_law_begin) (xs := [.list (iD ns)]) ex (fun a z => z.elim) trivial (.cons dv .nil)
      refine ⟨F0, ⟨st0, Grow.refl ex⟩, fun σ1 H1 F1 ds1 O1 sm1 e1 a1 ⟨eO, eds⟩ => ?_, fun _ _ _ _ _ _ _ _ _ z => z.elim, fun _ _ _ _ _ _ _ _ z => z.elim, fun _ _ _ _ _ _ _ _ z => z.elim⟩
      subst eO eds
      have a1 : At K (Bm F0 H) F1 σ1 H1 [.d (.list (iD ns)), .l (iD cs), .u] := a1
      have g1 : Grow Own.no F0 H F1 H1 := bo_no a1.g
      obtain ⟨c, vs, s1, fc, nsc, hc, dc, wc⟩ := a1.st.lst (i := 1) rfl
      have ec := dpAll_iD dc
      subst ec
      intro p hp
      have g2 : Grow (Bo H) F1 H1 F1 (upd H1 p (.dK [])) := Grow.own a1.st.ex hp
      have st2 : StOk K (Bo H) F1 σ1 (upd H1 p (.dK [])) [.d (.list (iD ns)), .l (iD cs), .u] := a1.st.grow g2 trivial
      refine ⟨.ref c, s1, F1, st2, fun u F3 H3 g3 j3 ⟨l, ws, eu, h1, h2, h3, h4⟩ => ?_⟩
      subst eu
      rw [filter_yes, lf_iD] at h4
      have ew := dpAll_iD h4
      subst ew
      have hpF : F1 p = none := by
        cases e : F1 p with
        | none => rfl
        | some u => have := a1.st.ex p u e; rw [hp] at this; cases this
      have hp3 : H3 p = some (.dK []) := g3.h p _ (fun z => z) upd_same
      have hpF3 : F3 p = none := by
        cases e : F3 p with
        | none => rfl
        | some u => have := g3.s p u e; have h5 := g3.n p hpF (by rw [e]; exact fun z => nomatch z); rw [upd_same] at h5; cases h5
      refine ⟨hp3, [(Sum.inr "cells", .ref c), (Sum.inr "lefts", .ref l), (Sum.inr "at", .int 0), (Sum.inr "room", .int 0)], rfl, by show 4 ≤ 15; decide, ?_⟩
      have hcp : c ≠ p := fun z => by rw [z, hp] at hc; cases hc
      have hlp : l ≠ p := fun z => by rw [z, upd_same] at h1; cases h1
      have hlc : l ≠ c := fun z => by rw [z, upd_ne hcp, hc] at h1; cases h1
      have hc3 : H3 c = some (.lst (cs.map V.int)) := g3.h c _ (fun z => z) (by rw [upd_ne hcp]; exact hc)
      have hH : H p = none := g1.free hp
      have hg : Grow Own.no F0 H F3 (upd H3 p (.dK (mergeK [] [(Sum.inr "cells", .ref c), (Sum.inr "lefts", .ref l), (Sum.inr "at", .int 0), (Sum.inr "room", .int 0)]))) := by
        refine ⟨g1.f.trans g3.f, fun b o _ hb => ?_, fun b o hb => ?_, fun b e1 e2 => ?_, fun b hb => ?_⟩
        · have nb : b ≠ p := fun z => by rw [z, hH] at hb; cases hb
          rw [upd_ne nb]
          exact g3.h b o (fun z => z) (by rw [upd_ne nb]; exact g1.h b o (fun z => z) hb)
        · have nb : b ≠ p := fun z => by rw [z, hpF3] at hb; cases hb
          rw [upd_ne nb]; exact g3.s b o hb
        · cases e : F1 b with
          | some u => exact g1.n b e1 (by rw [e]; exact fun z => nomatch z)
          | none =>
            have h5 := g3.n b e e2
            have nb : b ≠ p := fun z => by rw [z, hpF3] at e2; exact e2 rfl
            rw [upd_ne nb] at h5
            exact g1.free h5
        · by_cases nb : b = p
          · rw [nb, upd_same]; exact fun z => nomatch z
          · rw [upd_ne nb]
            exact g3.t b (by rw [upd_ne nb]; exact g1.t b hb)
      have k1 : ¬ (Sum.inr ("cells" : Str) : Key) = Sum.inr ("lefts" : Str) := fun z => absurd (Sum.inr.inj z) (show ¬ ("cells" : Str) = "lefts" by decide +kernel)
      have k2 : ¬ (Sum.inr ("cells" : Str) : Key) = Sum.inr ("at" : Str) := fun z => absurd (Sum.inr.inj z) (show ¬ ("cells" : Str) = "at" by decide +kernel)
      have k3 : ¬ (Sum.inr ("cells" : Str) : Key) = Sum.inr ("room" : Str) := fun z => absurd (Sum.inr.inj z) (show ¬ ("cells" : Str) = "room" by decide +kernel)
      have k4 : ¬ (Sum.inr ("lefts" : Str) : Key) = Sum.inr ("at" : Str) := fun z => absurd (Sum.inr.inj z) (show ¬ ("lefts" : Str) = "at" by decide +kernel)
      have k5 : ¬ (Sum.inr ("lefts" : Str) : Key) = Sum.inr ("room" : Str) := fun z => absurd (Sum.inr.inj z) (show ¬ ("lefts" : Str) = "room" by decide +kernel)
      have k6 : ¬ (Sum.inr ("at" : Str) : Key) = Sum.inr ("room" : Str) := fun z => absurd (Sum.inr.inj z) (show ¬ ("at" : Str) = "room" by decide +kernel)
      refine q p c l cs.length F3 _ hg hpF3 ?_ h2 ⟨cs, _, hH, wc, g1.free (by rw [upd_ne hlp] at h1; exact h1), Ne.symm hlc, ?_, by rw [upd_ne hcp]; exact hc3, by rw [upd_ne hlp]; exact h3, rfl, by rw [List.length_map], hcl.2⟩
      · cases e : F3 c with
        | none => rfl
        | some u => have h5 := g3.n c fc (by rw [e]; exact fun z => nomatch z); rw [upd_ne hcp, hc] at h5; cases h5
      · rw [upd_same]
        unfold mergeK DS.stK
        simp [putK, k1, k2, k3, k4, k5, k6]
end
end KS
end
section
set_option Elab.async false
set_option linter.all false
set_option maxRecDepth 100000
set_option maxHeartbeats 4000000
namespace DS
open PySem PySem.Spec PyProof.Rows L2 LamX
open Evl (Ex ex_l ex_t ex_rd)
def rPopK : V → List V → Hp → VK → Prop := fun x xs H Q => ∃ (a : Addr) (kvs : List (Key × V)) (k : Key) (y : V), x = .ref a ∧ xs = [kV k] ∧ H a = some (.dK kvs) ∧ valV kvs k = some y ∧ Q y (upd H a (.dK (dropK kvs k)))
theorem mt_popK {X : Cx} : MtR X "dict.pop" rPopK := by
  intro pins s σ H x vs v us Q I rx rv h
  obtain ⟨a, kvs, k, y, rfl, rfl, hH, hk, q⟩ := h
  cases rx
  match us, rv with
  | [u], .cons r1 .nil =>
    exact d_pop I hH r1 hk (.inl rfl) fun w' s' I' rw' => ⟨y, _, I', rw', q⟩
section
variable {X : Cx} {M : Frm} {ds : List Sl} {e : Expr} {pos p apos : Pos} {C : Cn} {rest : List Stmt} {kvs : List (Key × V)}
theorem dw_popK (i : Nat) {nm : Str} {pc : Pos} {k : Str} {y : V} (ha : DX X M.O ds e (.str k)) (hk : valV kvs (Sum.inr k) = some y) (h : DW X M (ds.set i (.m (dropK kvs (Sum.inr k)))) rest C) (hd : ds[i]? = some (.m kvs) := by rfl) (hN : X.N[i]? = some nm := by rfl) (hv : Vis X.env.scope nm := by first | exact Or.inl rfl | exact Or.inr (Or.inl rfl) | exact Or.inr (Or.inr rfl))
    (h1 : (nm == ("__debug__" : Str)) = false := by decide) (h2 : (nm == ("__classdict__" : Str)) = false := by decide)
    (hbase : attributeBase (.Name nm p) "pop" X.env (eval (.Name nm p) X.env) = eval (.Name nm p) X.env := by rfl)
    (hfew : ((backTo pc (starEach [e] X.env)).all (fun x => !x.1) && (backToKw pc (keywordEach [] X.env)).all (fun x => x.1.isSome)
      && decide (([e] : List Expr).length + ([] : List Keyword).length + (if ([] : List Keyword).isEmpty then 0 else 1) < 30)) = true := by rfl)
    (hline : (apos.endLine == pc.line) = true := by rfl) (hs : starEach [e] X.env = (false, eval e X.env) :: starEach [] X.env := by rfl) (hsw : swapsWith (.Call (.Attribute (.Name nm p) "pop" apos) [e] [] pc) none pos.line X.env = pure false := by rfl) :
    DW X M ds (.Expr (.Call (.Attribute (.Name nm p) "pop" apos) [e] [] pc) pos :: rest) C :=
  dw_seq (N := fun ds' => ds' = ds.set i (.m (dropK kvs (Sum.inr k))))
    (ps_mono (ps_expr (pe_bm PySem.F.plainAttrs_dict PySem.F.slot_dict_pop PySem.F.type_dict_pop mt_popK (pe_var hN hv h1 h2) (pa_cons ha pa_nil hs) hbase hfew hline hs rfl) hsw) fun D σ H ⟨F, a, q, _⟩ => by
      obtain ⟨o, e1, f, ns, hp, w⟩ := a.st.dic hd
      refine ⟨.ref o, e1, .inr (.inr (.inl ⟨rfl, .inl ⟨kvs, hp⟩⟩)), F, a.st, fun v F' H' g j dv => ?_⟩
      have a' := a.grow g j
      have hp' := g.h _ _ ns hp
      have ev := Dp.str_eq dv
      subst ev
      refine ⟨o, kvs, Sum.inr k, y, rfl, rfl, hp', hk, ?_⟩
      refine q.here g.f (a'.write (s := .m kvs) (t := .m (dropK kvs (Sum.inr k))) hd rfl e1 ⟨o, rfl, ?_, ns, upd_same, w⟩ rfl) ⟨rfl, rfl⟩
      cases y : F' o with
      | none => rfl
      | some u => have := g.n o f (by rw [y]; exact fun z => nomatch z); rw [hp] at this; cases this) fun _ e => e ▸ h
end
end DS
end
section
set_option Elab.async false
set_option linter.all false
set_option maxRecDepth 100000
set_option maxHeartbeats 8000000
namespace DS
open PySem PySem.Spec PyProof.Rows L2 LamX
open Evl (Ex ex_l ex_t ex_rd)
/-! tests that change the promise -/
def tK (K : PySem.W.Frag) (O O' : Own) (ds : List Sl) (b : Bool) : TT := fun σ H Q => ∃ F, StOk K O F σ H ds ∧ ∀ F' H', Grow O F H F' H' → O'.J H' → Q b H'
abbrev DTK (X : Cx) (O O' : Own) (ds : List Sl) (e : Expr) (b : Bool) : Prop := PT X e (tK X.K O O' ds b)
abbrev DTKw (X : Cx) (O O' : Own) (ds : List Sl) (e : Expr) (b : Bool) : Prop := PW X e (tK X.K O O' ds b)
section
variable {X : Cx} {M : Frm} {O O1 O2 : Own} {ds : List Sl} {e a b c : Expr} {es : List Expr} {pos : Pos} {C : Cn} {rest body : List Stmt} {k : Bool}
theorem dtk_val (h : DHP X O O1 ds e (fun x => x = .bool k)) (he : ∀ whole, isTrue e X.env whole = (do let v ← whole; standAt e.pos; holding [v] (truthy v)) := by intro _; rfl) : DTK X O O1 ds e k :=
  pt_mono (pt_val h he) fun σ H Q ⟨F, st, q⟩ => ⟨F, st, fun v F1 H1 g1 j1 ⟨x, d, ex⟩ => ⟨k, by subst ex; exact Dp.bool_eq d, q F1 H1 g1 j1⟩⟩
theorem dtk_not (h : DTK X O O1 ds e true) : DTK X O O1 ds (.UnaryOp .Not e pos) false := pt_mono (pt_not h) fun σ H Q ⟨F, st, q⟩ => ⟨F, st, fun F1 H1 g1 j1 => q F1 H1 g1 j1⟩
theorem dwk_or1 (h : DTK X O O1 ds a k) : DTKw X O O1 ds (.BoolOp .Or [a] pos) k := pw_or1 h
theorem dwk_or (sm : Sm O O1) (ha : DTK X O O1 ds a false) (hb : DTKw X O1 O2 ds (.BoolOp .Or (b :: es) pos) k) : DTKw X O O2 ds (.BoolOp .Or (a :: b :: es) pos) k :=
  pw_mono (pw_or ha hb) fun σ H Q ⟨F, st, q⟩ => ⟨F, st, fun F1 H1 g1 j1 => iteF ⟨F1, st.growH sm g1 j1, fun F2 H2 g2 j2 => q F2 H2 (g1.trans (Grow.sm sm g2)) j2⟩⟩
theorem dw_ifK {O' : Own} (sm : Sm M.O O') (hc : DTK X M.O O' ds c false) (h : DW X (M.wi O' sm) ds rest C) : DW X M ds (.If c body [] pos :: rest) C := by
  refine dw_seqH (N := fun O2 ds2 => O2 = O' ∧ ds2 = ds) ?_ fun O2 ds2 m ⟨e1, e2⟩ => by subst e1 e2; exact h
  exact ps_mono (ps_if hc (show PSs X body (fun _ _ _ => False) from ⟨fun _ _ _ _ _ _ z => z.elim⟩) pss_nil) fun D σ H ⟨F, a, q, _⟩ => ⟨F, a.st, fun F' H' g j => iteF (q σ H' F' ds O' sm g.f (a.growH sm g j) ⟨rfl, rfl⟩)⟩
end
end DS
namespace KS
open PySem PySem.Spec PyProof.Rows L2 DS KT KM KD KL LamX
open Evl (Ex ex_l ex_t ex_rd)
section
variable {P : Program} {w : World} {K : PySem.W.Frag} {mg : Str → Option Value} {base : Heap} {Cb Ck fI : Addr}
/-- one turn of the law, and the turns -/
def lawOwn : List PyData := [.tuple [.str "color", .str "c", .str "last"], .tuple [.str "count", .str "", .str "flag"], .tuple [.str "co", .str "", .str "all"]]
theorem own_ok : isNone (gF isOption "options" lawOwn 0 []) = true := by decide +kernel
theorem canon_eq {xs zs : List Str} (nd : zs.Nodup) (h : (zs.all (fun y => decide (y ∈ xs)) && xs.all (fun y => decide (y ∈ zs))) = true) (hs : zs.Pairwise (fun a b => leT a b = true)) : canon xs = zs := by
  rw [Bool.and_eq_true, List.all_eq_true, List.all_eq_true] at h
  rw [← canon_of nd fun y => ⟨fun hy => of_decide_eq_true (h.1 y hy), fun hy => of_decide_eq_true (h.2 y hy)⟩]
  exact sorted_unique (sortT_perm _) (sortT_sorted _) hs
def lawZ : List Str := [("" : Str), ("c" : Str), ("co" : Str), ("col" : Str), ("colo" : Str), ("color" : Str), ("cou" : Str), ("coun" : Str), ("count" : Str)]
theorem own_c : canon (pre0 lawOwn) = lawZ := canon_eq (by decide +kernel) (by decide +kernel) (by decide +kernel)
theorem own_t : ltellings lawOwn true = [(("co" : Str), ("co" : Str)), (("col" : Str), ("color" : Str)), (("colo" : Str), ("color" : Str)), (("color" : Str), ("color" : Str)), (("cou" : Str), ("count" : Str)), (("coun" : Str), ("count" : Str)), (("count" : Str), ("count" : Str))] := by
  unfold ltellings
  rw [own_c]
  decide +kernel
theorem own_f : ltellings lawOwn false = [(("co" : Str), ("co" : Str)), (("color" : Str), ("color" : Str)), (("count" : Str), ("count" : Str))] := by
  unfold ltellings
  rw [own_c]
  decide +kernel
def cnLaw : Cn := { nx := fun _ _ => False, rt := fun _ r => r = .d (.bool true) }
structure LawDs (P : Program) (w : World) (K : PySem.W.Frag) (mg : Str → Option Value) (base : Heap) (Cb : Addr) (T0 : List (Addr × Str)) : Prop where
  gr : Def P w K mg base "_law_grammar" 5 ["state", "most"] (spS K true R_grammar)
  lt : Def P w K mg base "_law_tellings" 2 ["grammar"] (spD K R_law_tellings)
  te : Def P w K mg base "tellings" 7 ["grammar"] (spE K Cb R_tellings)
  nr : Def P w K mg base "_law_numbers_right" 8 ["grammar"] (spD K (R_numbers_right))
  nu : Def P w K mg base "numbers" 7 ["grammar"] (spE K Cb R_numbers)
  mr : DefG P w K mg base "_law_more_right" 10 ["state", "grammar"] (spS K true (R_more_right T0))
  rr : DefG P w K mg base "_law_refused_right" 10 ["grammar"] (spS K false (R_refused_right T0))
  fr : DefG P w K mg base "_law_full_right" 8 [] (spS K false R_full_right)
theorem law_rest {T0 : List (Addr × Str)} (m : Free mg) (D : LawDs P w K mg base Cb T0) {f : Addr} {cdv : Value} {A : Around} {outer : List Env} {s : Shared} {H : Hp} {E : XK} (hr : RoomG 10 (A.deeper (envOfC "law" (defScope s_law) s.heap.objs.size f cdv))) (p : Pl) (hT : p.T = T0) (ns : List Int) (hl : ns.length ≤ 63) (F0 H0 : Hp) :
    DW (Bx P w K mg base N_law "law" (defScope s_law) f cdv A outer s H E) (Sm0 p 0 F0 H0) [.d (.list (iD ns)), .v (.ref p.st), .u, .u, .u, .u, .u] ((defBody s_law).drop 1) cnLaw := by
  have hN := sc_law.nd
  have hu := hr.r.units
  have hu1 : (A.deeper (envOfC "law" (defScope s_law) s.heap.objs.size f cdv)).units + 100 < cLine := by have := hr.r.un; omega
  have hlen : (iD ns).length = ns.length := by unfold iD; rw [List.length_map]
  refine dw_forH (M := Sm0 p 0 F0 H0) (O1 := OS p (fun q => H0 q = none) 0) (Pz := fun ys => ys = intsD 0 ((3 : Int) + (if ((iD ns).length : Int) < 3 then ((iD ns).length : Int) else 3)).toNat) (is := [2]) (g := tg1 2) (Sm.refl _) PassesOwn.never rfl (dip_of (di_rng1 m.range (dx_add dx_int (dx_min2 rfl m.min dx_int (dx_len m.len (dl_of (dx_var 0))))) (by split <;> omega) (by split <;> omega))) (fun O' _ => dtg1 2 hN)
    (fun xs i O' ds => O' = OS p (fun q => H0 q = none) (455 * i) ∧ i ≤ 6 ∧ ∃ a b c d e, ds = [.d (.list (iD ns)), .v (.ref p.st), a, b, c, d, e]) ?_ ?_ ?_
  · rintro xs rfl
    exact ⟨rfl, by decide, _, _, _, _, _, rfl⟩
  · rintro xs rfl i x O' ds1 sm hx ⟨rfl, hi6, a, b, c, d, e, rfl⟩
    have hi : i < 6 := by
      have := (intsD_get hx).1
      split at this <;> omega
    refine ⟨_, rfl, ?_⟩
    show DW _ (Sm0 p (455 * i) F0 H0) _ _ _
    have hNM : NMX = 1000000 := rfl
    refine dw_setHP (M := Sm0 p (455 * i) F0 H0) (O' := OS p (fun q => H0 q = none) (455 * i + 287)) (P := fun x => ∃ os ps b0 b1 b2, x = grm os ps b0 b1 b2 ∧ Gd isOption "options" os ∧ os.length ≤ 12 ∧ Gd isPlace "places" ps ∧ ps.length ≤ 5) 4 (os_sm _ _ _ _) hN (dhp_ofR (dh_callS (n1 := 455 * i) (c := 287) 1 D.gr (hr.r.mono (by decide)) (dah_of (da_one dx_int)) (fun xs e => ⟨e, rfl, fun os ps b0 b1 b2 h1 h2 h3 h4 => ⟨_, rfl, os, ps, b0, b1, b2, rfl, h1, h2, h3, h4⟩⟩) (by omega))) ?_
    rintro x ⟨os, ps, b0, b1, b2, rfl, gO, lO, gP, lP⟩
    show DW _ (Sm0 p (455 * i + 287) F0 H0) _ _ _
    have gv := grm_gv (b0 := b0) (b1 := b1) (b2 := b2) gO (by omega : os.length ≤ 24) gP lP
    have hok1 : ∀ o ∈ os, okN 1 o = true := fun o ho => opt_ok (gF_all gO o ho)
    have hok2 : ∀ o ∈ ps, okN 1 o = true := fun o ho => pla_ok (gF_all gP o ho)
    have hok : ok (grm os ps b0 b1 b2) := okN_mono (by decide) (grm_okN hok1 (by omega) hok2 (by omega))
    have hsh : Shw (.list (DS.pairD (ltellings os b0))) := ltell_shw (gF_all gO) (by omega)
    have hlen2 : (kvT (ltellings os b0)).length < 99999 := by
      unfold kvT
      rw [List.length_map]
      have := ltell_len (b := b0) (gF_all gO) (by omega : os.length ≤ 24)
      omega
    refine dw_par (M := Sm0 p (455 * i + 287) F0 H0) (s1 := .d (.list (DS.pairD (ltellings os b0)))) (s2 := .m (kvT (ltellings os b0))) 5 6 rfl hN (rn_d (dx_call D.lt (hr.r.mono (by decide)) (da_one (dx_var 4)) ⟨_, os, ps, b0, b1, b2, rfl, gv, rfl⟩)) (dm_tell D.te (hr.r.mono (by decide)) (dx_var 4) gO (by omega) gP lP) ?_ (by with_unfolding_all rfl)
    refine dw_ifR (M := Sm0 p (455 * i + 287) F0 H0) (k := false) (dt_is (dt_cmp op_ne (dx_repr m.repr hu1 hr.g (dx_items rfl m.list (dmt_var 6)) hsh) (dx_repr m.repr hu1 hr.g (dx_var 5) hsh) op2_neS) (by simp)) (fun z => nomatch z) (fun _ => ?_)
    refine dw_dput (M := Sm0 p (455 * i + 287) F0 H0) (kvs := kvT (ltellings os b0)) 6 hu dx_str (dv_ofS dx_str) ?_ (by omega)
    refine dw_popK (M := Sm0 p (455 * i + 287) F0 H0) (kvs := putK (kvT (ltellings os b0)) (Sum.inr "ab") (V.str "xy")) 6 dx_str (y := .str "xy") (by rw [valV_put, if_pos rfl]) ?_
    refine dw_ifR (M := Sm0 p (455 * i + 287) F0 H0) (k := false) (dw_pt (dw_or (k := false) (k' := false) (dt_is (dt_cmp op_ne (dx_repr m.repr hu1 hr.g (dx_items rfl m.list (dmt_of (dm_tell D.te (hr.r.mono (by decide)) (dx_var 4) gO (by omega) gP lP))) hsh) (dx_repr m.repr hu1 hr.g (dx_var 5) hsh) op2_neS) (by simp)) fun _ => dw_or1 (dt_is (dt_not (dt_val (dx_call (z := .bool true) D.nr (hr.r.mono (by decide)) (da_one (dx_var 4)) ⟨_, os, ps, b0, b1, b2, rfl, hok, grm_fault gO (by omega) gP lP, gv, rfl⟩))) rfl))) (fun z => nomatch z) (fun _ => ?_)
    refine dw_ifK (M := Sm0 p (455 * i + 287) F0 H0) (O' := OS p (fun q => H0 q = none) (455 * i + 287 + 168)) (os_sm _ _ _ _) (PW.pt (dwk_or (os_sm _ _ _ _) (dtk_not (dtk_val (dhp_ofR (dh_callSG (n1 := 455 * i + 287) (c := 168) 1 D.mr hr (dah_of (da_one (dx_var 4))) (fun xs e => ⟨hT, os, ps, b0, b1, b2, e, gO, lO, gP, lP, rfl, _, rfl, rfl⟩) (by omega))))) (dwk_or1 (dtk_not (dtk_val (dhp_ofR (dh_callS0G (n1 := 455 * i + 287 + 168) (c := 0) D.rr hr (dah_of (da_one (dx_var 4))) (fun xs e => ⟨hT, os, ps, b0, b1, b2, e, gO, lO, gP, lP, rfl, _, rfl, rfl⟩) (by omega)))))))) ?_
    exact dw_nil ⟨by show OS p _ (455 * i + 287 + 168) = _; rw [show 455 * i + 287 + 168 = 455 * (i + 1) by omega], by omega, _, _, _, _, _, rfl⟩
  · rintro xs rfl O' ds1 sm ⟨rfl, hi6, a, b, c, d, e, rfl⟩
    have hle : 455 * (intsD 0 ((3 : Int) + (if ((iD ns).length : Int) < 3 then ((iD ns).length : Int) else 3)).toNat).length ≤ 2730 := by omega
    show DW _ (Sm0 p (455 * (intsD 0 ((3 : Int) + (if ((iD ns).length : Int) < 3 then ((iD ns).length : Int) else 3)).toNat).length) F0 H0) _ _ _
    generalize 455 * (intsD 0 ((3 : Int) + (if ((iD ns).length : Int) < 3 then ((iD ns).length : Int) else 3)).toNat).length = n6 at hle
    clear sm
    have gO : Gd isOption "options" lawOwn := none_of own_ok
    have lO : lawOwn.length ≤ 24 := by decide
    refine dw_set (M := Sm0 p n6 F0 H0) (x := grm lawOwn [] true true true) 3 hN (dx_tup (da_cons (dx_tup (da_cons (dx_tup (da_cons dx_str (da_cons dx_str (da_one dx_str))) (by show 3 ≤ 100000; decide)) (da_cons (dx_tup (da_cons dx_str (da_cons dx_str (da_one dx_str))) (by show 3 ≤ 100000; decide)) (da_one (dx_tup (da_cons dx_str (da_cons dx_str (da_one dx_str))) (by show 3 ≤ 100000; decide))))) (by show 3 ≤ 100000; decide)) (da_cons (dx_tup da_nil) (da_one (dx_tup (da_cons dx_bl (da_cons dx_bl (da_one dx_bl))) (by show 3 ≤ 100000; decide))))) (by show 3 ≤ 100000; decide)) ?_
    have s8 : ∀ {xs : List Str}, (∀ x ∈ xs, x.length ≤ 100 ∧ PyData.strOk x = true) → xs.length ≤ 100 → SeqAt.shaped (.list (tX xs)) = true := fun h hl => tx_shaped hl h
    have gP : Gd isPlace "places" [] := rfl
    refine dw_ifR (M := Sm0 p n6 F0 H0) (k := false) (dw_pt (dw_or (k := false) (k' := false) (dt_is (dt_cmp (op_neD hu) (dx_ofO (do_listD (ks := ["co", "col", "colo", "color", "cou", "coun", "count"]) rfl m.list (dmt_of (dm_tell D.te (hr.r.mono (by decide)) (dx_var 3) gO lO gP (by decide))) (by rw [own_t]; rfl))) (dx_lst (xs := tX ["co", "col", "colo", "color", "cou", "coun", "count"]) (da_cons dx_str (da_cons dx_str (da_cons dx_str (da_cons dx_str (da_cons dx_str (da_cons dx_str (da_one dx_str))))))) (by show 7 ≤ 100000; decide)) (op2_ne (s8 (by decide +kernel) (by decide)) (s8 (by decide +kernel) (by decide)))) (by decide +kernel)) fun _ => dw_or1 (dt_is (dt_cmp op_ne (dx_dget (x := .str "co") (z := .str "co") hu (dmt_of (dm_tell D.te (hr.r.mono (by decide)) (dx_var 3) gO lO gP (by decide))) dx_str (by rw [own_t]; rfl) (fun F => .str _)) dx_str op2_neS) (by decide +kernel)))) (fun z => nomatch z) (fun _ => ?_)
    refine dw_ifR (M := Sm0 p n6 F0 H0) (k := false) (dw_pt (dw_or (k := false) (k' := false) (dt_is (dt_cmp (op_neD hu) (dx_ofO (do_listD (ks := ["co", "color", "count"]) rfl m.list (dmt_of (dm_tell (os := lawOwn) (ps := []) (b0 := false) (b1 := true) (b2 := true) D.te (hr.r.mono (by decide)) (dx_tup (da_cons (dx_ixT (z := .tuple lawOwn) (dx_var 3) dx_int rfl) (da_cons (dx_tup da_nil) (da_one (dx_tup (da_cons dx_bl (da_cons dx_bl (da_one dx_bl))) (by show 3 ≤ 100000; decide))))) (by show 3 ≤ 100000; decide)) gO lO gP (by decide))) (by rw [own_f]; rfl))) (dx_lst (xs := tX ["co", "color", "count"]) (da_cons dx_str (da_cons dx_str (da_one dx_str))) (by show 3 ≤ 100000; decide)) (op2_ne (s8 (by decide +kernel) (by decide)) (s8 (by decide +kernel) (by decide)))) (by decide +kernel)) fun _ => dw_or1 (dt_is (dt_cmp (op_neD hu) (dx_ofR (dg_callE (zz := fun r => r = .d (numOf [])) D.nu (hr.r.mono (by decide)) (da_one (dx_var 3)) ⟨_, rfl, okN_mono (by decide) (grm_okN (fun o ho => opt_ok (gF_all gO o ho)) (by decide) (fun o ho => absurd ho List.not_mem_nil) (by decide)), fun os' ps' c0 c1 c2 _ gv => by
      obtain ⟨rfl, rfl, rfl, rfl, rfl⟩ := gv_eq gv
      rfl, fun z => z (grm_fault gO lO gP (by decide))⟩)) (dx_tup (da_cons dx_int (da_one dx_int)) (by show 2 ≤ 100000; decide)) (op2_ne (by decide +kernel) (by decide +kernel))) (by decide +kernel)))) (fun z => nomatch z) (fun _ => ?_)
    exact dw_retH (M := Sm0 p n6 F0 H0) (O' := OS p (fun q => H0 q = none) (n6 + 0)) (zz := fun r => r = .d (.bool true)) (os_sm _ _ _ _) (dh_callS00G (c := 0) D.fr (hr.mono (by decide)) ⟨rfl, rfl, rfl⟩ (by show n6 + 0 ≤ 1000000; omega)) fun r h => h
end
end KS
end
section
set_option Elab.async false
set_option linter.all false
set_option maxRecDepth 100000
set_option maxHeartbeats 4000000
namespace KS
open PySem PySem.Spec PyProof.Rows L2 DS KT KM KD KL LamX
open Evl (Ex ex_l ex_t ex_rd)
section
variable {P : Program} {w : World} {K : PySem.W.Frag} {mg : Str → Option Value} {base : Heap} {Cb Ck fI : Addr}
def spL (K : PySem.W.Frag) (T0 : List (Addr × Str)) : Sp := fun vs H Q _ => ∃ F ns v, vs = [v] ∧ Dp K F v (.list (iD ns)) ∧ ns.length ≤ 63 ∧ Ex F H ∧ Tabs T0 H ∧ (∀ q ∈ T0, F q.1 = none) ∧ ∀ H', Q (.bl true) H'
def tLaw (K : PySem.W.Frag) (T0 : List (Addr × Str)) (ns : List Int) : TS := fun D σ H1 => ∃ (p : Pl) (F1 B : Hp), p.T = T0 ∧ tW K (Sm0 p 0 F1 B) [.d (.list (iD ns)), .v (.ref p.st), .u, .u, .u, .u, .u] cnLaw D σ H1
theorem ok_law {T0 : List (Addr × Str)} (m : Free mg) (D : LawDs P w K mg base Cb T0) (Db : Def P w K mg base "_law_begin" 2 ["script"] (spB K)) {f : Addr} {fd : FuncData} (F : Fun K "law" "law" s_law f fd) : FnG P w K mg base 11 f fd ["script"] (spL K T0) := by
  refine okG F sc_law (fun vs H Q E h => ?_) (fun cdv A outer s H vs Q E hr h => ?_)
  · obtain ⟨_, _, _, rfl, _⟩ := h
    rfl
  · obtain ⟨F0, ns, v, rfl, dv, hl, ex, tb, tn, hQ⟩ := h
    have hN := sc_law.nd
    obtain ⟨fb, fdb, G, hm, hk, hb⟩ := Db.ex
    suffices hs : ∃ t, PSs (Bx P w K mg base N_law "law" (defScope s_law) f cdv A outer s H E) (defBody s_law) t ∧ t { nx := fun _ H' => Q .non H', rt := Q } (L2.start N_law [v]) H by
      obtain ⟨t, h1, h2⟩ := hs
      exact ⟨t, PSs.nox h1, h2⟩
    have tail : PSs (Bx P w K mg base N_law "law" (defScope s_law) f cdv A outer s H E) ((defBody s_law).drop 1) (tLaw K T0 ns) := ⟨fun pins s' σ H' D' I ⟨p, F1, B, hT, q⟩ => (law_rest m D hr p hT ns hl F1 B).run pins s' σ H' D' I q⟩
    refine ⟨_, pss_cons (ps_set (i := 1) hN rfl (.inl rfl) (pe_call G (hr.r.mono (by decide)) rfl hm hk hb .nil passL (pa_cons (pe_var (i := 0) rfl (.inl rfl)) pa_nil))) tail, ?_⟩
    refine ⟨v, rfl, F0, ns, v, rfl, dv, hl, ex, fun st cs ls L F' H' g n1 n2 n3 ⟨cells, lefts, m1, m2, m3, ne, d1, d2, d3, l1, l2, lp⟩ => ?_⟩
    let p : Pl := ⟨st, cs, ls, L, T0, ne, lp⟩
    have sf : ∀ a, p.S a → F' a = none := fun a ha => by
      rcases ha with rfl | rfl | rfl | ⟨q, hq, rfl⟩
      · exact n1
      · exact n2
      · exact n3
      · cases e : F' q.1 with
        | none => rfl
        | some u =>
          have h1 := g.n q.1 (tn q hq) (by rw [e]; exact fun z => nomatch z)
          obtain ⟨ps, h2, _⟩ := tb q hq
          rw [h2] at h1; cases h1
    have j : StJ p 0 H' := ⟨cells, lefts, 0, d1, d2, d3, l1, l2, Int.le_refl _, Int.le_refl _, tb.ext fun b o h => g.h b o (fun z => z) h⟩
    have st0 : StOk K (OS p (fun q => H' q = none) 0) F' (L2.start N_law [v]) H' [.d (.list (iD ns)), .u, .u, .u, .u, .u, .u] := start_ok (N := N_law) (xs := [.list (iD ns)]) g.s sf j (.cons (dv.up g.f) .nil)
    refine ⟨p, F', H', rfl, F', ⟨st0.setV (i := 1) (v := .ref st), Grow.refl g.s⟩, fun _ _ _ _ _ _ _ _ z => z.elim, fun u r F'' H'' O' m' g' j' o hr' => ?_, fun _ _ _ _ _ _ _ _ z => z.elim, fun _ _ _ _ _ _ _ _ z => z.elim⟩
    have hr' : r = .d (.bool true) := hr'
    subst hr'
    have eu : u = .bl true := Dp.bool_eq o
    rw [eu]
    exact hQ H''
end
end KS
end
section
set_option Elab.async false
set_option linter.all false
set_option maxRecDepth 100000
set_option maxHeartbeats 2000000
/-! the end: the law called by the row, a def that shows data -/
namespace DS
open PySem PySem.Spec PyProof.Rows L2 LamX
/-- what is tracked at the call: the tables, the script (where K does not hold it) -/
def H00 (K : PySem.W.Frag) (ts : List Addr) (a : Addr) (o : Obj) (xs : List V) : Hp := fun b => if b ∈ ts then some (.tbl #[]) else if b = a ∧ K.lookup a = none then some (.frz o (.lst xs)) else none
section
variable {K : PySem.W.Frag} {ts : List Addr} {a : Addr} {o : Obj} {xs : List V}
theorem H00_t {b : Addr} (h : b ∈ ts) : H00 K ts a o xs b = some (.tbl #[]) := if_pos h
theorem H00_a (h : a ∉ ts) (hk : K.lookup a = none) : H00 K ts a o xs a = some (.frz o (.lst xs)) := by
  unfold H00; rw [if_neg h, if_pos ⟨rfl, hk⟩]
theorem H00_ak {v : Obj} (h : a ∉ ts) (hk : K.lookup a = some v) : H00 K ts a o xs a = none := by
  unfold H00; rw [if_neg h, if_neg (fun z => by rw [hk] at z; cases z.2)]
theorem H00_n {b : Addr} (h : b ∉ ts) (hb : b ≠ a) : H00 K ts a o xs b = none := by
  unfold H00; rw [if_neg h, if_neg (fun z => hb z.1)]
theorem H00_cases (b : Addr) : H00 K ts a o xs b = none ∨ b ∈ ts ∨ (b = a ∧ K.lookup a = none ∧ H00 K ts a o xs b = some (.frz o (.lst xs))) := by
  by_cases h : b ∈ ts
  · exact .inr (.inl h)
  · by_cases h2 : b = a ∧ K.lookup a = none
    · exact .inr (.inr ⟨h2.1, h2.2, by unfold H00; rw [if_neg h, if_pos h2]⟩)
    · exact .inl (by unfold H00; rw [if_neg h, if_neg h2])
end
abbrev obT : Obj := { cls := .none, data := .fields #[] }
abbrev obL (vs : List Value) : Obj := { cls := .type "list", data := .seq vs.toArray }
/-- the law's end: True, the old objects kept but for the tables *of code objects* -/
abbrev EndsTrue (s₁ : Shared) (r : Result) (s' : Shared) : Prop := r = .ok (.ret (.bool true)) ∧ OldK s₁.heap s'.heap ∧ s'.os = s₁.os ∧ AllBare s'.gens
theorem end_call {P q : Program} {w : World} {K : PySem.W.Frag} {loose : List Str} {mean : ExcName → Option Value} {mg mb : Str → Option Value} {k : Nat} {fa a : Addr} {cs : List (Addr × Addr)} {fd : FuncData} {x : Str} {sp : Sp} {s₁ : Shared} {vs : List Value} {ns : List Int} (KX : K.In s₁.heap) (T : Top q loose mean mg mb s₁.heap) (hg : s₁.gens = #[])
    (hT : ∀ p ∈ cs, s₁.heap.get? p.2 = some obT) (nT : ∀ p ∈ cs, K.lookup p.2 = none) (C : ∀ p ∈ cs, PySem.W.CodeHd s₁.heap p.1 p.2) (ha : s₁.heap.get? a = some (obL vs)) (hi : IntsAre vs ns) (hl : ns.length ≤ sizeLine) (hr : RoomG k callerA)
    (F : ∀ base : Heap, K.In base → base.Ns mainGlobals mg → (∀ p ∈ cs, TabB base mg p.1 p.2) → FnG P w K mg base k fa fd [x] sp) (hbind : ∀ (s : Shared) (u : Value), BindsTo s fd ⟨[u], []⟩ [(x, u)])
    (hsp : ∀ H : Hp, (∀ p ∈ cs, H p.2 = some (.tbl #[])) → SqL K H a (ns.map V.int) → sp [.ref a] H (fun v _ => v = .bl true) fun _ _ _ => False) : codeAny (model P w) callerA (.call (.ref fa) ⟨[.ref a], []⟩) (EndsTrue s₁) s₁ := by
  have hns := T.g
  have hb := T.b
  have rv := vals_ints hi
  have lenV := hi.length
  obtain ⟨ts, hts⟩ : ∃ ts : List Addr, ts = cs.map (·.2) := ⟨_, rfl⟩
  have inT : ∀ p ∈ cs, p.2 ∈ ts := fun p hp => by rw [hts]; exact List.mem_map.mpr ⟨p, hp, rfl⟩
  have ofT : ∀ b ∈ ts, ∃ p ∈ cs, p.2 = b := fun b hb => by rw [hts] at hb; exact List.mem_map.mp hb
  have gT : ∀ b ∈ ts, s₁.heap.get? b = some obT := fun b hb => by
    obtain ⟨p, hp, e⟩ := ofT b hb
    rw [← e]; exact hT p hp
  have aT : a ∉ ts := fun z => by
    have h1 := gT a z
    rw [ha] at h1
    cases h1
  obtain ⟨H, eH⟩ : ∃ H : Hp, H = H00 K ts a (obL vs) (ns.map V.int) := ⟨_, rfl⟩
  have cH : ∀ b, H b = none ∨ b ∈ ts ∨ (b = a ∧ K.lookup a = none ∧ H b = some (.frz (obL vs) (.lst (ns.map V.int)))) := fun b => by rw [eH]; exact H00_cases b
  have tH : ∀ p ∈ cs, H p.2 = some (.tbl #[]) := fun p hp => by rw [eH]; exact H00_t (inT p hp)
  -- what is neither the script nor a table is not tracked
  have quiet : ∀ {b : Addr} {o : Obj}, s₁.heap.get? b = some o → o ≠ obL vs → o ≠ obT → H b = none := fun {b o} e h1 h2 => by
    rcases cH b with h | h | ⟨h, _, _⟩
    · exact h
    · rw [gT b h] at e; exact absurd (Option.some.inj e).symm h2
    · rw [h, ha] at e; exact absurd (Option.some.inj e).symm h1
  have quietK : ∀ {b : Addr} {o : Obj}, K.lookup b = some o → H b = none := fun {b o} e => by
    rcases cH b with h | h | ⟨h, hk, _⟩
    · exact h
    · obtain ⟨p, hp, ep⟩ := ofT b h
      rw [← ep, nT p hp] at e; cases e
    · rw [h, hk] at e; cases e
  have nsH : ∀ {b : Addr} {m : Str → Option Value}, s₁.heap.Ns b m → (hidT s₁.heap H).Ns b m := fun {b m} ⟨o, es, ep, e, d, r⟩ => ⟨o, es, ep, hidT_get e (quiet e (fun z => by rw [z] at d; cases d) (fun z => by rw [z] at d; cases d)), d, r⟩
  have hKb : K.In (hidT s₁.heap H) := fun b o e => hidT_get (KX b o e) (quietK e)
  have hM : L2.Mod K mg (hidT s₁.heap H) := ⟨hKb, nsH hns, ⟨mb, nsH hb, T.builtins⟩, let ⟨mc, h1, h2⟩ := T.nolimit; ⟨mc, nsH h1, h2⟩⟩
  have nsNe : ∀ {b c : Addr} {m : Str → Option Value} {o : Obj}, s₁.heap.Ns b m → s₁.heap.get? c = some o → (∀ es ep, o.data ≠ .dict es ep) → c ≠ b := fun {b c m o} ⟨o', es, ep, e, d, _⟩ e2 hd z => by
    rw [z, e] at e2
    cases e2
    exact hd _ _ d
  have TB : ∀ p ∈ cs, TabB (hidT s₁.heap H) mg p.1 p.2 := fun p hp => by
    refine ⟨?_, ?_, fun z => nsNe hns (hT p hp) (fun _ _ z => by cases z) z.symm⟩
    · obtain ⟨o, us, file, tf, flags, tg, inF, text, tt, e1, r1, r2, r3, r⟩ := C p hp
      exact ⟨o, us, file, tf, flags, tg, inF, text, tt, hidT_get e1 (quiet e1 (fun z => by rw [z] at r2; cases r2) (fun z => by
        rw [z] at r2
        cases r2
        simp at r3)), r1, r2, r3, r⟩
    · obtain ⟨bm, ob, b1, b2, b3, b4, b5, b6⟩ := T.bmain
      have nd : ∀ es ep, ob.data ≠ .dict es ep := fun es ep z => by rw [b6] at z; cases z
      have nP : bm ≠ p.2 := fun z => by
        rw [z, hT p hp] at b3
        cases b3
        cases b6
      exact ⟨bm, ob, b1, b2, nsNe hns b3 nd, nP, hidT_get b3 (quiet b3 (fun z => by rw [z] at b6; cases b6) (fun z => by rw [z] at b6; cases b6)), b4, b5, b6⟩
  have hok : HOk P w H s₁.heap := fun b u e => by
    rcases cH b with h | h | ⟨h, _, h2⟩
    · rw [h] at e; cases e
    · obtain ⟨p, hp, ep⟩ := ofT b h
      rw [← ep, tH p hp] at e
      cases e
      rw [← ep]; exact hT p hp
    · rw [h2] at e
      cases e
      rw [h]
      exact ⟨ha, by rw [List.length_map]; exact hl, vs, _, rv, ha⟩
  have hS : SqL K H a (ns.map V.int) := by
    cases hk : K.lookup a with
    | none => exact .inl (.inr ⟨_, by rw [eH]; exact H00_a aT hk⟩)
    | some o =>
      have e := KX a o hk
      rw [ha] at e
      cases e
      exact .inr ⟨_, vs.toArray, _, hk, rfl, rfl, rfl, by rw [List.size_toArray, lenV]; exact hl, by simpa using rv⟩
  have e0 : Env0 P w K mg (hidT s₁.heap H) callerA [] s₁ H := ⟨rfl, hM, fun b o e => of_hidT e, Nat.le_of_eq (hidT_size _ _), trivial, fun b hb => (nomatch hb), hok, .of_eq hg⟩
  refine codeAny_mono ((F _ hKb (nsH hns) TB).run callerA [] s₁ H ⟨[.ref a], []⟩ [.ref a] [.ref a] _ _ hr e0 (hbind s₁ (.ref a)) (.cons rfl .nil) (hsp H tH hS)) fun r s' h => ?_
  match r, h with
  | .error e, h =>
    obtain ⟨_, _, _, _, _, _, _, _, _, _, _, _, z⟩ := h
    exact z.elim
  | .ok (.ret u), h =>
    obtain ⟨v, H', os, bare, un, hok', r', q⟩ := h
    have q' : v = .bl true := q
    subst q'
    obtain rfl : u = Value.bool true := r'
    have noex : ∀ b : Addr, b ∉ ([] : List Addr) := fun b z => nomatch z
    have stay : ∀ b o, b ∉ ts → s₁.heap.get? b = some o → s'.heap.get? b = some o := fun b o nb e => by
      rcases cH b with z | z | ⟨z, _, z2⟩
      · exact un.keep b o e z (noex b) (noex b)
      · exact absurd z nb
      · obtain ⟨e2, _⟩ := hok' b _ (un.frzs b _ _ z2)
        rw [z, ha] at e
        cases e
        exact e2
    have grown : ∀ b ∈ ts, ∃ more : Array Value, s'.heap.get? b = some { cls := .none, data := .fields more } := fun b hb => by
      obtain ⟨p, hp, ep⟩ := ofT b hb
      obtain ⟨more, z⟩ := un.tbls p.2 #[] (tH p hp)
      rw [← ep]
      exact ⟨_, hok' p.2 _ z⟩
    refine ⟨rfl, ⟨fun b o e => ?_, fun b o e => ?_⟩, os, bare⟩
    · by_cases hb : b ∈ ts
      · obtain ⟨more, hm⟩ := grown b hb
        have e1 := gT b hb
        rw [e] at e1
        cases e1
        obtain ⟨p, hp, ep⟩ := ofT b hb
        exact .inr (.inl ⟨by rw [← ep]; exact ((C p hp).tab (hT p hp)).isCodeTable, rfl, #[], more, rfl, by rw [Array.empty_append]; exact hm⟩)
      · exact .inl (stay b o hb e)
    · by_cases hb : b ∈ ts
      · obtain ⟨more, hm⟩ := grown b hb
        exact ⟨_, hm⟩
      · exact ⟨o, stay b o hb e⟩
end DS
end
section
set_option Elab.async false
set_option linter.all false
set_option maxRecDepth 100000
set_option maxHeartbeats 4000000
namespace KZ
open PySem PySem.Spec PyProof.Rows L2 DS KT KM KD KL KS LamX
/-! ### what the head leaves, and every def's promise (printed by gen_all.py) -/
def DefF (K : PySem.W.Frag) (nm : Str) (st : Stmt) : Prop := ∃ (f : Addr) (oc : Value) (od an : Option Addr) (osl : Array (Option Value)) (kV doc pm cdv ct : Value), PySem.W.nsIn K mainGlobals nm = some (some (.ref f)) ∧ K.lookup f = some ⟨oc, od, .func (PySem.W.fnOf nm nm (defArgs st) (defBody st) (defScope st) .none kV doc pm an cdv ct), osl⟩ ∧ PySem.W.codeIn K cdv nm = true ∧ PySem.W.keepIn K (.ref f) = true
def DefC (K : PySem.W.Frag) (nm : Str) (st : Stmt) (c : Addr) : Prop := ∃ (f : Addr) (oc : Value) (od an : Option Addr) (osl : Array (Option Value)) (kV doc pm ct : Value), PySem.W.nsIn K mainGlobals nm = some (some (.ref f)) ∧ K.lookup f = some ⟨oc, od, .func (PySem.W.fnOf nm nm (defArgs st) (defBody st) (defScope st) .none kV doc pm an (.ref c) ct), osl⟩ ∧ PySem.W.codeIn K (.ref c) nm = true ∧ PySem.W.keepIn K (.ref f) = true
abbrev BindE (nm : Str) (st : Stmt) (ps : List Str) : Prop := ∀ (kV doc pm : Value) (an : Option Addr) (cdv ct : Value) (us : List Value), us.length = ps.length → bindArgs (PySem.W.fnOf nm nm (defArgs st) (defBody st) (defScope st) .none kV doc pm an cdv ct) ⟨us, []⟩ = pure (ps.zip us)
section
variable {P : Program} {w : World} {K : PySem.W.Frag} {mg : Str → Option Value} {base hp : Heap} {nm : Str} {st : Stmt} {N ps : List Str} {k : Nat}
theorem DefF.get (h : DefF K nm st) (X : K.In hp) (G : hp.Ns mainGlobals mg) : ∃ f fd, Fun K nm nm st f fd ∧ mg nm = some (.ref f) := by
  obtain ⟨f, oc, od, an, osl, kV, doc, pm, cdv, ct, a, l, c, kp⟩ := h
  exact ⟨f, _, fun_mk l c kp, PySem.W.mg_of X G a⟩
theorem DefC.get {c : Addr} (h : DefC K nm st c) (X : K.In hp) (G : hp.Ns mainGlobals mg) : ∃ f fd, FunC K nm st f fd c ∧ Fun K nm nm st f fd ∧ mg nm = some (.ref f) := by
  obtain ⟨f, oc, od, an, osl, kV, doc, pm, ct, a, l, c, kp⟩ := h
  exact ⟨f, _, ⟨⟨oc, od, kV, doc, pm, an, ct, osl, rfl, l, c⟩, kp⟩, fun_mk l c kp, PySem.W.mg_of X G a⟩
theorem mk_d {Rl : Rel} (h : DefF K nm st) (X : K.In hp) (G : hp.Ns mainGlobals mg) (S : FnScope N ps (defScope st)) (hb : BindE nm st ps) (hl : ∀ xs z, Rl xs z → xs.length = ps.length) (body : BodyOk P w K mg base N nm st k Rl) : Def P w K mg base nm (k + 1) ps (spD K Rl) := by
  obtain ⟨f, fd, F, hm⟩ := h.get X G
  exact def_mk F hm (F.binds hb) S hl body
theorem mk_e {Rl : RelE} {Cb : Addr} (h : DefF K nm st) (X : K.In hp) (G : hp.Ns mainGlobals mg) (S : FnScope N ps (defScope st)) (hb : BindE nm st ps) (hl : ∀ xs z b, Rl xs z b → xs.length = ps.length) (body : BodyOkE P w K mg base N nm st Cb k Rl) : Def P w K mg base nm (k + 1) ps (spE K Cb Rl) := by
  obtain ⟨f, fd, F, hm⟩ := h.get X G
  exact def_mkE F hm (F.binds hb) S hl body
theorem mk_s {Rl : RelS} (h : DefF K nm st) (X : K.In hp) (G : hp.Ns mainGlobals mg) (S : FnScope N ps (defScope st)) (hN : N ≠ []) (hb : BindE nm st ps) (hl : ∀ p xs c z, Rl p xs c z → xs.length + 1 = ps.length) (body : BodyOkS P w K mg base N nm st true k Rl) : Def P w K mg base nm (k + 1) ps (spS K true Rl) := by
  obtain ⟨f, fd, F, hm⟩ := h.get X G
  exact def_mkS F hm (F.binds hb) S hN hl body
theorem mk_g {Rl : RelS} (h : DefF K nm st) (X : K.In hp) (G : hp.Ns mainGlobals mg) (S : FnScope N ps (defScope st)) (hN : N ≠ []) (hb : BindE nm st ps) (hl : ∀ p xs c z, Rl p xs c z → xs.length = ps.length) (body : BodyOkSG P w K mg base N nm st false k Rl) : DefG P w K mg base nm (k + 1) ps (spS K false Rl) := by
  obtain ⟨f, fd, F, hm⟩ := h.get X G
  exact def_mkSG F hm (F.binds hb) S hN hl body
theorem mk_c {Rl : RelS} {b : Bool} {c : Addr} (h : DefC K nm st c) (X : K.In hp) (G : hp.Ns mainGlobals mg) (S : FnScope N ps (defScope st)) (hN : N ≠ []) (hb : BindE nm st ps) (hl : ∀ p xs c z, Rl p xs c z → xs.length + (if b = true then 1 else 0) = ps.length) (body : BodyOkSGc P w K mg base N nm st c b k Rl) : DefG P w K mg base nm (k + 1) ps (spS K b Rl) := by
  obtain ⟨f, fd, F, F2, hm⟩ := h.get X G
  exact def_mkSGc F hm (F2.binds hb) S hN hl body
end

theorem be_is_of : BindE "is_of" s_is_of ["thing", "signs", "least", "most"] := fun _ _ _ _ _ _ us hl => match us, hl with | [_, _, _, _], _ => rfl
theorem be_is_name : BindE "is_name" s_is_name ["thing"] := fun _ _ _ _ _ _ us hl => match us, hl with | [_], _ => rfl
theorem be_is_letter : BindE "is_letter" s_is_letter ["thing"] := fun _ _ _ _ _ _ us hl => match us, hl with | [_], _ => rfl
theorem be_is_option : BindE "is_option" s_is_option ["thing"] := fun _ _ _ _ _ _ us hl => match us, hl with | [_], _ => rfl
theorem be_is_place : BindE "is_place" s_is_place ["thing"] := fun _ _ _ _ _ _ us hl => match us, hl with | [_], _ => rfl
theorem be_option_fault : BindE "option_fault" s_option_fault ["options"] := fun _ _ _ _ _ _ us hl => match us, hl with | [_], _ => rfl
theorem be_place_fault : BindE "place_fault" s_place_fault ["places"] := fun _ _ _ _ _ _ us hl => match us, hl with | [_], _ => rfl
theorem be_fault : BindE "fault" s_fault ["thing"] := fun _ _ _ _ _ _ us hl => match us, hl with | [_], _ => rfl
theorem be_need_grammar : BindE "need_grammar" s_need_grammar ["thing"] := fun _ _ _ _ _ _ us hl => match us, hl with | [_], _ => rfl
theorem be_option_told : BindE "option_told" s_option_told ["grammar", "text"] := fun _ _ _ _ _ _ us hl => match us, hl with | [_, _], _ => rfl
theorem be_tellings_of : BindE "tellings_of" s_tellings_of ["grammar"] := fun _ _ _ _ _ _ us hl => match us, hl with | [_], _ => rfl
theorem be_tellings : BindE "tellings" s_tellings ["grammar"] := fun _ _ _ _ _ _ us hl => match us, hl with | [_], _ => rfl
theorem be_numbers_of : BindE "numbers_of" s_numbers_of ["grammar"] := fun _ _ _ _ _ _ us hl => match us, hl with | [_], _ => rfl
theorem be_numbers : BindE "numbers" s_numbers ["grammar"] := fun _ _ _ _ _ _ us hl => match us, hl with | [_], _ => rfl
theorem be_with_options : BindE "with_options" s_with_options ["grammar", "options"] := fun _ _ _ _ _ _ us hl => match us, hl with | [_, _], _ => rfl
theorem be_law_mixed : BindE "_law_mixed" s_law_mixed ["cell", "k"] := fun _ _ _ _ _ _ us hl => match us, hl with | [_, _], _ => rfl
theorem be_law_draw : BindE "_law_draw" s_law_draw ["state", "many"] := fun _ _ _ _ _ _ us hl => match us, hl with | [_, _], _ => rfl
theorem be_law_of : BindE "_law_of" s_law_of ["state", "some"] := fun _ _ _ _ _ _ us hl => match us, hl with | [_, _], _ => rfl
theorem be_law_option_name : BindE "_law_option_name" s_law_option_name ["state"] := fun _ _ _ _ _ _ us hl => match us, hl with | [_], _ => rfl
theorem be_law_letter : BindE "_law_letter" s_law_letter ["state"] := fun _ _ _ _ _ _ us hl => match us, hl with | [_], _ => rfl
theorem be_law_more : BindE "_law_more" s_law_more ["state", "options", "many"] := fun _ _ _ _ _ _ us hl => match us, hl with | [_, _, _], _ => rfl
theorem be_law_places : BindE "_law_places" s_law_places ["state"] := fun _ _ _ _ _ _ us hl => match us, hl with | [_], _ => rfl
theorem be_law_grammar : BindE "_law_grammar" s_law_grammar ["state", "most"] := fun _ _ _ _ _ _ us hl => match us, hl with | [_, _], _ => rfl
theorem be_law_is_of : BindE "_law_is_of" s_law_is_of ["thing", "signs", "low", "high"] := fun _ _ _ _ _ _ us hl => match us, hl with | [_, _, _, _], _ => rfl
theorem be_law_is_name : BindE "_law_is_name" s_law_is_name ["thing"] := fun _ _ _ _ _ _ us hl => match us, hl with | [_], _ => rfl
theorem be_law_is_option : BindE "_law_is_option" s_law_is_option ["thing"] := fun _ _ _ _ _ _ us hl => match us, hl with | [_], _ => rfl
theorem be_law_is_place : BindE "_law_is_place" s_law_is_place ["thing"] := fun _ _ _ _ _ _ us hl => match us, hl with | [_], _ => rfl
theorem be_law_first : BindE "_law_first" s_law_first ["word", "things", "most"] := fun _ _ _ _ _ _ us hl => match us, hl with | [_, _, _], _ => rfl
theorem be_law_fault : BindE "_law_fault" s_law_fault ["thing"] := fun _ _ _ _ _ _ us hl => match us, hl with | [_], _ => rfl
theorem be_law_tells : BindE "_law_tells" s_law_tells ["grammar", "text"] := fun _ _ _ _ _ _ us hl => match us, hl with | [_, _], _ => rfl
theorem be_law_tellings : BindE "_law_tellings" s_law_tellings ["grammar"] := fun _ _ _ _ _ _ us hl => match us, hl with | [_], _ => rfl
theorem be_law_takes : BindE "_law_takes" s_law_takes ["places", "many"] := fun _ _ _ _ _ _ us hl => match us, hl with | [_, _], _ => rfl
theorem be_law_numbers_right : BindE "_law_numbers_right" s_law_numbers_right ["grammar"] := fun _ _ _ _ _ _ us hl => match us, hl with | [_], _ => rfl
theorem be_law_full_right : BindE "_law_full_right" s_law_full_right [] := fun _ _ _ _ _ _ us hl => match us, hl with | [], _ => rfl
theorem be_law_more_right : BindE "_law_more_right" s_law_more_right ["state", "grammar"] := fun _ _ _ _ _ _ us hl => match us, hl with | [_, _], _ => rfl
theorem be_law_refused_right : BindE "_law_refused_right" s_law_refused_right ["grammar"] := fun _ _ _ _ _ _ us hl => match us, hl with | [_], _ => rfl
theorem be_init : ∀ (kV doc pm : Value) (an : Option Addr) (cdv ct : Value) (us : List Value), us.length = (["self", "place"] : List Str).length → bindArgs (PySem.W.fnOf "__init__" "BadGrammar.__init__" (defArgs s_init) (defBody s_init) (defScope s_init) .none kV doc pm an cdv ct) ⟨us, []⟩ = pure ((["self", "place"] : List Str).zip us) := fun _ _ _ _ _ _ us hl => match us, hl with | [_, _], _ => rfl
theorem be_law_begin : BindE "_law_begin" s_law_begin ["script"] := fun _ _ _ _ _ _ us hl => match us, hl with | [_], _ => rfl
theorem be_law_said : BindE "_law_said" s_law_said ["call"] := fun _ _ _ _ _ _ us hl => match us, hl with | [_], _ => rfl
theorem be_law : BindE "law" s_law ["script"] := fun _ _ _ _ _ _ us hl => match us, hl with | [_], _ => rfl
theorem kit_self {K : PySem.W.Frag} {v : Value} : PySem.W.kitOne K v v = some true := by
  unfold PySem.W.kitOne
  rw [if_pos (beq_self_eq_true v)]
theorem exm_of {K : PySem.W.Frag} {Cb Ck : Addr} (hE : PySem.W.subIn K (.ref Ck) (.type "BaseException") = some true) (kk : PySem.W.kitOne K (.ref Cb) (.ref Ck) = some true) (kN : decide (Cb = Ck) = false) : PySem.W.exmOne K (.ref Cb) (.ref Ck) = some true := by
  have n : Cb ≠ Ck := of_decide_eq_false kN
  have n2 : ((Value.ref Cb) == (Value.ref Ck)) = false := by
    cases e : ((Value.ref Cb) == (Value.ref Ck)) with
    | false => rfl
    | true => exact absurd (Value.ref.inj (eq_of_beq e)) n
  unfold PySem.W.kitOne at kk
  rw [n2] at kk
  unfold PySem.W.exmOne
  rw [hE]
  exact kk


/-! ### facts -/
def strsB : List Str → List Value → Bool
  | [], [] => true
  | s :: ss, .str x _ :: us => s == x && strsB ss us
  | _, _ => false
theorem strs_vals {F : Hp} {K : PySem.W.Frag} : ∀ {ss : List Str} {us : List Value}, strsB ss us = true → Vals (ss.map V.str) us ∧ DpAll K F (ss.map V.str) (ss.map PyData.str)
  | [], [], _ => ⟨.nil, .nil⟩
  | s :: ss, .str x t :: us, h => by
    obtain ⟨h1, h2⟩ := Bool.and_eq_true_iff.mp h
    have e : s = x := eq_of_beq h1
    subst e
    obtain ⟨a, b⟩ := strs_vals (F := F) (K := K) h2
    exact ⟨.cons ⟨t, rfl⟩ a, .cons (.str s) b⟩
/-- a tuple of texts, by its name -/
def TupF (K : PySem.W.Frag) (nm : Str) (ss : List Str) : Prop := ∃ (a : Addr) (od : Option Addr) (its : Array Value) (n : Nat) (osl : Array (Option Value)), PySem.W.nsIn K mainGlobals nm = some (some (.ref a)) ∧ K.lookup a = some ⟨.type "tuple", od, .seq its n, osl⟩ ∧ its.size ≤ sizeLine ∧ strsB ss its.toList = true
theorem TupF.mk' {K : PySem.W.Frag} {nm : Str} {ss : List Str} {a : Addr} {od : Option Addr} {its : Array Value} {n : Nat} {osl : Array (Option Value)} (h1 : PySem.W.nsIn K mainGlobals nm = some (some (.ref a))) (h2 : K.lookup a = some ⟨.type "tuple", od, .seq its n, osl⟩) (h3 : decide (its.size ≤ sizeLine) = true) (h4 : strsB ss its.toList = true) : TupF K nm ss := ⟨a, od, its, n, osl, h1, h2, of_decide_eq_true h3, h4⟩
theorem TupF.get {K : PySem.W.Frag} {mg : Str → Option Value} {hp : Heap} {nm : Str} {ss : List Str} (h : TupF K nm ss) (X : K.In hp) (G : hp.Ns mainGlobals mg) : GTup K mg nm ss := by
  obtain ⟨a, od, its, n, osl, h1, h2, h3, h4⟩ := h
  exact ⟨a, PySem.W.mg_of X G h1, fun F => .tup (.inr ⟨_, its, n, h2, rfl, rfl, h3, (strs_vals (F := F) (K := K) h4).1⟩) (strs_vals h4).2⟩
def StrF (K : PySem.W.Frag) (nm s : Str) : Prop := ∃ t, PySem.W.nsIn K mainGlobals nm = some (some (.str s t))
def IntF (K : PySem.W.Frag) (nm : Str) (i : Int) : Prop := ∃ t, PySem.W.nsIn K mainGlobals nm = some (some (.int i t))
theorem StrF.mk' {K : PySem.W.Frag} {nm s z : Str} {t : Tok} (h : PySem.W.nsIn K mainGlobals nm = some (some (.str z t))) (e : (z == s) = true) : StrF K nm s := ⟨t, by rw [← eq_of_beq e]; exact h⟩
theorem IntF.mk' {K : PySem.W.Frag} {nm : Str} {i z : Int} {t : Tok} (h : PySem.W.nsIn K mainGlobals nm = some (some (.int z t))) (e : decide (z = i) = true) : IntF K nm i := ⟨t, by rw [← of_decide_eq_true e]; exact h⟩
theorem DefF.mk' {K : PySem.W.Frag} {nm : Str} {st : Stmt} {f : Addr} {oc : Value} {od an : Option Addr} {osl : Array (Option Value)} {kV doc pm cdv ct : Value} (a : PySem.W.nsIn K mainGlobals nm = some (some (.ref f))) (l : K.lookup f = some ⟨oc, od, .func (PySem.W.fnOf nm nm (defArgs st) (defBody st) (defScope st) .none kV doc pm an cdv ct), osl⟩) (c : PySem.W.codeIn K cdv nm = true) (k : PySem.W.keepIn K (.ref f) = true) : DefF K nm st := ⟨f, oc, od, an, osl, kV, doc, pm, cdv, ct, a, l, c, k⟩
theorem DefC.mk' {K : PySem.W.Frag} {nm : Str} {st : Stmt} {cd f : Addr} {oc : Value} {od an : Option Addr} {osl : Array (Option Value)} {kV doc pm ct : Value} (a : PySem.W.nsIn K mainGlobals nm = some (some (.ref f))) (l : K.lookup f = some ⟨oc, od, .func (PySem.W.fnOf nm nm (defArgs st) (defBody st) (defScope st) .none kV doc pm an (.ref cd) ct), osl⟩) (c : PySem.W.codeIn K (.ref cd) nm = true) (k : PySem.W.keepIn K (.ref f) = true) : DefC K nm st cd := ⟨f, oc, od, an, osl, kV, doc, pm, ct, a, l, c, k⟩
/-- an own class by its name, of which Cb is no child -/
def NotF (K : PySem.W.Frag) (nm : Str) (Cb : Addr) : Prop := ∃ C, PySem.W.nsIn K mainGlobals nm = some (some (.ref C)) ∧ PySem.W.kitOne K (.ref Cb) (.ref C) = some false
theorem kit_false {K : PySem.W.Frag} {Cb C : Addr} (hn : decide (Cb = C) = false) (hi : PySem.W.isClsIn K C = true) (ht : PySem.W.typeIn K (.ref C) = some (.type "type")) {b : Bool} (hs : PySem.W.subIn K (.ref Cb) (.ref C) = some b) : PySem.W.kitOne K (.ref Cb) (.ref C) = some b := by
  have n : Cb ≠ C := of_decide_eq_false hn
  have n2 : ((Value.ref Cb) == (Value.ref C)) = false := by
    cases e : ((Value.ref Cb) == (Value.ref C)) with
    | false => rfl
    | true => exact absurd (Value.ref.inj (eq_of_beq e)) n
  have hi' : (PySem.W.clsIn K C).isSome = true := hi
  show (if (Value.ref Cb == Value.ref C) = true then some true else (if ((PySem.W.clsIn K C).isSome && PySem.W.typeIn K (.ref C) == some (.type "type")) = true then PySem.W.subIn K (.ref Cb) (.ref C) else none)) = some b
  rw [n2, hi', ht]
  exact hs
theorem NotF.mk' {K : PySem.W.Frag} {nm : Str} {Cb C : Addr} (a : PySem.W.nsIn K mainGlobals nm = some (some (.ref C))) (hi : PySem.W.isClsIn K C = true) (ht : PySem.W.typeIn K (.ref C) = some (.type "type")) (hs : PySem.W.subIn K (.ref Cb) (.ref C) = some false) (hn : decide (Cb = C) = false) : NotF K nm Cb := ⟨C, a, kit_false hn hi ht hs⟩
/-- the class BadGrammar at Cb, its base at Ck, its __init__ at fI -/
structure BadF (K : PySem.W.Frag) (Cb Ck fI : Addr) : Prop where
  aB : PySem.W.nsIn K mainGlobals "BadGrammar" = some (some (.ref Cb))
  aK : PySem.W.nsIn K mainGlobals "KeptError" = some (some (.ref Ck))
  T : OexC K Cb
  rd : PySem.W.readsIn K Ck (.type "type") = true
  gaK : PySem.W.specialIn K (.ref Ck) "__getattribute__" = some (some (.builtin "type.__getattribute__"))
  vV : PySem.W.findCls K (.ref Ck) (.type "type") "__init__" = some (.val (.builtin "ValueError.__init__"))
  noP : PySem.W.findIn K (.ref Cb) "place" = some none
  iC : PySem.W.findIn K (.ref Cb) "__init__" = some (some (.ref fI))
  tI : PySem.W.typeIn K (.ref fI) = some (.type "function")
  xI : ∃ (oc : Value) (od an : Option Addr) (osl : Array (Option Value)) (kV doc pm cdv ct : Value), K.lookup fI = some ⟨oc, od, .func (PySem.W.fnOf "__init__" "BadGrammar.__init__" (defArgs s_init) (defBody s_init) (defScope s_init) .none kV doc pm an cdv ct), osl⟩ ∧ PySem.W.codeIn K cdv "BadGrammar.__init__" = true ∧ PySem.W.keepIn K (.ref fI) = true
  ga : PySem.W.findIn K (.ref Cb) "__getattribute__" = some (some (.builtin "BaseException.__getattribute__"))
  gg : PySem.W.findIn K (.ref Cb) "__getattr__" = some none
  hd : PySem.W.hasDictIn K Cb = true
  ha : PySem.W.findIn K (.ref Cb) "__class__" = some (some (.builtin "object.__class__"))
  hn : PySem.W.specialIn K (.builtin "object.__class__") "__get__" = some (some (.builtin "getset_descriptor.__get__"))
  ht : PySem.W.takesIn K (.builtin "object.__class__") = some true
  hm : PySem.W.mroIn K Cb (.type "object") = some true
  kI : PySem.W.isClsIn K Ck = true
  kT : PySem.W.typeIn K (.ref Ck) = some (.type "type")
  kS : PySem.W.subIn K (.ref Cb) (.ref Ck) = some true
  kE : PySem.W.subIn K (.ref Ck) (.type "BaseException") = some true
  kN : decide (Cb = Ck) = false
theorem OexC.mk' {K : PySem.W.Frag} {C : Addr} {nm q : Str} {N : Addr} {bs bm : List Value} {sn : List Str} {sub : List Value} {ab : Bool} {col : Option Bool} {dd : Option Addr} {k0 k1 k2 k3 k5 : Option Value} (h : K.lookup C = some (excClassObj nm q C N bs bm true sn sub ab col dd k0 k1 k2 k3 k5 "ValueError.__new__")) (hr : PySem.HandSPX.refsVE bm = true)
    (sa : PySem.W.findIn K (.ref C) "__setattr__" = some (some (.builtin "object.__setattr__"))) (exC : PySem.W.subIn K (.ref C) (.type "BaseException") = some true) (tyC : PySem.W.typeIn K (.ref C) = some (.type "type")) (kC : PySem.W.keepIn K (.ref C) = true) : OexC K C := ⟨⟨nm, q, N, bs, bm, sn, sub, ab, col, dd, k0, k1, k2, k3, k5, h, hr⟩, sa, exC, tyC, kC⟩
theorem exI_mk {K : PySem.W.Frag} {fI : Addr} {oc : Value} {od an : Option Addr} {osl : Array (Option Value)} {kV doc pm cdv ct : Value} (l : K.lookup fI = some ⟨oc, od, .func (PySem.W.fnOf "__init__" "BadGrammar.__init__" (defArgs s_init) (defBody s_init) (defScope s_init) .none kV doc pm an cdv ct), osl⟩) (c : PySem.W.codeIn K cdv "BadGrammar.__init__" = true) (k : PySem.W.keepIn K (.ref fI) = true) :
    ∃ (oc : Value) (od an : Option Addr) (osl : Array (Option Value)) (kV doc pm cdv ct : Value), K.lookup fI = some ⟨oc, od, .func (PySem.W.fnOf "__init__" "BadGrammar.__init__" (defArgs s_init) (defBody s_init) (defScope s_init) .none kV doc pm an cdv ct), osl⟩ ∧ PySem.W.codeIn K cdv "BadGrammar.__init__" = true ∧ PySem.W.keepIn K (.ref fI) = true := ⟨oc, od, an, osl, kV, doc, pm, cdv, ct, l, c, k⟩

structure Facts (K : PySem.W.Frag) (Cb Ck fI c1 c2 : Addr) : Prop where
  d_is_of : DefF K "is_of" s_is_of
  d_is_name : DefF K "is_name" s_is_name
  d_is_letter : DefF K "is_letter" s_is_letter
  d_is_option : DefF K "is_option" s_is_option
  d_is_place : DefF K "is_place" s_is_place
  d_option_fault : DefF K "option_fault" s_option_fault
  d_place_fault : DefF K "place_fault" s_place_fault
  d_fault : DefF K "fault" s_fault
  d_need_grammar : DefF K "need_grammar" s_need_grammar
  d_option_told : DefF K "option_told" s_option_told
  d_tellings_of : DefF K "tellings_of" s_tellings_of
  d_tellings : DefF K "tellings" s_tellings
  d_numbers_of : DefF K "numbers_of" s_numbers_of
  d_numbers : DefF K "numbers" s_numbers
  d_with_options : DefF K "with_options" s_with_options
  d_law_mixed : DefF K "_law_mixed" s_law_mixed
  d_law_draw : DefF K "_law_draw" s_law_draw
  d_law_of : DefF K "_law_of" s_law_of
  d_law_option_name : DefF K "_law_option_name" s_law_option_name
  d_law_letter : DefF K "_law_letter" s_law_letter
  d_law_more : DefF K "_law_more" s_law_more
  d_law_places : DefF K "_law_places" s_law_places
  d_law_grammar : DefF K "_law_grammar" s_law_grammar
  d_law_is_of : DefF K "_law_is_of" s_law_is_of
  d_law_is_name : DefF K "_law_is_name" s_law_is_name
  d_law_is_option : DefF K "_law_is_option" s_law_is_option
  d_law_is_place : DefF K "_law_is_place" s_law_is_place
  d_law_first : DefF K "_law_first" s_law_first
  d_law_fault : DefF K "_law_fault" s_law_fault
  d_law_tells : DefF K "_law_tells" s_law_tells
  d_law_tellings : DefF K "_law_tellings" s_law_tellings
  d_law_takes : DefF K "_law_takes" s_law_takes
  d_law_numbers_right : DefF K "_law_numbers_right" s_law_numbers_right
  d_law_full_right : DefF K "_law_full_right" s_law_full_right
  d_law_more_right : DefC K "_law_more_right" s_law_more_right c1
  d_law_refused_right : DefC K "_law_refused_right" s_law_refused_right c2
  d_law_begin : DefF K "_law_begin" s_law_begin
  d_law_said : DefF K "_law_said" s_law_said
  n_isinstance : PySem.W.nsIn K mainGlobals "isinstance" = some none
  n_str : PySem.W.nsIn K mainGlobals "str" = some none
  n_len : PySem.W.nsIn K mainGlobals "len" = some none
  n_all : PySem.W.nsIn K mainGlobals "all" = some none
  n_tuple : PySem.W.nsIn K mainGlobals "tuple" = some none
  n_bool : PySem.W.nsIn K mainGlobals "bool" = some none
  n_enumerate : PySem.W.nsIn K mainGlobals "enumerate" = some none
  n_list : PySem.W.nsIn K mainGlobals "list" = some none
  n_sorted : PySem.W.nsIn K mainGlobals "sorted" = some none
  n_set : PySem.W.nsIn K mainGlobals "set" = some none
  n_range : PySem.W.nsIn K mainGlobals "range" = some none
  n_int : PySem.W.nsIn K mainGlobals "int" = some none
  n_min : PySem.W.nsIn K mainGlobals "min" = some none
  n_repr : PySem.W.nsIn K mainGlobals "repr" = some none
  k_LETTERS : StrF K "LETTERS" LET
  k_FIGURES : StrF K "FIGURES" FIG
  k_MOST_IN_NAME : IntF K "MOST_IN_NAME" 12
  k_KINDS : TupF K "KINDS" KIN
  k_ARITIES : TupF K "ARITIES" ARI
  k_MOST_OPTIONS : IntF K "MOST_OPTIONS" 24
  k_MOST_PLACES : IntF K "MOST_PLACES" 5
  k_SHORT : IntF K "SHORT" 0
  x_BadLine : NotF K "BadLine" Cb
  x_BadForm : NotF K "BadForm" Cb
  x_BadText : NotF K "BadText" Cb
  x_BadMeaning : NotF K "BadMeaning" Cb
  x_BadQuestion : NotF K "BadQuestion" Cb
  bad : BadF K Cb Ck fI
set_option maxHeartbeats 8000000 in
theorem law_all {P : Program} {w : World} {K : PySem.W.Frag} {mg : Str → Option Value} {base : Heap} {Cb Ck fI c1 c2 P1 P2 : Addr} (X : K.In base) (G : base.Ns mainGlobals mg) (H : Facts K Cb Ck fI c1 c2) (TB1 : TabB base mg c1 P1) (TB2 : TabB base mg c2 P2) (hne : P1 ≠ P2) {fa : Addr} {fd : FuncData} (F : Fun K "law" "law" s_law fa fd) : FnG P w K mg base 11 fa fd ["script"] (spL K [(P1, lq "_law_more_right"), (P2, lq "_law_refused_right")]) := by
  have m : Free mg := ⟨PySem.W.mg_none_of X G H.n_isinstance, PySem.W.mg_none_of X G H.n_str, PySem.W.mg_none_of X G H.n_len, PySem.W.mg_none_of X G H.n_all, PySem.W.mg_none_of X G H.n_tuple, PySem.W.mg_none_of X G H.n_bool, PySem.W.mg_none_of X G H.n_enumerate, PySem.W.mg_none_of X G H.n_list, PySem.W.mg_none_of X G H.n_sorted, PySem.W.mg_none_of X G H.n_set, PySem.W.mg_none_of X G H.n_range, PySem.W.mg_none_of X G H.n_int, PySem.W.mg_none_of X G H.n_min, PySem.W.mg_none_of X G H.n_repr⟩
  have c : Cons K mg := by
    obtain ⟨t1, h1⟩ := H.k_LETTERS; obtain ⟨t2, h2⟩ := H.k_FIGURES; obtain ⟨t3, h3⟩ := H.k_MOST_IN_NAME; obtain ⟨t4, h4⟩ := H.k_MOST_OPTIONS; obtain ⟨t5, h5⟩ := H.k_MOST_PLACES; obtain ⟨t6, h6⟩ := H.k_SHORT
    exact ⟨⟨t1, PySem.W.mg_of X G h1⟩, ⟨t2, PySem.W.mg_of X G h2⟩, ⟨t3, PySem.W.mg_of X G h3⟩, H.k_KINDS.get X G, H.k_ARITIES.get X G, ⟨t4, PySem.W.mg_of X G h4⟩, ⟨t5, PySem.W.mg_of X G h5⟩, ⟨t6, PySem.W.mg_of X G h6⟩⟩
  have er : ErrC K mg Cb Ck fI := ⟨PySem.W.mg_of X G H.bad.aB, PySem.W.mg_of X G H.bad.aK, H.bad.T, ⟨H.bad.rd, H.bad.gaK⟩, H.bad.vV, H.bad.noP, H.bad.iC, H.bad.tI⟩
  have nt : ∀ {nm : Str}, NotF K nm Cb → ∃ C, mg nm = some (.ref C) ∧ PySem.W.kitOne K (.ref Cb) (.ref C) = some false := fun ⟨C, h1, h2⟩ => ⟨C, PySem.W.mg_of X G h1, h2⟩
  have kk : PySem.W.kitOne K (.ref Cb) (.ref Ck) = some true := kit_false H.bad.kN H.bad.kI H.bad.kT H.bad.kS
  have SC : SaidC K mg Cb Ck :=
    { ex := ⟨H.bad.ga, H.bad.gg, H.bad.T.exC, H.bad.hd, H.bad.ha, H.bad.hn, H.bad.ht, H.bad.hm⟩, xf := ⟨H.bad.ga, H.bad.gg, H.bad.T.exC, H.bad.hd⟩, noP := H.bad.noP, gK := er.gK, gB := er.gB, ek := exm_of H.bad.kE kk H.bad.kN, kB := kit_self, ln := nt H.x_BadLine, fm := nt H.x_BadForm, tx := nt H.x_BadText, mn := nt H.x_BadMeaning, qu := nt H.x_BadQuestion }
  have SD : SaidD K mg Cb Ck := by
    obtain ⟨g, fg, hg, hm⟩ := H.d_law_said.get X G
    exact ⟨SC, g, fg, hg, hm, hg.binds be_law_said⟩
  obtain ⟨ocI, odI, anI, oslI, kVI, docI, pmI, cdvI, ctI, lI, cI, kpI⟩ := H.bad.xI
  have FI := fun_mk (st := s_init) lI cI kpI
  have Gi := ok_init (P := P) (w := w) (base := base) FI er
  have bI := FI.binds be_init
  have hu1 : ∀ q ∈ ([(P1, lq "_law_more_right"), (P2, lq "_law_refused_right")] : List (Addr × Str)), q.1 = P1 → q.2 = lq "_law_more_right" := fun q hq e => by
    rcases List.mem_cons.mp hq with h | h
    · rw [h]
    · rw [List.mem_singleton.mp h] at e; exact absurd e.symm hne
  have hu2 : ∀ q ∈ ([(P1, lq "_law_more_right"), (P2, lq "_law_refused_right")] : List (Addr × Str)), q.1 = P2 → q.2 = lq "_law_refused_right" := fun q hq e => by
    rcases List.mem_cons.mp hq with h | h
    · rw [h] at e; exact absurd e hne
    · rw [List.mem_singleton.mp h]
  have D_is_of := mk_d (P := P) (w := w) (K := K) (base := base) (ps := ["thing", "signs", "least", "most"]) (Rl := R_is_of) H.d_is_of X G sc_is_of be_is_of (fun xs z h => by
    obtain ⟨_, _, _, _, rfl, _⟩ := h
    rfl) (b_is_of m)
  have D_is_name := mk_d (P := P) (w := w) (K := K) (base := base) (ps := ["thing"]) (Rl := R_is_name) H.d_is_name X G sc_is_name be_is_name (fun xs z h => by
    obtain ⟨_, rfl, _⟩ := h
    rfl) (b_is_name m c D_is_of)
  have D_is_letter := mk_d (P := P) (w := w) (K := K) (base := base) (ps := ["thing"]) (Rl := R_is_letter) H.d_is_letter X G sc_is_letter be_is_letter (fun xs z h => by
    obtain ⟨_, rfl, _⟩ := h
    rfl) (b_is_letter m c)
  have D_is_option := mk_d (P := P) (w := w) (K := K) (base := base) (ps := ["thing"]) (Rl := R_is_option) H.d_is_option X G sc_is_option be_is_option (fun xs z h => by
    obtain ⟨_, rfl, _⟩ := h
    rfl) (b_is_option m c D_is_name D_is_letter)
  have D_is_place := mk_d (P := P) (w := w) (K := K) (base := base) (ps := ["thing"]) (Rl := R_is_place) H.d_is_place X G sc_is_place be_is_place (fun xs z h => by
    obtain ⟨_, rfl, _⟩ := h
    rfl) (b_is_place m c D_is_name)
  have D_option_fault := mk_d (P := P) (w := w) (K := K) (base := base) (ps := ["options"]) (Rl := R_option_fault) H.d_option_fault X G sc_option_fault be_option_fault (fun xs z h => by
    obtain ⟨_, rfl, _⟩ := h
    rfl) (b_option_fault m c D_is_option)
  have D_place_fault := mk_d (P := P) (w := w) (K := K) (base := base) (ps := ["places"]) (Rl := R_place_fault) H.d_place_fault X G sc_place_fault be_place_fault (fun xs z h => by
    obtain ⟨_, rfl, _⟩ := h
    rfl) (b_place_fault m c D_is_place)
  have D_fault := mk_d (P := P) (w := w) (K := K) (base := base) (ps := ["thing"]) (Rl := R_fault) H.d_fault X G sc_fault be_fault (fun xs z h => by
    obtain ⟨_, rfl, _⟩ := h
    rfl) (b_fault m D_option_fault D_place_fault)
  have D_need_grammar := mk_e (P := P) (w := w) (K := K) (base := base) (Cb := Cb) (ps := ["thing"]) (Rl := R_need) H.d_need_grammar X G sc_need_grammar be_need_grammar (fun xs z b h => by
    obtain ⟨_, rfl, _⟩ := h
    rfl) (b_need_grammar er Gi bI D_fault)
  have D_option_told := mk_d (P := P) (w := w) (K := K) (base := base) (ps := ["grammar", "text"]) (Rl := R_option_told) H.d_option_told X G sc_option_told be_option_told (fun xs z h => by
    obtain ⟨_, _, _, _, _, _, _, rfl, _⟩ := h
    rfl) (b_option_told m c)
  have D_tellings_of := mk_e (P := P) (w := w) (K := K) (base := base) (Cb := Cb) (ps := ["grammar"]) (Rl := R_tellings_of) H.d_tellings_of X G sc_tellings_of be_tellings_of (fun xs z b h => by
    obtain ⟨_, _, _, _, _, _, rfl, _⟩ := h
    rfl) (b_tellings_of m D_option_told)
  have D_tellings := mk_e (P := P) (w := w) (K := K) (base := base) (Cb := Cb) (ps := ["grammar"]) (Rl := R_tellings) H.d_tellings X G sc_tellings be_tellings (fun xs z b h => by
    obtain ⟨_, rfl, _⟩ := h
    rfl) (b_tellings D_tellings_of D_need_grammar)
  have D_numbers_of := mk_d (P := P) (w := w) (K := K) (base := base) (ps := ["grammar"]) (Rl := R_numbers_of) H.d_numbers_of X G sc_numbers_of be_numbers_of (fun xs z h => by
    obtain ⟨_, _, _, _, _, _, rfl, _⟩ := h
    rfl) (b_numbers_of m)
  have D_numbers := mk_e (P := P) (w := w) (K := K) (base := base) (Cb := Cb) (ps := ["grammar"]) (Rl := R_numbers) H.d_numbers X G sc_numbers be_numbers (fun xs z b h => by
    obtain ⟨_, rfl, _⟩ := h
    rfl) (b_numbers D_numbers_of D_need_grammar)
  have D_with_options := mk_e (P := P) (w := w) (K := K) (base := base) (Cb := Cb) (ps := ["grammar", "options"]) (Rl := R_with) H.d_with_options X G sc_with_options be_with_options (fun xs z b h => by
    obtain ⟨_, _, rfl, _⟩ := h
    rfl) (b_with_options D_need_grammar)
  have D_law_mixed := mk_d (P := P) (w := w) (K := K) (base := base) (ps := ["cell", "k"]) (Rl := R_mixed) H.d_law_mixed X G sc_law_mixed be_law_mixed (fun xs z h => by
    obtain ⟨_, _, rfl, _⟩ := h
    rfl) (b_mixed m)
  have D_law_draw := mk_s (P := P) (w := w) (K := K) (base := base) (ps := ["state", "many"]) (Rl := R_draw) H.d_law_draw X G sc_law_draw (List.cons_ne_nil _ _) be_law_draw (fun p xs c z h => by
    obtain ⟨_, rfl, _⟩ := h
    rfl) (b_law_draw m D_law_mixed)
  have D_law_of := mk_s (P := P) (w := w) (K := K) (base := base) (ps := ["state", "some"]) (Rl := R_of) H.d_law_of X G sc_law_of (List.cons_ne_nil _ _) be_law_of (fun p xs c z h => by
    obtain ⟨_, rfl, _⟩ := h
    rfl) (b_law_of m D_law_draw)
  have D_law_option_name := mk_s (P := P) (w := w) (K := K) (base := base) (ps := ["state"]) (Rl := R_option_name) H.d_law_option_name X G sc_law_option_name (List.cons_ne_nil _ _) be_law_option_name (fun p xs c z h => by
    obtain ⟨rfl, _⟩ := h
    rfl) (b_law_option_name m D_law_draw)
  have D_law_letter := mk_s (P := P) (w := w) (K := K) (base := base) (ps := ["state"]) (Rl := R_letter) H.d_law_letter X G sc_law_letter (List.cons_ne_nil _ _) be_law_letter (fun p xs c z h => by
    obtain ⟨rfl, _⟩ := h
    rfl) (b_law_letter m D_law_draw)
  have D_law_more := mk_s (P := P) (w := w) (K := K) (base := base) (ps := ["state", "options", "many"]) (Rl := R_more) H.d_law_more X G sc_law_more (List.cons_ne_nil _ _) be_law_more (fun p xs c z h => by
    obtain ⟨_, rfl, _⟩ := h
    rfl) (b_law_more m D_law_draw D_law_option_name D_law_letter)
  have D_law_places := mk_s (P := P) (w := w) (K := K) (base := base) (ps := ["state"]) (Rl := R_places) H.d_law_places X G sc_law_places (List.cons_ne_nil _ _) be_law_places (fun p xs c z h => by
    obtain ⟨rfl, _⟩ := h
    rfl) (b_law_places m D_law_draw)
  have D_law_grammar := mk_s (P := P) (w := w) (K := K) (base := base) (ps := ["state", "most"]) (Rl := R_grammar) H.d_law_grammar X G sc_law_grammar (List.cons_ne_nil _ _) be_law_grammar (fun p xs c z h => by
    obtain ⟨rfl, _⟩ := h
    rfl) (b_law_grammar m D_law_draw D_law_more D_law_places)
  have D_law_is_of := mk_d (P := P) (w := w) (K := K) (base := base) (ps := ["thing", "signs", "low", "high"]) (Rl := R_is_of) H.d_law_is_of X G sc_law_is_of be_law_is_of (fun xs z h => by
    obtain ⟨_, _, _, _, rfl, _⟩ := h
    rfl) (b_lis_of m)
  have D_law_is_name := mk_d (P := P) (w := w) (K := K) (base := base) (ps := ["thing"]) (Rl := R_is_name) H.d_law_is_name X G sc_law_is_name be_law_is_name (fun xs z h => by
    obtain ⟨_, rfl, _⟩ := h
    rfl) (b_lis_name D_law_is_of)
  have D_law_is_option := mk_d (P := P) (w := w) (K := K) (base := base) (ps := ["thing"]) (Rl := R_is_option) H.d_law_is_option X G sc_law_is_option be_law_is_option (fun xs z h => by
    obtain ⟨_, rfl, _⟩ := h
    rfl) (b_lis_option m D_law_is_of D_law_is_name)
  have D_law_is_place := mk_d (P := P) (w := w) (K := K) (base := base) (ps := ["thing"]) (Rl := R_is_place) H.d_law_is_place X G sc_law_is_place be_law_is_place (fun xs z h => by
    obtain ⟨_, rfl, _⟩ := h
    rfl) (b_lis_place m D_law_is_name)
  have D_law_first := mk_d (P := P) (w := w) (K := K) (base := base) (ps := ["word", "things", "most"]) (Rl := R_law_first) H.d_law_first X G sc_law_first be_law_first (fun xs z h => by
    obtain ⟨_, _, _, _, rfl, _⟩ := h
    rfl) (b_law_first m D_law_is_option D_law_is_place)
  have D_law_fault := mk_d (P := P) (w := w) (K := K) (base := base) (ps := ["thing"]) (Rl := R_fault) H.d_law_fault X G sc_law_fault be_law_fault (fun xs z h => by
    obtain ⟨_, rfl, _⟩ := h
    rfl) (b_law_fault m D_law_first)
  have D_law_tells := mk_d (P := P) (w := w) (K := K) (base := base) (ps := ["grammar", "text"]) (Rl := R_law_tells) H.d_law_tells X G sc_law_tells be_law_tells (fun xs z h => by
    obtain ⟨_, _, _, _, _, _, _, rfl, _⟩ := h
    rfl) (b_law_tells m)
  have D_law_tellings := mk_d (P := P) (w := w) (K := K) (base := base) (ps := ["grammar"]) (Rl := R_law_tellings) H.d_law_tellings X G sc_law_tellings be_law_tellings (fun xs z h => by
    obtain ⟨_, _, _, _, _, _, rfl, _⟩ := h
    rfl) (b_law_tellings m D_law_tells)
  have D_law_takes := mk_d (P := P) (w := w) (K := K) (base := base) (ps := ["places", "many"]) (Rl := R_law_takes) H.d_law_takes X G sc_law_takes be_law_takes (fun xs z h => by
    obtain ⟨_, _, rfl, _⟩ := h
    rfl) (b_law_takes m)
  have D_law_numbers_right := mk_d (P := P) (w := w) (K := K) (base := base) (ps := ["grammar"]) (Rl := R_numbers_right) H.d_law_numbers_right X G sc_law_numbers_right be_law_numbers_right (fun xs z h => by
    obtain ⟨_, _, _, _, _, _, rfl, _⟩ := h
    rfl) (b_numbers_right m D_numbers D_law_takes)
  have D_law_full_right := mk_g (P := P) (w := w) (K := K) (base := base) (ps := []) (Rl := R_full_right) H.d_law_full_right X G sc_law_full_right (List.cons_ne_nil _ _) be_law_full_right (fun p xs c z h => by
    obtain ⟨rfl, _⟩ := h
    rfl) (b_full_right m D_tellings D_law_tellings)
  have D_law_more_right := mk_c (P := P) (w := w) (K := K) (base := base) (ps := ["state", "grammar"]) (Rl := (R_more_right [(P1, lq "_law_more_right"), (P2, lq "_law_refused_right")])) H.d_law_more_right X G sc_law_more_right (List.cons_ne_nil _ _) be_law_more_right (fun p xs c z h => by
    obtain ⟨_, _, _, _, _, _, rfl, _⟩ := h
    rfl) (b_more_right m SD TB1 List.mem_cons_self hu1 D_law_draw D_law_of D_law_more D_law_fault D_with_options)
  have D_law_refused_right := mk_c (P := P) (w := w) (K := K) (base := base) (ps := ["grammar"]) (Rl := (R_refused_right [(P1, lq "_law_more_right"), (P2, lq "_law_refused_right")])) H.d_law_refused_right X G sc_law_refused_right (List.cons_ne_nil _ _) be_law_refused_right (fun p xs c z h => by
    obtain ⟨_, _, _, _, _, _, rfl, _⟩ := h
    rfl) (b_refused_right m SD TB2 (List.mem_cons_of_mem _ List.mem_cons_self) hu2 D_tellings D_numbers D_with_options)
  have Db : Def P w K mg base "_law_begin" 2 ["script"] (spB K) := by
    obtain ⟨g, fg, hg, hm⟩ := H.d_law_begin.get X G
    exact ⟨g, fg, ok_begin m hg, hm, hg.kp, hg.binds be_law_begin⟩
  exact ok_law m ⟨D_law_grammar, D_law_tellings, D_tellings, D_law_numbers_right, D_numbers, D_law_more_right, D_law_refused_right, D_law_full_right⟩ Db F

theorem law_F {P : Program} {w : World} {K : PySem.W.Frag} {mg : Str → Option Value} {h : Heap} {Cb Ck fI c1 c2 P1 P2 fa : Addr} (X : K.In h) (G : h.Ns mainGlobals mg) (hmg : mg "law" = some (.ref fa)) (hne : P1 ≠ P2) (dl : DefF K "law" s_law) (H : Facts K Cb Ck fI c1 c2) :
    ∃ fd : FuncData, (∀ (s : Shared) (u : Value), BindsTo s fd ⟨[u], []⟩ [("script", u)]) ∧ ∀ base : Heap, K.In base → base.Ns mainGlobals mg → (∀ p ∈ [(c1, P1), (c2, P2)], TabB base mg p.1 p.2) → FnG P w K mg base 11 fa fd ["script"] (spL K [(P1, lq "_law_more_right"), (P2, lq "_law_refused_right")]) := by
  obtain ⟨f, fd, F, hm⟩ := dl.get X G
  have e := hmg.symm.trans hm
  cases e
  refine ⟨fd, ?_, fun base X2 G2 TB => law_all X2 G2 H (TB (c1, P1) List.mem_cons_self) (TB (c2, P2) (List.mem_cons_of_mem _ List.mem_cons_self)) hne F⟩
  obtain ⟨oc, od, kV, doc, pm, an, cdv, ct, osl, rfl, _⟩ := F.ex
  exact fun s u => .of_eq (be_law _ _ _ _ _ _ [u] rfl)
/-! ### the walk -/
theorem walk_ds {l : PySem.W.OpenLaw} {n k : Nat} {q : Program} {loose : List Str} {XP : (Str → Option Value) → Heap → Prop} {YP : World → Heap → Prop} {d : DefRec} {K : Params → PySem.W.Frag} {x : Str} {cs : List (Addr × Addr)} {sp : World → Sp}
    (hn : l.most = some n) (hn2 : n ≤ sizeLine) (hdf : d.params.defaults = []) (hr : RoomG k callerA) (hY : ∀ (w : World) (h : Heap), YP w h → (K w.params).In h ∧ ∀ p ∈ cs, h.get? p.2 = some obT)
    (nT : ∀ w : World, ∀ p ∈ cs, (K w.params).lookup p.2 = none) (hC : ∀ (w : World) (h : Heap), (K w.params).In h → ∀ p ∈ cs, PySem.W.CodeHd h p.1 p.2)
    (F : ∀ (w : World) (mg : Str → Option Value) (fa : Addr) (h : Heap), (K w.params).In h → h.Ns mainGlobals mg → mg d.name = some (.ref fa) →
      ∃ fd : FuncData, (∀ (s : Shared) (u : Value), BindsTo s fd ⟨[u], []⟩ [(x, u)]) ∧ ∀ base : Heap, (K w.params).In base → base.Ns mainGlobals mg → (∀ p ∈ cs, TabB base mg p.1 p.2) → FnG l.prog w (K w.params) mg base k fa fd [x] (sp w))
    (hsp : ∀ (w : World) (H : Hp) (a : Addr) (ns : List Int), ns.length ≤ n → (∀ p ∈ cs, H p.2 = some (.tbl #[])) → SqL (K w.params) H a (ns.map V.int) → sp w [.ref a] H (fun v _ => v = .bl true) fun _ _ _ => False) :
    PySem.W.WalkO q loose XP YP l.row.toRowW d [] (fun f vs => PySem.call f vs) := by
  refine Att.attach_callB hn hdf fun w s₀ s₁ mg mb fa o pm cd doc a vs ns G Y ho hd hcd hmg hobj hints hlen hbits hg => ?_
  obtain ⟨KX, hT⟩ := hY w _ Y
  obtain ⟨fd, hb, hF⟩ := F w mg fa _ KX G.T.g hmg
  exact end_call KX G.T hg hT (nT w) (hC w _ KX) hobj hints (Nat.le_trans hlen hn2) hr hF hb (fun H hH hS => hsp w H a ns hlen hH hS)
/-- what the law is asked, of a script -/
theorem spL_of {K : PySem.W.Frag} {H : Hp} {a P1 P2 : Addr} {ns : List Int} (hl : ns.length ≤ 63) (h1 : H P1 = some (.tbl #[])) (h2 : H P2 = some (.tbl #[])) (hS : SqL K H a (ns.map V.int)) {E : XK} : spL K [(P1, lq "_law_more_right"), (P2, lq "_law_refused_right")] [.ref a] H (fun v _ => v = .bl true) E := by
  have tt : ∀ {P0 : Addr} {q : Str}, H P0 = some (.tbl #[]) → TabS H P0 q := fun h => ⟨#[], h, trivial, fun pos cv z => by cases (show (none : Option Value) = some cv from z)⟩
  have ii : ∀ (F : Hp) (ns : List Int), DpAll K F (ns.map V.int) (iD ns) := fun F ns => by
    induction ns with
    | nil => exact .nil
    | cons x r ih => exact .cons (.int x) ih
  refine ⟨fun b => if b = P1 ∨ b = P2 then none else H b, ns, .ref a, rfl, .lst ?_ (ii _ ns), hl, fun b o e => ?_, fun q hq => ?_, fun q hq => ?_, fun H' => rfl⟩
  · have key : ∀ b o, H b = some o → (∀ ps, o ≠ .tbl ps) → (if b = P1 ∨ b = P2 then none else H b) = some o := fun b o e hn => by
      by_cases z : b = P1 ∨ b = P2
      · rcases z with z | z
        · rw [z, h1] at e; exact absurd (Option.some.inj e).symm (hn _)
        · rw [z, h2] at e; exact absurd (Option.some.inj e).symm (hn _)
      · rw [if_neg z]; exact e
    rcases hS with (h | ⟨o, h⟩) | h
    · exact .inl (.inl (key _ _ h fun ps z => nomatch z))
    · exact .inl (.inr ⟨o, key _ _ h fun ps z => nomatch z⟩)
    · exact .inr h
  · have e : (if b = P1 ∨ b = P2 then none else H b) = some o := e
    by_cases z : b = P1 ∨ b = P2
    · rw [if_pos z] at e; cases e
    · rw [if_neg z] at e; exact e
  · rcases List.mem_cons.mp hq with h | h
    · rw [h]; exact tt h1
    · rw [List.mem_singleton.mp h]; exact tt h2
  · rcases List.mem_cons.mp hq with h | h
    · rw [h]; exact if_pos (.inl rfl)
    · rw [List.mem_singleton.mp h]; exact if_pos (.inr rfl)

end KZ
end
set_option Elab.async false
set_option linter.all false
set_option maxRecDepth 100000
open PySem PySem.W PyProof.Rows
set_option maxHeartbeats 0 in
theorem PySem.Challenge.cw_keptlines_k18_whole_tellings_and_numbers_holds : PySem.Challenge.rw_keptlines_k18_whole_tellings_and_numbers.Holds := by
  w_on; o_law; k_head; (case hw => w_witness2)
  k_fill
  refine KZ.walk_ds (l := PySem.Challenge.rw_keptlines_k18_whole_tellings_and_numbers) (n := 63) (k := 11) (x := "script") (cs := [(353, 351), (360, 356)]) (sp := fun w => KS.spL _ [(351, KS.lq "_law_more_right"), (356, KS.lq "_law_refused_right")]) rfl (by decide) rfl ⟨⟨rfl, by decide, by decide⟩, rfl⟩ (fun w h Y => ⟨PySem.W.km_in_of Y, List.forall_mem_cons.mpr ⟨PySem.W.km_tabs_of Y 351 (by decide), List.forall_mem_cons.mpr ⟨PySem.W.km_tabs_of Y 356 (by decide), fun _ z => nomatch z⟩⟩⟩) ?zN ?zC ?zF (fun w H a ns hl hT hS => KZ.spL_of hl (hT (353, 351) List.mem_cons_self) (hT (360, 356) (List.mem_cons_of_mem _ List.mem_cons_self)) hS)
  case zN => exact fun w => List.forall_mem_cons.mpr ⟨by kernel_rfl, List.forall_mem_cons.mpr ⟨by kernel_rfl, fun _ z => nomatch z⟩⟩
  case zC => exact fun w h X => List.forall_mem_cons.mpr ⟨PySem.W.codeHd_of_K (c := 353) (P := 351) X (by kernel_rfl), List.forall_mem_cons.mpr ⟨PySem.W.codeHd_of_K (c := 360) (P := 356) X (by kernel_rfl), fun _ z => nomatch z⟩⟩
  case zF =>
    intro w mg fa h KX G hmg
    refine' KZ.law_F (Cb := 44) (Ck := 24) (fI := 41) (c1 := 353) (c2 := 360) KX G hmg (by decide) ?dl (KZ.Facts.mk ?d_is_of ?d_is_name ?d_is_letter ?d_is_option ?d_is_place ?d_option_fault ?d_place_fault ?d_fault ?d_need_grammar ?d_option_told ?d_tellings_of ?d_tellings ?d_numbers_of ?d_numbers ?d_with_options ?d_law_mixed ?d_law_draw ?d_law_of ?d_law_option_name ?d_law_letter ?d_law_more ?d_law_places ?d_law_grammar ?d_law_is_of ?d_law_is_name ?d_law_is_option ?d_law_is_place ?d_law_first ?d_law_fault ?d_law_tells ?d_law_tellings ?d_law_takes ?d_law_numbers_right ?d_law_full_right ?d_law_more_right ?d_law_refused_right ?d_law_begin ?d_law_said ?n_isinstance ?n_str ?n_len ?n_all ?n_tuple ?n_bool ?n_enumerate ?n_list ?n_sorted ?n_set ?n_range ?n_int ?n_min ?n_repr ?k_LETTERS ?k_FIGURES ?k_MOST_IN_NAME ?k_KINDS ?k_ARITIES ?k_MOST_OPTIONS ?k_MOST_PLACES ?k_SHORT ?x_BadLine ?x_BadForm ?x_BadText ?x_BadMeaning ?x_BadQuestion ?bad)
    (case dl => refine' KZ.DefF.mk' ?a ?l ?c ?k; (case a => k_is); (case l => k_is); (case c => k_is); (case k => k_is))
    (case d_is_of => refine' KZ.DefF.mk' ?a ?l ?c ?k; (case a => k_is); (case l => k_is); (case c => k_is); (case k => k_is))
    (case d_is_name => refine' KZ.DefF.mk' ?a ?l ?c ?k; (case a => k_is); (case l => k_is); (case c => k_is); (case k => k_is))
    (case d_is_letter => refine' KZ.DefF.mk' ?a ?l ?c ?k; (case a => k_is); (case l => k_is); (case c => k_is); (case k => k_is))
    (case d_is_option => refine' KZ.DefF.mk' ?a ?l ?c ?k; (case a => k_is); (case l => k_is); (case c => k_is); (case k => k_is))
    (case d_is_place => refine' KZ.DefF.mk' ?a ?l ?c ?k; (case a => k_is); (case l => k_is); (case c => k_is); (case k => k_is))
    (case d_option_fault => refine' KZ.DefF.mk' ?a ?l ?c ?k; (case a => k_is); (case l => k_is); (case c => k_is); (case k => k_is))
    (case d_place_fault => refine' KZ.DefF.mk' ?a ?l ?c ?k; (case a => k_is); (case l => k_is); (case c => k_is); (case k => k_is))
    (case d_fault => refine' KZ.DefF.mk' ?a ?l ?c ?k; (case a => k_is); (case l => k_is); (case c => k_is); (case k => k_is))
    (case d_need_grammar => refine' KZ.DefF.mk' ?a ?l ?c ?k; (case a => k_is); (case l => k_is); (case c => k_is); (case k => k_is))
    (case d_option_told => refine' KZ.DefF.mk' ?a ?l ?c ?k; (case a => k_is); (case l => k_is); (case c => k_is); (case k => k_is))
    (case d_tellings_of => refine' KZ.DefF.mk' ?a ?l ?c ?k; (case a => k_is); (case l => k_is); (case c => k_is); (case k => k_is))
    (case d_tellings => refine' KZ.DefF.mk' ?a ?l ?c ?k; (case a => k_is); (case l => k_is); (case c => k_is); (case k => k_is))
    (case d_numbers_of => refine' KZ.DefF.mk' ?a ?l ?c ?k; (case a => k_is); (case l => k_is); (case c => k_is); (case k => k_is))
    (case d_numbers => refine' KZ.DefF.mk' ?a ?l ?c ?k; (case a => k_is); (case l => k_is); (case c => k_is); (case k => k_is))
    (case d_with_options => refine' KZ.DefF.mk' ?a ?l ?c ?k; (case a => k_is); (case l => k_is); (case c => k_is); (case k => k_is))
    (case d_law_mixed => refine' KZ.DefF.mk' ?a ?l ?c ?k; (case a => k_is); (case l => k_is); (case c => k_is); (case k => k_is))
    (case d_law_draw => refine' KZ.DefF.mk' ?a ?l ?c ?k; (case a => k_is); (case l => k_is); (case c => k_is); (case k => k_is))
    (case d_law_of => refine' KZ.DefF.mk' ?a ?l ?c ?k; (case a => k_is); (case l => k_is); (case c => k_is); (case k => k_is))
    (case d_law_option_name => refine' KZ.DefF.mk' ?a ?l ?c ?k; (case a => k_is); (case l => k_is); (case c => k_is); (case k => k_is))
    (case d_law_letter => refine' KZ.DefF.mk' ?a ?l ?c ?k; (case a => k_is); (case l => k_is); (case c => k_is); (case k => k_is))
    (case d_law_more => refine' KZ.DefF.mk' ?a ?l ?c ?k; (case a => k_is); (case l => k_is); (case c => k_is); (case k => k_is))
    (case d_law_places => refine' KZ.DefF.mk' ?a ?l ?c ?k; (case a => k_is); (case l => k_is); (case c => k_is); (case k => k_is))
    (case d_law_grammar => refine' KZ.DefF.mk' ?a ?l ?c ?k; (case a => k_is); (case l => k_is); (case c => k_is); (case k => k_is))
    (case d_law_is_of => refine' KZ.DefF.mk' ?a ?l ?c ?k; (case a => k_is); (case l => k_is); (case c => k_is); (case k => k_is))
    (case d_law_is_name => refine' KZ.DefF.mk' ?a ?l ?c ?k; (case a => k_is); (case l => k_is); (case c => k_is); (case k => k_is))
    (case d_law_is_option => refine' KZ.DefF.mk' ?a ?l ?c ?k; (case a => k_is); (case l => k_is); (case c => k_is); (case k => k_is))
    (case d_law_is_place => refine' KZ.DefF.mk' ?a ?l ?c ?k; (case a => k_is); (case l => k_is); (case c => k_is); (case k => k_is))
    (case d_law_first => refine' KZ.DefF.mk' ?a ?l ?c ?k; (case a => k_is); (case l => k_is); (case c => k_is); (case k => k_is))
    (case d_law_fault => refine' KZ.DefF.mk' ?a ?l ?c ?k; (case a => k_is); (case l => k_is); (case c => k_is); (case k => k_is))
    (case d_law_tells => refine' KZ.DefF.mk' ?a ?l ?c ?k; (case a => k_is); (case l => k_is); (case c => k_is); (case k => k_is))
    (case d_law_tellings => refine' KZ.DefF.mk' ?a ?l ?c ?k; (case a => k_is); (case l => k_is); (case c => k_is); (case k => k_is))
    (case d_law_takes => refine' KZ.DefF.mk' ?a ?l ?c ?k; (case a => k_is); (case l => k_is); (case c => k_is); (case k => k_is))
    (case d_law_numbers_right => refine' KZ.DefF.mk' ?a ?l ?c ?k; (case a => k_is); (case l => k_is); (case c => k_is); (case k => k_is))
    (case d_law_full_right => refine' KZ.DefF.mk' ?a ?l ?c ?k; (case a => k_is); (case l => k_is); (case c => k_is); (case k => k_is))
    (case d_law_more_right => refine' KZ.DefC.mk' ?a ?l ?c ?k; (case a => k_is); (case l => k_is); (case c => k_is); (case k => k_is))
    (case d_law_refused_right => refine' KZ.DefC.mk' ?a ?l ?c ?k; (case a => k_is); (case l => k_is); (case c => k_is); (case k => k_is))
    (case d_law_begin => refine' KZ.DefF.mk' ?a ?l ?c ?k; (case a => k_is); (case l => k_is); (case c => k_is); (case k => k_is))
    (case d_law_said => refine' KZ.DefF.mk' ?a ?l ?c ?k; (case a => k_is); (case l => k_is); (case c => k_is); (case k => k_is))
    (case n_isinstance => k_is)
    (case n_str => k_is)
    (case n_len => k_is)
    (case n_all => k_is)
    (case n_tuple => k_is)
    (case n_bool => k_is)
    (case n_enumerate => k_is)
    (case n_list => k_is)
    (case n_sorted => k_is)
    (case n_set => k_is)
    (case n_range => k_is)
    (case n_int => k_is)
    (case n_min => k_is)
    (case n_repr => k_is)
    (case k_LETTERS => refine' KZ.StrF.mk' ?h ?e; (case h => k_is); (case e => kernel_rfl))
    (case k_FIGURES => refine' KZ.StrF.mk' ?h ?e; (case h => k_is); (case e => kernel_rfl))
    (case k_MOST_IN_NAME => refine' KZ.IntF.mk' ?h ?e; (case h => k_is); (case e => kernel_rfl))
    (case k_KINDS => refine' KZ.TupF.mk' ?h1 ?h2 ?h3 ?h4; (case h1 => k_is); (case h2 => k_is); (case h3 => kernel_rfl); (case h4 => kernel_rfl))
    (case k_ARITIES => refine' KZ.TupF.mk' ?h1 ?h2 ?h3 ?h4; (case h1 => k_is); (case h2 => k_is); (case h3 => kernel_rfl); (case h4 => kernel_rfl))
    (case k_MOST_OPTIONS => refine' KZ.IntF.mk' ?h ?e; (case h => k_is); (case e => kernel_rfl))
    (case k_MOST_PLACES => refine' KZ.IntF.mk' ?h ?e; (case h => k_is); (case e => kernel_rfl))
    (case k_SHORT => refine' KZ.IntF.mk' ?h ?e; (case h => k_is); (case e => kernel_rfl))
    (case x_BadLine => refine' KZ.NotF.mk' ?a ?hi ?ht ?hs ?hn; (case a => k_is); (case hi => k_is); (case ht => k_is); (case hs => k_is); (case hn => kernel_rfl))
    (case x_BadForm => refine' KZ.NotF.mk' ?a ?hi ?ht ?hs ?hn; (case a => k_is); (case hi => k_is); (case ht => k_is); (case hs => k_is); (case hn => kernel_rfl))
    (case x_BadText => refine' KZ.NotF.mk' ?a ?hi ?ht ?hs ?hn; (case a => k_is); (case hi => k_is); (case ht => k_is); (case hs => k_is); (case hn => kernel_rfl))
    (case x_BadMeaning => refine' KZ.NotF.mk' ?a ?hi ?ht ?hs ?hn; (case a => k_is); (case hi => k_is); (case ht => k_is); (case hs => k_is); (case hn => kernel_rfl))
    (case x_BadQuestion => refine' KZ.NotF.mk' ?a ?hi ?ht ?hs ?hn; (case a => k_is); (case hi => k_is); (case ht => k_is); (case hs => k_is); (case hn => kernel_rfl))
    (case bad => refine' KZ.BadF.mk ?aB ?aK (KZ.OexC.mk' ?xc ?xr ?sa ?exC ?tyC ?kC) ?rd ?gaK ?vV ?noP ?iC ?tI (KZ.exI_mk ?xl ?xk ?xp) ?ga ?gg ?hd ?ha ?hn ?ht ?hm ?kI ?kT ?kS ?kE ?kN; (case aB => k_is); (case aK => k_is); (case xc => k_is); (case xr => kernel_rfl); (case sa => k_is); (case exC => k_is); (case tyC => k_is); (case kC => k_is); (case rd => k_is); (case gaK => k_is); (case vV => k_is); (case noP => k_is); (case iC => k_is); (case tI => k_is); (case xl => k_is); (case xk => k_is); (case xp => k_is); (case ga => k_is); (case gg => k_is); (case hd => k_is); (case ha => k_is); (case hn => k_is); (case ht => k_is); (case hm => k_is); (case kI => k_is); (case kT => k_is); (case kS => k_is); (case kE => k_is); (case kN => kernel_rfl))
