import PyProof.Rows.All
import Wide.All
import OpenK.AllK
import Wide.FinOn
import Open.SpecLaws
import KE.OsGo
import HandS.ForSpec
import HandS.Comp
import HandS.Iter
import HandS.Walk
import HandS.Dict
import HandS.Text
import HandS.Wide
import HandS.IsInst
import HandS.SortInts
import HandS.Strs
import HandS.More
import HandS.ExcInit
import HandS.ExcField
import PySem.Challenge.RW_fewpoints_s01_answers
import HandS.RaiseMore
import HandS.SetFor
set_option Elab.async false
set_option linter.all false
set_option maxRecDepth 100000
set_option maxHeartbeats 2000000
/-! Data: what a value stands for, apart from the addresses at which it lies; what is owned (a list that grows, an instance that changes) stands apart from what is shared and never changed. -/
namespace Dl
open PySem PySem.Spec PyProof.Rows L2

/-- what a value stands for -/
inductive D where
  | non | bl (b : Bool) | int (i : Int) | str (s : Str)
  | lst (ds : List D) | tup (ds : List D) | dct (kvs : List (Key × D)) | ins (C : Addr) (fs : List (Str × D)) | arr (ns : List Int)

mutual
inductive Rp (K : PySem.W.Frag) (I : Hp) : V → D → Prop
  | non : Rp K I .non .non
  | bl (b : Bool) : Rp K I (.bl b) (.bl b)
  | int (i : Int) : Rp K I (.int i) (.int i)
  | str (s : Str) : Rp K I (.str s) (.str s)
  | lst {a : Addr} {xs : List V} {ds : List D} : I a = some (.lst xs) → RpA K I xs ds → Rp K I (.ref a) (.lst ds)
  | tup {a : Addr} {xs : List V} {ds : List D} : SqT K I a xs → RpA K I xs ds → Rp K I (.ref a) (.tup ds)
  | dct {a : Addr} {kvs : List (Key × V)} {ds : List (Key × D)} : I a = some (.dK kvs) → RpK K I kvs ds → Rp K I (.ref a) (.dct ds)
  | ins {a C dx : Addr} {fv : List (Str × V)} {fs : List (Str × D)} : I a = some (.ins C dx fv) → RpF K I fv fs → Rp K I (.ref a) (.ins C fs)
  | arr {a : Addr} {ns : List Int} : SqL K I a (ns.map V.int) → Rp K I (.ref a) (.arr ns)
inductive RpA (K : PySem.W.Frag) (I : Hp) : List V → List D → Prop
  | nil : RpA K I [] []
  | cons {v : V} {vs : List V} {d : D} {ds : List D} : Rp K I v d → RpA K I vs ds → RpA K I (v :: vs) (d :: ds)
inductive RpK (K : PySem.W.Frag) (I : Hp) : List (Key × V) → List (Key × D) → Prop
  | nil : RpK K I [] []
  | cons {k : Key} {v : V} {vs : List (Key × V)} {d : D} {ds : List (Key × D)} : Rp K I v d → RpK K I vs ds → RpK K I ((k, v) :: vs) ((k, d) :: ds)
inductive RpF (K : PySem.W.Frag) (I : Hp) : List (Str × V) → List (Str × D) → Prop
  | nil : RpF K I [] []
  | cons {k : Str} {v : V} {vs : List (Str × V)} {d : D} {ds : List (Str × D)} : Rp K I v d → RpF K I vs ds → RpF K I ((k, v) :: vs) ((k, d) :: ds)
end

theorem same_sqT {K : PySem.W.Frag} {I J : Hp} {a : Addr} {xs : List V} (e : Same I J) (h : SqT K I a xs) : SqT K J a xs := by
  rcases h with (h | ⟨o, h⟩) | h
  · exact .inl (.inl (e _ _ h))
  · exact .inl (.inr ⟨o, e _ _ h⟩)
  · exact .inr h
theorem same_sqL {K : PySem.W.Frag} {I J : Hp} {a : Addr} {xs : List V} (e : Same I J) (h : SqL K I a xs) : SqL K J a xs := by
  rcases h with (h | ⟨o, h⟩) | h
  · exact .inl (.inl (e _ _ h))
  · exact .inl (.inr ⟨o, e _ _ h⟩)
  · exact .inr h
section
variable {K : PySem.W.Frag} {I J : Hp}
mutual
theorem Rp.mono (e : Same I J) : ∀ {v : V} {d : D}, Rp K I v d → Rp K J v d
  | _, _, .non => .non
  | _, _, .bl b => .bl b
  | _, _, .int i => .int i
  | _, _, .str s => .str s
  | _, _, .lst h r => .lst (e _ _ h) (RpA.mono e r)
  | _, _, .tup h r => .tup (same_sqT e h) (RpA.mono e r)
  | _, _, .dct h r => .dct (e _ _ h) (RpK.mono e r)
  | _, _, .ins h r => .ins (e _ _ h) (RpF.mono e r)
  | _, _, .arr h => .arr (same_sqL e h)
theorem RpA.mono (e : Same I J) : ∀ {v : List V} {d : List D}, RpA K I v d → RpA K J v d
  | _, _, .nil => .nil
  | _, _, .cons h r => .cons (Rp.mono e h) (RpA.mono e r)
theorem RpK.mono (e : Same I J) : ∀ {v : List (Key × V)} {d : List (Key × D)}, RpK K I v d → RpK K J v d
  | _, _, .nil => .nil
  | _, _, .cons h r => .cons (Rp.mono e h) (RpK.mono e r)
theorem RpF.mono (e : Same I J) : ∀ {v : List (Str × V)} {d : List (Str × D)}, RpF K I v d → RpF K J v d
  | _, _, .nil => .nil
  | _, _, .cons h r => .cons (Rp.mono e h) (RpF.mono e r)
end

/-! ### data without lists, dicts, instances: what a changing object can't stand in -/
mutual
inductive Fl : D → Prop
  | non : Fl .non
  | bl (b : Bool) : Fl (.bl b)
  | int (i : Int) : Fl (.int i)
  | str (s : Str) : Fl (.str s)
  | tup {ds : List D} : FlA ds → Fl (.tup ds)
inductive FlA : List D → Prop
  | nil : FlA []
  | cons {d : D} {ds : List D} : Fl d → FlA ds → FlA (d :: ds)
end
/-- I within J, and all tuples of J stand in I -/
structure Tups (I J : Hp) : Prop where
  tup : ∀ a xs, J a = some (.tup xs) → I a = some (.tup xs)
  frz : ∀ a o xs, J a = some (.frz o (.tup xs)) → I a = some (.frz o (.tup xs))
mutual
theorem Rp.flat (e : Tups I J) : ∀ {v : V} {d : D}, Fl d → Rp K J v d → Rp K I v d
  | _, _, _, .non => .non
  | _, _, _, .bl b => .bl b
  | _, _, _, .int i => .int i
  | _, _, _, .str s => .str s
  | _, _, f, .tup h r => by
    cases f with
    | tup f =>
      refine .tup ?_ (RpA.flat e f r)
      rcases h with (h | ⟨o, h⟩) | h
      · exact .inl (.inl (e.tup _ _ h))
      · exact .inl (.inr ⟨o, e.frz _ _ _ h⟩)
      · exact .inr h
  | _, _, f, .lst _ _ => nomatch f
  | _, _, f, .dct _ _ => nomatch f
  | _, _, f, .ins _ _ => nomatch f
  | _, _, f, .arr _ => nomatch f
theorem RpA.flat (e : Tups I J) : ∀ {v : List V} {d : List D}, FlA d → RpA K J v d → RpA K I v d
  | _, _, _, .nil => .nil
  | _, _, f, .cons h r => by
    cases f with
    | cons f g => exact .cons (Rp.flat e f h) (RpA.flat e g r)
end
theorem RpA.len : ∀ {vs : List V} {ds : List D}, RpA K I vs ds → vs.length = ds.length
  | _, _, .nil => rfl
  | _, _, .cons _ r => congrArg (· + 1) r.len
theorem RpA.get : ∀ {vs : List V} {ds : List D} {i : Nat} {d : D}, RpA K I vs ds → ds[i]? = some d → ∃ v, vs[i]? = some v ∧ Rp K I v d
  | _, _, _, _, .nil, e => by simp at e
  | _, _, 0, _, .cons h _, e => by simp at e; subst e; exact ⟨_, rfl, h⟩
  | _, _, i + 1, d, .cons _ r, e => by
    obtain ⟨v, h1, h2⟩ := RpA.get (i := i) (d := d) r (by simpa using e)
    exact ⟨v, by simpa using h1, h2⟩
theorem RpA.getV : ∀ {vs : List V} {ds : List D} {i : Nat} {v : V}, RpA K I vs ds → vs[i]? = some v → ∃ d, ds[i]? = some d ∧ Rp K I v d
  | _, _, _, _, .nil, e => by simp at e
  | _, _, 0, _, .cons h _, e => by simp at e; subst e; exact ⟨_, rfl, h⟩
  | _, _, i + 1, v, .cons _ r, e => by
    obtain ⟨d, h1, h2⟩ := RpA.getV (i := i) (v := v) r (by simpa using e)
    exact ⟨d, by simpa using h1, h2⟩
theorem RpA.append : ∀ {vs ws : List V} {ds es : List D}, RpA K I vs ds → RpA K I ws es → RpA K I (vs ++ ws) (ds ++ es)
  | _, _, _, _, .nil, s => s
  | _, _, _, _, .cons h r, s => .cons h (RpA.append r s)
theorem RpA.set {v : V} {d : D} (h : Rp K I v d) : ∀ {vs : List V} {ds : List D} (i : Nat), RpA K I vs ds → RpA K I (vs.set i v) (ds.set i d)
  | _, _, _, .nil => .nil
  | _, _, 0, .cons _ r => .cons h r
  | _, _, i + 1, .cons q r => .cons q (RpA.set h i r)
theorem RpA.take : ∀ {vs : List V} {ds : List D} (n : Nat), RpA K I vs ds → RpA K I (vs.take n) (ds.take n)
  | _, _, 0, _ => .nil
  | _, _, _ + 1, .nil => .nil
  | _, _, n + 1, .cons h r => .cons h (RpA.take n r)
theorem RpA.drop : ∀ {vs : List V} {ds : List D} (n : Nat), RpA K I vs ds → RpA K I (vs.drop n) (ds.drop n)
  | _, _, 0, r => r
  | _, _, _ + 1, .nil => .nil
  | _, _, n + 1, .cons _ r => RpA.drop n r
theorem RpA.rep {v : V} {d : D} (h : Rp K I v d) : ∀ n : Nat, RpA K I (List.replicate n v) (List.replicate n d)
  | 0 => .nil
  | n + 1 => .cons h (RpA.rep h n)
theorem RpF.get : ∀ {vs : List (Str × V)} {ds : List (Str × D)} {f : Str} {d : D}, RpF K I vs ds → ds.lookup f = some d → ∃ v, vs.lookup f = some v ∧ Rp K I v d
  | _, _, _, _, .nil, e => by cases e
  | _, _, f, d, .cons (k := k) h r, e => by
    by_cases hk : (f == k) = true
    · simp only [List.lookup, hk] at e ⊢
      cases e
      exact ⟨_, rfl, h⟩
    · simp only [List.lookup, Bool.eq_false_iff.mpr hk] at e ⊢
      exact RpF.get r e
theorem RpF.getN : ∀ {vs : List (Str × V)} {ds : List (Str × D)} {f : Str}, RpF K I vs ds → ds.lookup f = none → vs.lookup f = none
  | _, _, _, .nil, _ => rfl
  | _, _, f, .cons (k := k) h r, e => by
    by_cases hk : (f == k) = true
    · simp only [List.lookup, hk] at e
      cases e
    · simp only [List.lookup, Bool.eq_false_iff.mpr hk] at e ⊢
      exact RpF.getN r e
theorem RpF.len : ∀ {vs : List (Str × V)} {ds : List (Str × D)}, RpF K I vs ds → vs.length = ds.length
  | _, _, .nil => rfl
  | _, _, .cons _ r => congrArg (· + 1) r.len
def putD (f : Str) (d : D) : List (Str × D) → List (Str × D)
  | [] => [(f, d)]
  | (g, e) :: r => if g = f then (g, d) :: r else (g, e) :: putD f d r
theorem RpF.put {f : Str} {v : V} {d : D} (h : Rp K I v d) : ∀ {vs : List (Str × V)} {ds : List (Str × D)}, RpF K I vs ds → RpF K I (putF f v vs) (putD f d ds)
  | _, _, .nil => .cons h .nil
  | _, _, .cons (k := k) (v := w) (d := e) h' r => by
    unfold putF putD
    by_cases hk : k = f
    · rw [if_pos hk, if_pos hk]; exact .cons h r
    · rw [if_neg hk, if_neg hk]; exact .cons h' (RpF.put h r)
end

/-! ### owned objects, slots -/
inductive Ow where
  | lst (ds : List D) | dct (kvs : List (Key × D)) | ins (C : Addr) (fs : List (Str × D))
def Ow.d : Ow → D
  | .lst ds => .lst ds
  | .dct kvs => .dct kvs
  | .ins C fs => .ins C fs
def OwAt (K : PySem.W.Frag) (I H : Hp) (p : Addr) : Ow → Prop
  | .lst ds => ∃ vs, H p = some (.lst vs) ∧ RpA K I vs ds
  | .dct ds => ∃ vs, H p = some (.dK vs) ∧ RpK K I vs ds
  | .ins C fs => ∃ dx vs, H p = some (.ins C dx vs) ∧ RpF K I vs fs
theorem OwAt.there {K : PySem.W.Frag} {I H : Hp} {p : Addr} {o : Ow} (h : OwAt K I H p o) : ∃ u, H p = some u := by
  cases o with
  | lst ds => obtain ⟨vs, h, _⟩ := h; exact ⟨_, h⟩
  | dct ds => obtain ⟨vs, h, _⟩ := h; exact ⟨_, h⟩
  | ins C fs => obtain ⟨dx, vs, h, _⟩ := h; exact ⟨_, h⟩
theorem OwAt.mono {K : PySem.W.Frag} {I I' H H' : Hp} {p : Addr} {o : Ow} (e : Same I I') (eh : H' p = H p) (h : OwAt K I H p o) : OwAt K I' H' p o := by
  cases o with
  | lst ds => obtain ⟨vs, h, r⟩ := h; exact ⟨vs, eh.trans h, r.mono e⟩
  | dct ds => obtain ⟨vs, h, r⟩ := h; exact ⟨vs, eh.trans h, r.mono e⟩
  | ins C fs => obtain ⟨dx, vs, h, r⟩ := h; exact ⟨dx, vs, eh.trans h, r.mono e⟩

inductive Sl where
  | un | im (d : D) | own (p : Addr) (o : Ow)
def SlAt (K : PySem.W.Frag) (I H : Hp) (x : Option V) : Sl → Prop
  | .un => True
  | .im d => ∃ v, x = some v ∧ Rp K I v d
  | .own p o => x = some (.ref p) ∧ I p = none ∧ OwAt K I H p o
abbrev En := List Sl
def Own (Γ : En) (p : Addr) : Prop := ∃ (i : Nat) (o : Ow), Γ[i]? = some (.own p o)
structure At (K : PySem.W.Frag) (σ : L2.St) (I H : Hp) (Γ : En) : Prop where
  sub : Same I H
  len : σ.length = Γ.length
  sl : ∀ (i : Nat) (s : Sl), Γ[i]? = some s → ∃ x, σ[i]? = some x ∧ SlAt K I H x s
  nd : ∀ (i j : Nat) (p : Addr) (o o' : Ow), Γ[i]? = some (.own p o) → Γ[j]? = some (.own p o') → i = j
structure Stp (Γ : En) (I H : Hp) (Γ' : En) (I' H' : Hp) : Prop where
  same : ∀ b o, H b = some o → ¬ Own Γ b → H' b = some o
  sub : Same I I'
  fresh : ∀ b o, I' b = some o → I b = some o ∨ H b = none ∨ Own Γ b
  own : ∀ p, Own Γ' p → Own Γ p ∨ H p = none
theorem Stp.refl {Γ : En} {I H : Hp} : Stp Γ I H Γ I H := ⟨fun _ _ h _ => h, Same.refl I, fun _ _ h => .inl h, fun _ h => .inl h⟩
theorem Stp.trans {Γ Γ1 Γ2 : En} {I I1 I2 H H1 H2 : Hp} (a : Stp Γ I H Γ1 I1 H1) (b : Stp Γ1 I1 H1 Γ2 I2 H2) : Stp Γ I H Γ2 I2 H2 where
  same := fun x o h n => b.same x o (a.same x o h n) fun z => by
    rcases a.own x z with z | z
    · exact n z
    · rw [h] at z; cases z
  sub := a.sub.trans b.sub
  fresh := fun x o h => by
    rcases b.fresh x o h with h | h | h
    · exact a.fresh x o h
    · cases e : H x with
      | none => exact .inr (.inl rfl)
      | some u =>
        by_cases n : Own Γ x
        · exact .inr (.inr n)
        · rw [a.same x u e n] at h; cases h
    · rcases a.own x h with h | h
      · exact .inr (.inr h)
      · exact .inr (.inl h)
  own := fun x h => by
    rcases b.own x h with h | h
    · exact a.own x h
    · cases e : H x with
      | none => exact .inr rfl
      | some u =>
        by_cases n : Own Γ x
        · exact .inl n
        · rw [a.same x u e n] at h; cases h
/-- a step that changes nothing that was there -/
structure Grow (I H I' H' : Hp) : Prop where
  same : Same H H'
  sub : Same I I'
  view : Same I' H'
  fresh : ∀ b o, I' b = some o → I b = some o ∨ H b = none
theorem Grow.refl {I H : Hp} (e : Same I H) : Grow I H I H := ⟨Same.refl H, Same.refl I, e, fun _ _ h => .inl h⟩
theorem Grow.trans {I I1 I2 H H1 H2 : Hp} (a : Grow I H I1 H1) (b : Grow I1 H1 I2 H2) : Grow I H I2 H2 where
  same := a.same.trans b.same
  sub := a.sub.trans b.sub
  view := b.view
  fresh := fun x o h => by
    rcases b.fresh x o h with h | h
    · exact a.fresh x o h
    · exact .inr (a.same.free h)
theorem Grow.stp {Γ : En} {I H I' H' : Hp} (g : Grow I H I' H') : Stp Γ I H Γ I' H' := ⟨fun b o h _ => g.same b o h, g.sub, fun b o h => (g.fresh b o h).imp_right .inl, fun _ h => .inl h⟩
/-- a new object, known as data -/
theorem Grow.new {I H : Hp} {p : Addr} {o : HO} (e : Same I H) (h : H p = none) : Grow I H (upd I p o) (upd H p o) where
  same := fun b u q => by rw [upd_ne (ne_of_none q h)]; exact q
  sub := fun b u q => by rw [upd_ne (ne_of_none (e b u q) h)]; exact q
  view := fun b u q => by
    by_cases z : b = p
    · subst z; rw [upd_same] at q ⊢; exact q
    · rw [upd_ne z] at q ⊢; exact e b u q
  fresh := fun b u q => by
    by_cases z : b = p
    · subst z; exact .inr h
    · rw [upd_ne z] at q; exact .inl q
/-- .. not known as data -/
theorem Grow.hid {I H : Hp} {p : Addr} {o : HO} (e : Same I H) (h : H p = none) : Grow I H I (upd H p o) where
  same := fun b u q => by rw [upd_ne (ne_of_none q h)]; exact q
  sub := Same.refl I
  view := fun b u q => by rw [upd_ne (ne_of_none (e b u q) h)]; exact e b u q
  fresh := fun b u q => .inl q
section
variable {K : PySem.W.Frag} {σ : L2.St} {I H I' H' : Hp} {Γ : En}
theorem At.im (a : At K σ I H Γ) {i : Nat} {d : D} (h : Γ[i]? = some (.im d)) : ∃ v, σ[i]? = some (some v) ∧ Rp K I v d := by
  obtain ⟨x, e, v, rfl, r⟩ := a.sl i _ h
  exact ⟨v, e, r⟩
theorem At.own (a : At K σ I H Γ) {i : Nat} {p : Addr} {o : Ow} (h : Γ[i]? = some (.own p o)) : σ[i]? = some (some (.ref p)) ∧ I p = none ∧ OwAt K I H p o := by
  obtain ⟨x, e, rfl, n, r⟩ := a.sl i _ h
  exact ⟨e, n, r⟩
theorem At.ownN (a : At K σ I H Γ) {p : Addr} (h : Own Γ p) : I p = none ∧ ∃ u, H p = some u := by
  obtain ⟨i, o, h⟩ := h
  exact ⟨(a.own h).2.1, (a.own h).2.2.there⟩
theorem At.grow (a : At K σ I H Γ) (g : Grow I H I' H') : At K σ I' H' Γ where
  sub := g.view
  len := a.len
  nd := a.nd
  sl := fun i s h => by
    obtain ⟨x, e, q⟩ := a.sl i s h
    refine ⟨x, e, ?_⟩
    cases s with
    | un => trivial
    | im d => obtain ⟨v, e, r⟩ := q; exact ⟨v, e, r.mono g.sub⟩
    | own p o =>
      obtain ⟨e, n, r⟩ := q
      obtain ⟨u, hu⟩ := r.there
      refine ⟨e, ?_, r.mono g.sub ((g.same p u hu).trans hu.symm)⟩
      cases q : I' p with
      | none => rfl
      | some w =>
        rcases g.fresh p w q with z | z
        · rw [n] at z; cases z
        · rw [hu] at z; cases z
theorem getq_set {α : Type} {l : List α} {i j : Nat} {x y : α} (h : (l.set i x)[j]? = some y) : (j = i ∧ y = x ∧ i < l.length) ∨ (j ≠ i ∧ l[j]? = some y) := by
  by_cases e : i = j
  · subst e
    by_cases hl : i < l.length
    · rw [List.getElem?_set_self hl] at h
      exact .inl ⟨rfl, (Option.some.inj h).symm, hl⟩
    · rw [List.getElem?_eq_none (by simpa using hl)] at h; cases h
  · rw [List.getElem?_set_ne e] at h
    exact .inr ⟨fun z => e z.symm, h⟩
/-- a slot takes data -/
theorem At.set (a : At K σ I H Γ) (i : Nat) {v : V} {d : D} (r : Rp K I v d) : At K (σ.set i (some v)) I H (Γ.set i (.im d)) where
  sub := a.sub
  len := by rw [List.length_set, List.length_set]; exact a.len
  nd := fun j k p o o' h h' => by
    rcases getq_set h with ⟨_, z, _⟩ | ⟨_, h⟩
    · cases z
    rcases getq_set h' with ⟨_, z, _⟩ | ⟨_, h'⟩
    · cases z
    exact a.nd j k p o o' h h'
  sl := fun j s h => by
    rcases getq_set h with ⟨e, z, l⟩ | ⟨n, h⟩
    · subst e; subst z
      exact ⟨some v, List.getElem?_set_self (by rw [a.len]; exact l), v, rfl, r⟩
    · obtain ⟨x, e, q⟩ := a.sl j s h
      exact ⟨x, by rw [List.getElem?_set_ne (Ne.symm n)]; exact e, q⟩
theorem own_set_im {i : Nat} {d : D} {p : Addr} (h : Own (Γ.set i (.im d)) p) : Own Γ p := by
  obtain ⟨j, o, h⟩ := h
  rcases getq_set h with ⟨_, z, _⟩ | ⟨_, h⟩
  · cases z
  · exact ⟨j, o, h⟩
/-- a slot takes an object of its own, which no other owns -/
theorem At.setOwn (a : At K σ I H Γ) (i : Nat) {p : Addr} {o : Ow} (n : I p = none) (r : OwAt K I H p o) (f : ¬ Own Γ p) : At K (σ.set i (some (.ref p))) I H (Γ.set i (.own p o)) where
  sub := a.sub
  len := by rw [List.length_set, List.length_set]; exact a.len
  nd := fun j k p' o1 o2 h h' => by
    rcases getq_set h with ⟨e, z, _⟩ | ⟨_, h⟩ <;> rcases getq_set h' with ⟨e', z', _⟩ | ⟨_, h'⟩
    · rw [e, e']
    · cases z; exact (f ⟨k, o2, h'⟩).elim
    · cases z'; exact (f ⟨j, o1, h⟩).elim
    · exact a.nd j k p' o1 o2 h h'
  sl := fun j s h => by
    rcases getq_set h with ⟨e, z, l⟩ | ⟨m, h⟩
    · subst e; subst z
      exact ⟨some (.ref p), List.getElem?_set_self (by rw [a.len]; exact l), rfl, n, r⟩
    · obtain ⟨x, e, q⟩ := a.sl j s h
      exact ⟨x, by rw [List.getElem?_set_ne (Ne.symm m)]; exact e, q⟩
theorem own_set_own {i : Nat} {q : Addr} {o : Ow} {p : Addr} (h : Own (Γ.set i (.own q o)) p) : Own Γ p ∨ p = q := by
  obtain ⟨j, o', h⟩ := h
  rcases getq_set h with ⟨_, z, _⟩ | ⟨_, h⟩
  · cases z; exact .inr rfl
  · exact .inl ⟨j, o', h⟩
/-- an owned object changes -/
theorem At.mut (a : At K σ I H Γ) {i : Nat} {p : Addr} {o o' : Ow} {u : HO} (h : Γ[i]? = some (.own p o)) (r : OwAt K I (upd H p u) p o') : At K σ I (upd H p u) (Γ.set i (.own p o')) where
  sub := fun b w q => by
    have : b ≠ p := fun z => by
      subst z
      have n := (a.own h).2.1
      rw [q] at n; cases n
    rw [upd_ne this]; exact a.sub b w q
  len := by rw [List.length_set]; exact a.len
  nd := fun j k p' o1 o2 g g' => by
    rcases getq_set g with ⟨e, z, _⟩ | ⟨_, g⟩ <;> rcases getq_set g' with ⟨e', z', _⟩ | ⟨_, g'⟩
    · rw [e, e']
    · cases z; rw [e]; exact a.nd i k p o o2 h g'
    · cases z'; rw [e']; exact a.nd j i p o1 o g h
    · exact a.nd j k p' o1 o2 g g'
  sl := fun j s g0 => by
    rcases getq_set g0 with ⟨e, z, l⟩ | ⟨m, g⟩
    · subst e; subst z
      exact ⟨some (.ref p), (a.own h).1, rfl, (a.own h).2.1, r⟩
    · obtain ⟨x, e, q⟩ := a.sl j s g
      refine ⟨x, e, ?_⟩
      cases s with
      | un => trivial
      | im d => exact q
      | own p' o1 =>
        obtain ⟨e1, n1, r1⟩ := q
        have : p' ≠ p := fun z => by subst z; exact m (a.nd j i p' o1 o g h)
        exact ⟨e1, n1, r1.mono (Same.refl I) (upd_ne this)⟩
theorem Stp.mut {i : Nat} {p : Addr} {o o' : Ow} {u : HO} (h : Γ[i]? = some (.own p o)) : Stp Γ I H (Γ.set i (.own p o')) I (upd H p u) where
  same := fun b w q n => by
    have : b ≠ p := fun z => by subst z; exact n ⟨i, o, h⟩
    rw [upd_ne this]; exact q
  sub := Same.refl I
  fresh := fun _ _ h => .inl h
  own := fun q z => by
    rcases own_set_own z with z | z
    · exact .inl z
    · subst z; exact .inl ⟨i, o, h⟩
end
end Dl

set_option Elab.async false
set_option linter.all false
set_option maxRecDepth 100000
set_option maxHeartbeats 2000000
namespace Dl
open PySem PySem.Spec PyProof.Rows L2

/-! ### what code does, told by data -/
abbrev XS := Addr → List (Str × V) → Prop
def noX : XS := fun _ _ => False
def Kp (Γ : En) (H H' : Hp) : Prop := ∀ b o, H b = some o → ¬ Own Γ b → H' b = some o
theorem Kp.after {Γ Γ1 : En} {I H I1 H1 H' : Hp} (s : Stp Γ I H Γ1 I1 H1) (k : Kp Γ1 H1 H') : Kp Γ H H' := fun b o h n => k b o (s.same b o h n) fun z => by
  rcases s.own b z with z | z
  · exact n z
  · rw [h] at z; cases z
/-- what follows an exception -/
def KX (E : XK) (XE : XS) (Γ : En) (H : Hp) : Prop := ∀ C fs dd H', XE C fs → Kp Γ H H' → H' dd = some (.xd fs) → E (.ref C) (some dd) H'
theorem KX.after {E : XK} {XE : XS} {Γ Γ1 : En} {I H I1 H1 : Hp} (s : Stp Γ I H Γ1 I1 H1) (k : KX E XE Γ H) : KX E XE Γ1 H1 := fun C fs dd H' x p q => k C fs dd H' x (p.after s) q
def sem (X : Cx) (e : Expr) : TE := fun σ H Q => ∀ pins s, Inv X pins σ H s → wpAny (model X.prog X.w) X.A (eval e X.env) (EP X pins σ Q) X.xe s
theorem pe_sem (X : Cx) (e : Expr) : PE X e (sem X e) := ⟨fun pins s _ _ _ I h => h pins s I⟩
def semT (X : Cx) (e : Expr) : TT := fun σ H Q => ∀ pins s, Inv X pins σ H s → wpAny (model X.prog X.w) X.A (isTrue e X.env (eval e X.env)) (TP X pins σ Q) X.xe s
theorem pt_sem (X : Cx) (e : Expr) : PT X e (semT X e) := ⟨fun pins s _ _ _ I h => h pins s I⟩
def semA (X : Cx) (es : List Expr) : TA := fun σ H Q => ∀ pos pins s, Inv X pins σ H s → wpAny (model X.prog X.w) X.A (spliced (backTo pos (starEach es X.env))) (AP X pins σ Q) X.xe s
theorem pa_sem (X : Cx) (es : List Expr) : PA X es (semA X es) := ⟨fun pos pins s _ _ _ I h => h pos pins s I⟩
def semS (X : Cx) (st : Stmt) : TS := fun D σ H => ∀ pins s, Inv X pins σ H s → wpAny (model X.prog X.w) X.A (exec st X.env) (SP X pins D) X.xe s
theorem ps_sem (X : Cx) (st : Stmt) : PS X st (semS X st) := ⟨fun pins s _ _ _ I h => h pins s I⟩
def semSs (X : Cx) (st : List Stmt) : TS := fun D σ H => ∀ pins s, Inv X pins σ H s → wpAny (model X.prog X.w) X.A (execs st X.env) (SP X pins D) X.xe s
theorem pss_sem (X : Cx) (st : List Stmt) : PSs X st (semSs X st) := ⟨fun pins s _ _ _ I h => h pins s I⟩

/-- an expression, from Γ, ends in data and an environment of which R holds, or in an exception of XE -/
def Wp (X : Cx) (E : XK) (XE : XS) (e : Expr) (Γ : En) (R : D → En → Prop) : Prop := ∀ σ I H (Q : VK), At X.K σ I H Γ →
  (∀ v I' H' d Γ', R d Γ' → Stp Γ I H Γ' I' H' → At X.K σ I' H' Γ' → Rp X.K I' v d → Q v H') → KX E XE Γ H → sem X e σ H Q
def WpT (X : Cx) (E : XK) (XE : XS) (e : Expr) (Γ : En) (R : Bool → En → Prop) : Prop := ∀ σ I H (Q : Bool → Hp → Prop), At X.K σ I H Γ →
  (∀ b I' H' Γ', R b Γ' → Stp Γ I H Γ' I' H' → At X.K σ I' H' Γ' → Q b H') → KX E XE Γ H → semT X e σ H Q
def WpA (X : Cx) (E : XK) (XE : XS) (es : List Expr) (Γ : En) (R : List D → En → Prop) : Prop := ∀ σ I H (Q : List V → Hp → Prop), At X.K σ I H Γ →
  (∀ vs I' H' ds Γ', R ds Γ' → Stp Γ I H Γ' I' H' → At X.K σ I' H' Γ' → RpA X.K I' vs ds → Q vs H') → KX E XE Γ H → semA X es σ H Q
section
variable {X : Cx} {E : XK} {XE : XS} {Γ : En} {R R' : D → En → Prop} {pos : Pos}
theorem Wp.mono {e : Expr} (w : Wp X E XE e Γ R) (h : ∀ d Γ', R d Γ' → R' d Γ') : Wp X E XE e Γ R' := fun σ I H Q a k x => w σ I H Q a (fun v I' H' d Γ' r => k v I' H' d Γ' (h d Γ' r)) x
/-- by a rule of the layer -/
theorem Wp.of {e : Expr} {t : TE} (p : PE X e t) (h : ∀ σ I H (Q : VK), At X.K σ I H Γ →
    (∀ v I' H' d Γ', R d Γ' → Stp Γ I H Γ' I' H' → At X.K σ I' H' Γ' → Rp X.K I' v d → Q v H') → KX E XE Γ H → t σ H Q) : Wp X E XE e Γ R := fun σ I H Q a k x pins s Iv => p.run pins s σ H Q Iv (h σ I H Q a k x)
/-- a leaf: no change -/
theorem Wp.leaf {e : Expr} {t : TE} {d : D} (p : PE X e t) (h : ∀ σ I H (Q : VK), At X.K σ I H Γ → (∀ v, Rp X.K I v d → Q v H) → t σ H Q) (r : R d Γ) : Wp X E XE e Γ R :=
  .of p fun σ I H Q a k _ => h σ I H Q a fun v q => k v I H d Γ r .refl a q
theorem w_var {x : Str} (i : Nat) {d : D} (hN : X.N[i]? = some x) (hv : Vis X.env.scope x) (hg : Γ[i]? = some (.im d)) (r : R d Γ) (hd : (x == ("__debug__" : Str)) = false := by decide) (hcd : (x == ("__classdict__" : Str)) = false := by decide) : Wp X E XE (.Name x pos) Γ R :=
  .leaf (pe_var hN hv hd hcd) (fun σ I H Q a k => by
    obtain ⟨v, e, q⟩ := a.im hg
    exact ⟨v, e, k v q⟩) r
theorem w_int {i : Int} {j} (r : R (.int i) Γ) : Wp X E XE (.Constant (.int i) j pos) Γ R := .leaf pe_int (fun _ _ _ _ _ k => k _ (.int i)) r
theorem w_str {x : Str} {j} (r : R (.str x) Γ) : Wp X E XE (.Constant (.str x) j pos) Γ R := .leaf pe_str (fun _ _ _ _ _ k => k _ (.str x)) r
theorem w_bool {b : Bool} {j} (r : R (.bl b) Γ) : Wp X E XE (.Constant (.bool b) j pos) Γ R := .leaf pe_bl (fun _ _ _ _ _ k => k _ (.bl b)) r
theorem w_none {j} (r : R .non Γ) : Wp X E XE (.Constant .none j pos) Γ R := .leaf pe_non (fun _ _ _ _ _ k => k _ .non) r
/-- a constant of the module: what its value stands for, whatever is seen -/
def Glo (K : PySem.W.Frag) (mg : Str → Option Value) (x : Str) (d : D) : Prop := ∃ (u : Value) (v : V), mg x = some u ∧ RelV v u ∧ ∀ I : Hp, Rp K I v d
theorem w_glob {x : Str} {d : D} (g : Glo X.K X.mg x d) (hg : Gl X x) (r : R d Γ) (hd : (x == ("__debug__" : Str)) = false := by decide) : Wp X E XE (.Name x pos) Γ R := by
  obtain ⟨u, v, hm, rv, h⟩ := g
  exact .leaf (pe_glob hg hm rv hd) (fun _ I _ _ _ k => k v (h I)) r

/-! ### operations of values -/
def semOp (X : Cx) (f : Value → Value → Sem Value) : R2 := fun x y H Q => ∀ pins s σ v u, Inv X pins σ H s → RelV x v → RelV y u → wpAny (model X.prog X.w) X.A (f v u) (EP X pins σ Q) X.xe s
theorem opr_sem (X : Cx) (f : Value → Value → Sem Value) : OpR X f (semOp X f) := fun pins s σ _ _ _ v u _ I rx ry h => h pins s σ v u I rx ry
/-- two data, by the operation, are a third -/
def Op2 (X : Cx) (f : Value → Value → Sem Value) (x y z : D) : Prop := ∀ I H u v (Q : VK), Same I H → Rp X.K I u x → Rp X.K I v y → (∀ w I' H', Grow I H I' H' → Rp X.K I' w z → Q w H') → semOp X f u v H Q
theorem Op2.of {f : Value → Value → Sem Value} {r : R2} {x y z : D} (ho : OpR X f r) (h : ∀ I H u v (Q : VK), Same I H → Rp X.K I u x → Rp X.K I v y → (∀ w I' H', Grow I H I' H' → Rp X.K I' w z → Q w H') → r u v H Q) : Op2 X f x y z :=
  fun I H u v Q e r1 r2 k pins s σ v' u' Iv q1 q2 => ho pins s σ H u v v' u' Q Iv q1 q2 (h I H u v Q e r1 r2 k)
/-- .. are a new object -/
def Op2N (X : Cx) (f : Value → Value → Sem Value) (x y : D) (z : Ow) : Prop := ∀ I H u v (Q : VK), Same I H → Rp X.K I u x → Rp X.K I v y → (∀ p w, H p = none → OwAt X.K I (upd H p w) p z → Q (.ref p) (upd H p w)) → semOp X f u v H Q
theorem Op2N.of {f : Value → Value → Sem Value} {r : R2} {x y : D} {z : Ow} (ho : OpR X f r) (h : ∀ I H u v (Q : VK), Same I H → Rp X.K I u x → Rp X.K I v y → (∀ p w, H p = none → OwAt X.K I (upd H p w) p z → Q (.ref p) (upd H p w)) → r u v H Q) : Op2N X f x y z :=
  fun I H u v Q e r1 r2 k pins s σ v' u' Iv q1 q2 => ho pins s σ H u v v' u' Q Iv q1 q2 (h I H u v Q e r1 r2 k)
/-- a new object -/
def WpN (X : Cx) (E : XK) (XE : XS) (e : Expr) (Γ : En) (R : Ow → En → Prop) : Prop := ∀ σ I H (Q : VK), At X.K σ I H Γ →
  (∀ p I' H' o Γ', R o Γ' → Stp Γ I H Γ' I' H' → At X.K σ I' H' Γ' → I' p = none → OwAt X.K I' H' p o → ¬ Own Γ' p → (Own Γ p ∨ H p = none) → Q (.ref p) H') → KX E XE Γ H → sem X e σ H Q
theorem WpN.of {e : Expr} {t : TE} {R : Ow → En → Prop} (p : PE X e t) (h : ∀ σ I H (Q : VK), At X.K σ I H Γ →
    (∀ p I' H' o Γ', R o Γ' → Stp Γ I H Γ' I' H' → At X.K σ I' H' Γ' → I' p = none → OwAt X.K I' H' p o → ¬ Own Γ' p → (Own Γ p ∨ H p = none) → Q (.ref p) H') → KX E XE Γ H → t σ H Q) : WpN X E XE e Γ R := fun σ I H Q a k x pins s Iv => p.run pins s σ H Q Iv (h σ I H Q a k x)
theorem Stp.was {Γ Γ1 : En} {I H I1 H1 : Hp} {p : Addr} (s : Stp Γ I H Γ1 I1 H1) (h : H1 p = none) : Own Γ p ∨ H p = none := by
  cases e : H p with
  | none => exact .inr rfl
  | some u =>
    by_cases n : Own Γ p
    · exact .inl n
    · rw [s.same p u e n] at h; cases h
/-- laid at p -/
theorem new_at {K : PySem.W.Frag} {σ : L2.St} {Γ Γ1 : En} {I H I1 H1 : Hp} {p : Addr} {w : HO} {o : Ow} {R : Ow → En → Prop} {Q : VK}
    (k : ∀ p I' H' o Γ', R o Γ' → Stp Γ I H Γ' I' H' → At K σ I' H' Γ' → I' p = none → OwAt K I' H' p o → ¬ Own Γ' p → (Own Γ p ∨ H p = none) → Q (.ref p) H')
    (r : R o Γ1) (s1 : Stp Γ I H Γ1 I1 H1) (a1 : At K σ I1 H1 Γ1) (hp : H1 p = none) (ho : OwAt K I1 (upd H1 p w) p o) : Q (.ref p) (upd H1 p w) := by
  refine k p I1 (upd H1 p w) o Γ1 r (s1.trans (Grow.hid a1.sub hp).stp) (a1.grow (Grow.hid a1.sub hp)) ?_ ho ?_ (s1.was hp)
  · cases q : I1 p with
    | none => rfl
    | some u => have z := a1.sub p u q; rw [hp] at z; cases z
  · intro z
    obtain ⟨_, u, hu⟩ := a1.ownN z
    rw [hp] at hu; cases hu
theorem ow_rp {K : PySem.W.Frag} {I H : Hp} {p : Addr} {o : Ow} {u : HO} (h : OwAt K I H p o) (hu : H p = some u) (n : I p = none) : Rp K (upd I p u) (.ref p) o.d := by
  have e : Same I (upd I p u) := fun b w q => by rw [upd_ne (ne_of_none q n)]; exact q
  cases o with
  | lst ds => obtain ⟨vs, h, r⟩ := h; rw [h] at hu; cases hu; exact .lst upd_same (r.mono e)
  | dct ds => obtain ⟨vs, h, r⟩ := h; rw [h] at hu; cases hu; exact .dct upd_same (r.mono e)
  | ins C fs => obtain ⟨dx, vs, h, r⟩ := h; rw [h] at hu; cases hu; exact .ins upd_same (r.mono e)
/-- what none owns is seen as data from now on -/
theorem At.see {K : PySem.W.Frag} {σ : L2.St} {Γ : En} {I H : Hp} {p : Addr} {u : HO} (a : At K σ I H Γ) (n : I p = none) (hu : H p = some u) (f : ¬ Own Γ p) : At K σ (upd I p u) H Γ where
  sub := fun b w q => by
    by_cases z : b = p
    · subst z; rw [upd_same] at q; cases q; exact hu
    · rw [upd_ne z] at q; exact a.sub b w q
  len := a.len
  nd := a.nd
  sl := fun i s h => by
    have e : Same I (upd I p u) := fun b w q => by rw [upd_ne (ne_of_none q n)]; exact q
    obtain ⟨x, e1, q⟩ := a.sl i s h
    refine ⟨x, e1, ?_⟩
    cases s with
    | un => trivial
    | im d => obtain ⟨v, e2, r⟩ := q; exact ⟨v, e2, r.mono e⟩
    | own q' o =>
      obtain ⟨e2, n2, r⟩ := q
      have : q' ≠ p := fun z => by subst z; exact f ⟨i, o, h⟩
      exact ⟨e2, by rw [upd_ne this]; exact n2, r.mono e rfl⟩
theorem w_new {e : Expr} (h : WpN X E XE e Γ fun o Γ' => R o.d Γ') : Wp X E XE e Γ R := fun σ I H Q a k x => h σ I H Q a (fun p I1 H1 o Γ1 r s1 a1 n ho f was => by
  obtain ⟨u, hu⟩ := ho.there
  have e : Same I1 (upd I1 p u) := fun b w q => by rw [upd_ne (ne_of_none q n)]; exact q
  refine k (.ref p) (upd I1 p u) H1 o.d Γ1 r ⟨s1.same, s1.sub.trans e, fun b w q => ?_, s1.own⟩ (a1.see n hu f) (ow_rp ho hu n)
  by_cases z : b = p
  · subst z; exact .inr (was.symm)
  · rw [upd_ne z] at q; exact s1.fresh b w q) x

/-! ### binary operators -/
theorem bin_go {a b : Expr} {f : Value → Value → Sem Value} {ra : D → En → Prop} {rb : D → D → En → Prop} (h : Wp X E XE a Γ fun x Γ1 => Wp X E XE b Γ1 fun y Γ2 => rb x y Γ2) {σ : L2.St} {I H : Hp} {Q : VK} (a0 : At X.K σ I H Γ) (x0 : KX E XE Γ H)
    (k : ∀ x y Γ2 I2 H2 u v, rb x y Γ2 → Stp Γ I H Γ2 I2 H2 → At X.K σ I2 H2 Γ2 → Rp X.K I2 u x → Rp X.K I2 v y → semOp X f u v H2 Q) : tOp (semOp X f) (sem X a) (sem X b) σ H Q :=
  h σ I H _ a0 (fun u I1 H1 d1 Γ1 h1 s1 a1 r1 => h1 σ I1 H1 _ a1 (fun v I2 H2 d2 Γ2 h2 s2 a2 r2 => k d1 d2 Γ2 I2 H2 u v h2 (s1.trans s2) a2 (r1.mono s2.sub) r2) (x0.after s1)) x0
theorem w_bin {a b : Expr} {op : Operator} (h : Wp X E XE a Γ fun x Γ1 => Wp X E XE b Γ1 fun y Γ2 => ∃ z, Op2 X (binaryOp op) x y z ∧ R z Γ2) : Wp X E XE (.BinOp a op b pos) Γ R :=
  .of (pe_op (opr_sem X _) (pe_sem X a) (pe_sem X b)) fun σ I H Q a0 k x => bin_go (ra := R) h a0 x fun d1 d2 Γ2 I2 H2 u v ⟨z, ho, r⟩ s2 a2 r1 r2 => ho I2 H2 u v Q a2.sub r1 r2 fun w I3 H3 g r3 => k w I3 H3 z Γ2 r (s2.trans g.stp) (a2.grow g) r3
theorem w_binN {a b : Expr} {op : Operator} {R : Ow → En → Prop} (h : Wp X E XE a Γ fun x Γ1 => Wp X E XE b Γ1 fun y Γ2 => ∃ z, Op2N X (binaryOp op) x y z ∧ R z Γ2) : WpN X E XE (.BinOp a op b pos) Γ R :=
  .of (pe_op (opr_sem X _) (pe_sem X a) (pe_sem X b)) fun σ I H Q a0 k x => bin_go (ra := fun _ _ => True) h a0 x fun d1 d2 Γ2 I2 H2 u v ⟨z, ho, r⟩ s2 a2 r1 r2 => ho I2 H2 u v Q a2.sub r1 r2 fun p w hp how => new_at k r s2 a2 hp how
theorem w_cmp {a b : Expr} {op : CmpOp} (h : Wp X E XE a Γ fun x Γ1 => Wp X E XE b Γ1 fun y Γ2 => ∃ z, Op2 X (compareOp op) x y z ∧ R z Γ2) (hm : behindInMarks op b = false := by first | exact nomark _ | rfl) : Wp X E XE (.Compare a [op] [b] pos) Γ R :=
  .of (pe_cmpR (opr_sem X _) (pe_sem X a) (pe_sem X b) hm) fun σ I H Q a0 k x => bin_go (ra := R) h a0 x fun d1 d2 Γ2 I2 H2 u v ⟨z, ho, r⟩ s2 a2 r1 r2 => ho I2 H2 u v Q a2.sub r1 r2 fun w I3 H3 g r3 => k w I3 H3 z Γ2 r (s2.trans g.stp) (a2.grow g) r3
/-- a comparison as a test -/
theorem t_cmp {a b : Expr} {op : CmpOp} {R : Bool → En → Prop} (h : Wp X E XE a Γ fun x Γ1 => Wp X E XE b Γ1 fun y Γ2 => ∃ z, Op2 X (compareOp op) x y (.bl z) ∧ R z Γ2) (hm : behindInMarks op b = false := by first | exact nomark _ | rfl) : WpT X E XE (.Compare a [op] [b] pos) Γ R :=
  fun σ I H Q a0 k x pins s Iv => (pt_cmpR (opr_sem X _) (pe_sem X a) (pe_sem X b) hm).run pins s σ H Q Iv (bin_go (ra := fun _ _ => True) h a0 x fun d1 d2 Γ2 I2 H2 u v ⟨z, ho, r⟩ s2 a2 r1 r2 => ho I2 H2 u v _ a2.sub r1 r2 fun w I3 H3 g r3 => by
    cases r3
    exact ⟨z, rfl, k z I3 H3 Γ2 r (s2.trans g.stp) (a2.grow g)⟩)
theorem w_chain {a b c : Expr} {op op' : CmpOp} (h : Wp X E XE a Γ fun x Γ1 => Wp X E XE b Γ1 fun y Γ2 => ∃ z, Op2 X (compareOp op) x y (.bl z) ∧ (z = false → R (.bl false) Γ2) ∧ (z = true → Wp X E XE c Γ2 fun w Γ3 => ∃ z', Op2 X (compareOp op') y w z' ∧ R z' Γ3))
    (hm : lastMarks [op, op'] [b, c] = false := by with_unfolding_all rfl) : Wp X E XE (.Compare a [op, op'] [b, c] pos) Γ R :=
  .of (pe_chain (opr_sem X _) (opr_sem X _) (pe_sem X a) (pe_sem X b) (pe_sem X c) hm) fun σ I H Q a0 k x0 =>
    h σ I H _ a0 (fun u I1 H1 d1 Γ1 h1 s1 a1 r1 => h1 σ I1 H1 _ a1 (fun v I2 H2 d2 Γ2 ⟨z, ho, hF, hT⟩ s2 a2 r2 => ho I2 H2 u v _ a2.sub (r1.mono s2.sub) r2 fun w I3 H3 g r3 => by
      cases r3
      refine ⟨z, rfl, ?_⟩
      have s3 := (s1.trans s2).trans (g.stp (Γ := Γ2))
      have a3 := a2.grow g
      cases z with
      | false =>
        rw [if_neg Bool.false_ne_true]
        exact k _ I3 H3 _ Γ2 (hF rfl) s3 a3 (.bl false)
      | true =>
        rw [if_pos rfl]
        refine hT rfl σ I3 H3 _ a3 (fun y I4 H4 d4 Γ4 ⟨z', ho', r'⟩ s4 a4 r4 => ho' I4 H4 v y Q a4.sub ((r2.mono g.sub).mono s4.sub) r4 fun w' I5 H5 g5 r5 => k w' I5 H5 z' Γ4 r' ((s3.trans s4).trans g5.stp) (a4.grow g5) r5) (x0.after s3)) (x0.after s1)) x0

/-! ### tests -/
theorem WpT.mono {e : Expr} {R R' : Bool → En → Prop} (w : WpT X E XE e Γ R) (h : ∀ d Γ', R d Γ' → R' d Γ') : WpT X E XE e Γ R' := fun σ I H Q a k x => w σ I H Q a (fun v I' H' Γ' r => k v I' H' Γ' (h v Γ' r)) x
theorem WpT.of {e : Expr} {t : TT} {R : Bool → En → Prop} (p : PT X e t) (h : ∀ σ I H (Q : Bool → Hp → Prop), At X.K σ I H Γ →
    (∀ b I' H' Γ', R b Γ' → Stp Γ I H Γ' I' H' → At X.K σ I' H' Γ' → Q b H') → KX E XE Γ H → t σ H Q) : WpT X E XE e Γ R := fun σ I H Q a k x pins s Iv => p.run pins s σ H Q Iv (h σ I H Q a k x)
/-- an expression that gives a truth value -/
theorem t_val {e : Expr} {R : Bool → En → Prop} (h : Wp X E XE e Γ fun d Γ' => ∃ b, d = .bl b ∧ R b Γ') (he : ∀ whole, isTrue e X.env whole = (do let v ← whole; standAt e.pos; holding [v] (truthy v)) := by intro _; rfl) : WpT X E XE e Γ R :=
  .of (pt_val (pe_sem X e) he) fun σ I H Q a k x => h σ I H _ a (fun v I1 H1 d Γ1 ⟨b, e, r⟩ s1 a1 r1 => by
    subst e
    cases r1
    exact ⟨b, rfl, k b I1 H1 Γ1 r s1 a1⟩) x
theorem t_not {e : Expr} {R : Bool → En → Prop} (h : WpT X E XE e Γ fun b Γ' => R (!b) Γ') : WpT X E XE (.UnaryOp .Not e pos) Γ R :=
  .of (pt_not (pt_sem X e)) fun σ I H Q a k x => h σ I H _ a (fun b I1 H1 Γ1 r s1 a1 => k _ I1 H1 Γ1 r s1 a1) x
/-- and, or as tests: the rest whatever the whole -/
def semW (X : Cx) (e : Expr) : TT := fun σ H Q => ∀ whole pins s, Inv X pins σ H s → wpAny (model X.prog X.w) X.A (isTrue e X.env whole) (TP X pins σ Q) X.xe s
theorem pw_sem (X : Cx) (e : Expr) : PW X e (semW X e) := ⟨fun wh pins s _ _ _ I h => h wh pins s I⟩
def WpW (X : Cx) (E : XK) (XE : XS) (e : Expr) (Γ : En) (R : Bool → En → Prop) : Prop := ∀ σ I H (Q : Bool → Hp → Prop), At X.K σ I H Γ →
  (∀ b I' H' Γ', R b Γ' → Stp Γ I H Γ' I' H' → At X.K σ I' H' Γ' → Q b H') → KX E XE Γ H → semW X e σ H Q
theorem WpW.of {e : Expr} {t : TT} {R : Bool → En → Prop} (p : PW X e t) (h : ∀ σ I H (Q : Bool → Hp → Prop), At X.K σ I H Γ →
    (∀ b I' H' Γ', R b Γ' → Stp Γ I H Γ' I' H' → At X.K σ I' H' Γ' → Q b H') → KX E XE Γ H → t σ H Q) : WpW X E XE e Γ R := fun σ I H Q a k x wh pins s Iv => p.run wh pins s σ H Q Iv (h σ I H Q a k x)
theorem t_bool {e : Expr} {R : Bool → En → Prop} (h : WpW X E XE e Γ R) : WpT X E XE e Γ R := fun σ I H Q a k x pins s Iv => h σ I H Q a k x _ pins s Iv
theorem tw_and1 {e : Expr} {R : Bool → En → Prop} (h : WpT X E XE e Γ R) : WpW X E XE (.BoolOp .And [e] pos) Γ R := .of (pw_and1 (pt_sem X e)) fun σ I H Q a k x => h σ I H Q a k x
theorem tw_or1 {e : Expr} {R : Bool → En → Prop} (h : WpT X E XE e Γ R) : WpW X E XE (.BoolOp .Or [e] pos) Γ R := .of (pw_or1 (pt_sem X e)) fun σ I H Q a k x => h σ I H Q a k x
theorem tw_and {e f : Expr} {es : List Expr} {R : Bool → En → Prop} (h : WpT X E XE e Γ fun b Γ1 => (b = false → R false Γ1) ∧ (b = true → WpW X E XE (.BoolOp .And (f :: es) pos) Γ1 R)) : WpW X E XE (.BoolOp .And (e :: f :: es) pos) Γ R :=
  .of (pw_and (pt_sem X e) (pw_sem X _)) fun σ I H Q a k x => h σ I H _ a (fun b I1 H1 Γ1 ⟨hF, hT⟩ s1 a1 => by
    cases b with
    | false => exact iteF (k false I1 H1 Γ1 (hF rfl) s1 a1)
    | true => exact iteT (hT rfl σ I1 H1 Q a1 (fun b I2 H2 Γ2 r s2 a2 => k b I2 H2 Γ2 r (s1.trans s2) a2) (x.after s1))) x
theorem tw_or {e f : Expr} {es : List Expr} {R : Bool → En → Prop} (h : WpT X E XE e Γ fun b Γ1 => (b = true → R true Γ1) ∧ (b = false → WpW X E XE (.BoolOp .Or (f :: es) pos) Γ1 R)) : WpW X E XE (.BoolOp .Or (e :: f :: es) pos) Γ R :=
  .of (pw_or (pt_sem X e) (pw_sem X _)) fun σ I H Q a k x => h σ I H _ a (fun b I1 H1 Γ1 ⟨hT, hF⟩ s1 a1 => by
    cases b with
    | true => exact iteT (k true I1 H1 Γ1 (hT rfl) s1 a1)
    | false => exact iteF (hF rfl σ I1 H1 Q a1 (fun b I2 H2 Γ2 r s2 a2 => k b I2 H2 Γ2 r (s1.trans s2) a2) (x.after s1))) x
/-- and as a value, of truth values -/
theorem w_one {e : Expr} {op} (h : Wp X E XE e Γ R) : Wp X E XE (.BoolOp op [e] pos) Γ R := .of (pe_one (pe_sem X e)) fun σ I H Q a k x => h σ I H Q a k x
theorem w_and {e f : Expr} {es : List Expr} (h : Wp X E XE e Γ fun d Γ1 => ∃ b, d = .bl b ∧ (b = false → R (.bl false) Γ1) ∧ (b = true → Wp X E XE (.BoolOp .And (f :: es) pos) Γ1 R)) : Wp X E XE (.BoolOp .And (e :: f :: es) pos) Γ R :=
  .of (pe_and (pe_sem X e) (pe_sem X _)) fun σ I H Q a k x => h σ I H _ a (fun v I1 H1 d Γ1 ⟨b, e, hF, hT⟩ s1 a1 r1 => by
    subst e
    cases r1
    refine ⟨b, rfl, ?_⟩
    cases b with
    | false => exact iteF (k _ I1 H1 _ Γ1 (hF rfl) s1 a1 (.bl false))
    | true => exact iteT (hT rfl σ I1 H1 Q a1 (fun v I2 H2 d2 Γ2 r s2 a2 => k v I2 H2 d2 Γ2 r (s1.trans s2) a2) (x.after s1))) x
theorem w_if {c e f : Expr} (h : WpT X E XE c Γ fun b Γ1 => (b = true → Wp X E XE e Γ1 R) ∧ (b = false → Wp X E XE f Γ1 R)) : Wp X E XE (.IfExp c e f pos) Γ R :=
  .of (pe_ifExp (pt_sem X c) (pe_sem X e) (pe_sem X f)) fun σ I H Q a k x => h σ I H _ a (fun b I1 H1 Γ1 ⟨hT, hF⟩ s1 a1 => by
    cases b with
    | true => exact iteT (hT rfl σ I1 H1 Q a1 (fun v I2 H2 d2 Γ2 r s2 a2 => k v I2 H2 d2 Γ2 r (s1.trans s2) a2) (x.after s1))
    | false => exact iteF (hF rfl σ I1 H1 Q a1 (fun v I2 H2 d2 Γ2 r s2 a2 => k v I2 H2 d2 Γ2 r (s1.trans s2) a2) (x.after s1))) x
end
end Dl

set_option Elab.async false
set_option linter.all false
set_option maxRecDepth 100000
set_option maxHeartbeats 2000000
namespace Dl
open PySem PySem.Spec PyProof.Rows L2

section
variable {X : Cx} {E : XK} {XE : XS} {Γ : En} {R R' : D → En → Prop} {pos : Pos}
/-- a variable that owns its object: from here on it is data, and the variable is forgotten -/
theorem w_give {x : Str} (i : Nat) {p : Addr} {o : Ow} (hN : X.N[i]? = some x) (hv : Vis X.env.scope x) (hg : Γ[i]? = some (.own p o)) (r : R o.d (Γ.set i .un)) (hd : (x == ("__debug__" : Str)) = false := by decide) (hcd : (x == ("__classdict__" : Str)) = false := by decide) : Wp X E XE (.Name x pos) Γ R :=
  .of (pe_var hN hv hd hcd) fun σ I H Q a k _ => by
    obtain ⟨e, n, ow⟩ := a.own hg
    obtain ⟨u, hu⟩ := ow.there
    have es : Same I (upd I p u) := fun b w q => by rw [upd_ne (ne_of_none q n)]; exact q
    refine ⟨_, e, k (.ref p) (upd I p u) H o.d _ r ⟨fun _ _ h _ => h, es, fun b w q => ?_, fun q ⟨j, o', h⟩ => ?_⟩ ⟨?_, ?_, ?_, ?_⟩ (ow_rp ow hu n)⟩
    · by_cases z : b = p
      · subst z; exact .inr (.inr ⟨i, o, hg⟩)
      · rw [upd_ne z] at q; exact .inl q
    · rcases getq_set h with ⟨_, z, _⟩ | ⟨_, h⟩
      · cases z
      · exact .inl ⟨j, o', h⟩
    · intro b w q
      by_cases z : b = p
      · subst z; rw [upd_same] at q; cases q; exact hu
      · rw [upd_ne z] at q; exact a.sub b w q
    · rw [List.length_set]; exact a.len
    · intro j s h
      rcases getq_set h with ⟨e1, z, l⟩ | ⟨m, h⟩
      · subst z; subst e1
        exact ⟨_, e, trivial⟩
      · obtain ⟨x', e1, q⟩ := a.sl j s h
        refine ⟨x', e1, ?_⟩
        cases s with
        | un => trivial
        | im d => obtain ⟨v, e2, r⟩ := q; exact ⟨v, e2, r.mono es⟩
        | own q' o' =>
          obtain ⟨e2, n2, r⟩ := q
          have : q' ≠ p := fun z => by subst z; exact m (a.nd j i q' o' o h hg)
          exact ⟨e2, by rw [upd_ne this]; exact n2, r.mono es rfl⟩
    · intro j j' q o1 o2 h h'
      rcases getq_set h with ⟨_, z, _⟩ | ⟨_, h⟩
      · cases z
      rcases getq_set h' with ⟨_, z, _⟩ | ⟨_, h'⟩
      · cases z
      exact a.nd j j' q o1 o2 h h'

def hideS : Sl → Sl
  | .own _ _ => .un
  | s => s
/-- the environment with one owned object seen as data, the others not seen at all -/
def seeE (Γ : En) (i : Nat) (d : D) : En := (Γ.map hideS).set i (.im d)
theorem seeE_no {Γ : En} {i : Nat} {d : D} {p : Addr} : ¬ Own (seeE Γ i d) p := fun ⟨j, o, h⟩ => by
  rcases getq_set h with ⟨_, z, _⟩ | ⟨_, h⟩
  · cases z
  · rw [List.getElem?_map] at h
    cases e : Γ[j]? with
    | none => rw [e] at h; cases h
    | some s =>
      rw [e] at h
      have h : hideS s = .own p o := Option.some.inj h
      cases s <;> cases h
theorem At.show1 {K : PySem.W.Frag} {σ : L2.St} {I H : Hp} {i : Nat} {p : Addr} {o : Ow} {u : HO} (a : At K σ I H Γ) (hg : Γ[i]? = some (.own p o)) (hu : H p = some u) : At K σ (upd I p u) H (seeE Γ i o.d) := by
  obtain ⟨e, n, ow⟩ := a.own hg
  have es : Same I (upd I p u) := fun b w q => by rw [upd_ne (ne_of_none q n)]; exact q
  refine ⟨fun b w q => ?_, by unfold seeE; rw [List.length_set, List.length_map]; exact a.len, fun j s h => ?_, fun j j' q o1 o2 h h' => (seeE_no ⟨j, o1, h⟩).elim⟩
  · by_cases z : b = p
    · subst z; rw [upd_same] at q; cases q; exact hu
    · rw [upd_ne z] at q; exact a.sub b w q
  · rcases getq_set h with ⟨e1, z, l⟩ | ⟨m, h⟩
    · subst z; subst e1
      exact ⟨_, e, _, rfl, ow_rp ow hu n⟩
    · rw [List.getElem?_map] at h
      cases e0 : Γ[j]? with
      | none => rw [e0] at h; cases h
      | some s0 =>
        rw [e0] at h
        have h : hideS s0 = s := Option.some.inj h
        obtain ⟨x', e1, q⟩ := a.sl j s0 e0
        refine ⟨x', e1, ?_⟩
        subst h
        cases s0 with
        | un => trivial
        | im d => obtain ⟨v, e2, r⟩ := q; exact ⟨v, e2, r.mono es⟩
        | own q' o' => trivial
/-- .. and the view without it again -/
theorem shown {K : PySem.W.Frag} {σ : L2.St} {I H I2 H2 : Hp} {i : Nat} {p : Addr} {o : Ow} {u : HO} (a : At K σ I H Γ) (hg : Γ[i]? = some (.own p o)) (hu : H p = some u) {Γ' : En} (s : Stp (seeE Γ i o.d) (upd I p u) H Γ' I2 H2) (v2 : Same I2 H2) :
    ∃ I3, Grow I H I3 H2 ∧ Tups I3 I2 := by
  obtain ⟨e, n, ow⟩ := a.own hg
  have nt : ∀ xs, u = .tup xs → False := fun xs z => by
    subst z
    cases o with
    | lst ds => obtain ⟨vs, h, _⟩ := ow; rw [h] at hu; cases hu
    | dct ds => obtain ⟨vs, h, _⟩ := ow; rw [h] at hu; cases hu
    | ins C fs => obtain ⟨dx, vs, h, _⟩ := ow; rw [h] at hu; cases hu
  have nf : ∀ ob xs, u = .frz ob (.tup xs) → False := fun ob xs z => by
    subst z
    cases o with
    | lst ds => obtain ⟨vs, h, _⟩ := ow; rw [h] at hu; cases hu
    | dct ds => obtain ⟨vs, h, _⟩ := ow; rw [h] at hu; cases hu
    | ins C fs => obtain ⟨dx, vs, h, _⟩ := ow; rw [h] at hu; cases hu
  have i2 : I2 p = some u := s.sub p u upd_same
  have e13 : Same I (fun b => if b = p then none else I2 b) := fun b w q => by
    have z : b ≠ p := ne_of_none q n
    show (if b = p then none else I2 b) = some w
    rw [if_neg z]
    exact s.sub b w (by rw [upd_ne z]; exact q)
  have e32 : Same (fun b => if b = p then none else I2 b) I2 := fun b w q => by
    have q : (if b = p then none else I2 b) = some w := q
    by_cases z : b = p
    · rw [if_pos z] at q; cases q
    · rw [if_neg z] at q; exact q
  refine ⟨fun b => if b = p then none else I2 b, ⟨fun b w h => s.same b w h seeE_no, e13, e32.trans v2, fun b w q => ?_⟩, ⟨fun b xs q => ?_, fun b o' xs q => ?_⟩⟩
  · have z : b ≠ p := fun z => by
      have q : (if b = p then none else I2 b) = some w := q
      rw [if_pos z] at q; cases q
    rcases s.fresh b w (e32 b w q) with r | r | r
    · rw [upd_ne z] at r; exact .inl r
    · exact .inr r
    · exact (seeE_no r).elim
  · have z : b ≠ p := fun z => by subst z; rw [i2] at q; exact nt xs (Option.some.inj q)
    exact (if_neg z).trans q
  · have z : b ≠ p := fun z => by subst z; rw [i2] at q; exact nf o' xs (Option.some.inj q)
    exact (if_neg z).trans q
/-- read an owned object as data for one expression: what comes of it must hold no list -/
theorem w_see {e : Expr} (i : Nat) {p : Addr} {o : Ow} (hg : Γ[i]? = some (.own p o)) (h : Wp X E XE e (seeE Γ i o.d) fun d _ => Fl d ∧ R d Γ) : Wp X E XE e Γ R := fun σ I H Q a k x => by
  obtain ⟨u, hu⟩ := (a.own hg).2.2.there
  refine h σ (upd I p u) H Q (a.show1 hg hu) (fun v I2 H2 d Γ' ⟨f, r⟩ s2 a2 r2 => ?_) fun C fs dd H' x' kp q => x C fs dd H' x' (fun b w h _ => kp b w h seeE_no) q
  obtain ⟨I3, g, t⟩ := shown a hg hu s2 a2.sub
  exact k v I3 H2 d Γ r g.stp (a.grow g) (r2.flat t f)
theorem t_see {e : Expr} {R : Bool → En → Prop} (i : Nat) {p : Addr} {o : Ow} (hg : Γ[i]? = some (.own p o)) (h : WpT X E XE e (seeE Γ i o.d) fun b _ => R b Γ) : WpT X E XE e Γ R := fun σ I H Q a k x => by
  obtain ⟨u, hu⟩ := (a.own hg).2.2.there
  refine h σ (upd I p u) H Q (a.show1 hg hu) (fun b I2 H2 Γ' r s2 a2 => ?_) fun C fs dd H' x' kp q => x C fs dd H' x' (fun b w h _ => kp b w h seeE_no) q
  obtain ⟨I3, g, t⟩ := shown a hg hu s2 a2.sub
  exact k b I3 H2 Γ r g.stp (a.grow g)

/-! ### subscripts, slices -/
def semIx (X : Cx) : R2 := fun x y H Q => ∀ value slice pins s σ v u, Inv X pins σ H s → RelV x v → RelV y u → subscripted slice false v u = operate [v, u] (getItem v u) → wpAny (model X.prog X.w) X.A (subscriptTail value slice v u) (EP X pins σ Q) X.xe s
theorem ixr_sem (X : Cx) : IxR X (semIx X) := fun va sl pins s σ _ _ _ v u _ I rx ry h hs => h va sl pins s σ v u I rx ry hs
def Ix2 (X : Cx) (x y z : D) : Prop := ∀ I H u v (Q : VK), Same I H → Rp X.K I u x → Rp X.K I v y → (∀ w I' H', Grow I H I' H' → Rp X.K I' w z → Q w H') → semIx X u v H Q
theorem Ix2.of {r : R2} {x y z : D} (ho : IxR X r) (h : ∀ I H u v (Q : VK), Same I H → Rp X.K I u x → Rp X.K I v y → (∀ w I' H', Grow I H I' H' → Rp X.K I' w z → Q w H') → r u v H Q) : Ix2 X x y z :=
  fun I H u v Q e r1 r2 k va sl pins s σ v' u' Iv q1 q2 hs => ho va sl pins s σ H u v v' u' Q Iv q1 q2 (h I H u v Q e r1 r2 k) hs
theorem w_ix {a b : Expr} (h : Wp X E XE a Γ fun x Γ1 => Wp X E XE b Γ1 fun y Γ2 => ∃ z, Ix2 X x y z ∧ R z Γ2) (hs : PlainIx b := by exact fun _ _ => rfl) : Wp X E XE (.Subscript a b pos) Γ R :=
  .of (pe_ix (ixr_sem X) (pe_sem X a) (pe_sem X b) hs) fun σ I H Q a0 k x =>
    h σ I H _ a0 (fun u I1 H1 d1 Γ1 h1 s1 a1 r1 => h1 σ I1 H1 _ a1 (fun v I2 H2 d2 Γ2 ⟨z, ho, r⟩ s2 a2 r2 => ho I2 H2 u v Q a2.sub (r1.mono s2.sub) r2 fun w I3 H3 g r3 => k w I3 H3 z Γ2 r ((s1.trans s2).trans g.stp) (a2.grow g) r3) (x.after s1)) x
theorem rpA_at {K : PySem.W.Frag} {I : Hp} {vs : List V} {ds : List D} {i : Int} {d : D} (r : RpA K I vs ds) (h : atI ds i = some d) : ∃ v, atI vs i = some v ∧ Rp K I v d := by
  unfold atI at h ⊢
  rw [r.len]
  cases e : ixN ds.length i with
  | none => rw [e] at h; cases h
  | some j =>
    rw [e] at h
    exact r.get h
theorem ix2_lst {ds : List D} {i : Int} {d : D} (h : atI ds i = some d) : Ix2 X (.lst ds) (.int i) d := .of ix_list fun I H u v Q e r1 r2 k => by
  cases r1 with
  | lst h1 r1 =>
    cases r2
    obtain ⟨w, hw, rw⟩ := rpA_at r1 h
    exact ⟨_, _, _, w, rfl, rfl, SqL.of (e _ _ h1), hw, k w I H (.refl e) rw⟩
theorem ix2_tup {ds : List D} {i : Int} {d : D} (h : atI ds i = some d) : Ix2 X (.tup ds) (.int i) d := .of ix_tup fun I H u v Q e r1 r2 k => by
  cases r1 with
  | tup h1 r1 =>
    cases r2
    obtain ⟨w, hw, rw⟩ := rpA_at r1 h
    exact ⟨_, _, _, w, rfl, rfl, same_sqT e h1, hw, k w I H (.refl e) rw⟩
theorem ix2_str {s : Str} {i : Int} {c : Nat} (hz : s.length ≤ sizeLine) (h : atI s.cps.toList i = some c) : Ix2 X (.str s) (.int i) (.str ⟨#[c]⟩) := .of ix_str fun I H u v Q e r1 r2 k => by
  cases r1
  cases r2
  exact ⟨s, i, c, rfl, rfl, hz, h, k _ I H (.refl e) (.str _)⟩
end
end Dl

set_option Elab.async false
set_option linter.all false
set_option maxRecDepth 100000
set_option maxHeartbeats 2000000
namespace Dl
open PySem PySem.Spec PyProof.Rows L2

section
variable {X : Cx} {E : XK} {XE : XS} {Γ : En} {R R' : D → En → Prop} {pos : Pos}
/-! ### slices -/
def cutL {α : Type} (xs : List α) (lo hi : Option Int) : List α := (xs.drop (HT.sIx xs.length 0 lo)).take (HT.sIx xs.length xs.length hi - HT.sIx xs.length 0 lo)
theorem cut_rp {K : PySem.W.Frag} {I : Hp} {vs : List V} {ds : List D} {lo hi : Option Int} (r : RpA K I vs ds) : RpA K I (cutV vs lo hi) (cutL ds lo hi) := by
  unfold cutV cutL
  rw [r.len]
  exact (r.drop _).take _
def toOf (X : Cx) : Option Expr → TO
  | none => tNoPart
  | some e => tPart (sem X e)
theorem po_of (X : Cx) : ∀ oe, PO X oe (toOf X oe)
  | none => po_none
  | some e => po_some (pe_sem X e)
def WpO (X : Cx) (E : XK) (XE : XS) (oe : Option Expr) (Γ : En) (R : Option Int → En → Prop) : Prop := match oe with
  | none => R none Γ
  | some e => Wp X E XE e Γ fun d Γ' => ∃ i, d = .int i ∧ R (some i) Γ'
theorem wo_go {oe : Option Expr} {R : Option Int → En → Prop} (h : WpO X E XE oe Γ R) {σ : L2.St} {I H : Hp} {Q : Option Int → Hp → Prop} (a : At X.K σ I H Γ) (x : KX E XE Γ H)
    (k : ∀ o I' H' Γ', R o Γ' → Stp Γ I H Γ' I' H' → At X.K σ I' H' Γ' → Q o H') : toOf X oe σ H Q := by
  cases oe with
  | none => exact k none I H Γ h .refl a
  | some e => exact h σ I H _ a (fun v I' H' d Γ' ⟨i, e, r⟩ s a' r' => by
      subst e
      cases r'
      exact ⟨i, rfl, k (some i) I' H' Γ' r s a'⟩) x
def semSl (X : Cx) : V → Option Int → Option Int → Hp → VK → Prop := fun x lo hi H Q => ∀ pins s σ v vl vu sl, Inv X pins σ H s → RelV x v → s.heap.IsSliceOf sl vl vu .none → IsPart vl lo → IsPart vu hi → ∃ T id, typeLookup (.type T) "__getitem__" = pure (some (.builtin id)) ∧ s.TypeIs v T ∧ wpAny (model X.prog X.w) X.A (getItem v (.ref sl)) (EP X pins σ Q) X.xe s
theorem slr_sem (X : Cx) : SlR X (semSl X) := fun pins s σ _ _ v vl vu _ _ sl _ I rx hs pl pu h => h pins s σ v vl vu sl I rx hs pl pu
def Sl2 (X : Cx) (x : D) (lo hi : Option Int) (z : D) : Prop := ∀ I H u (Q : VK), Same I H → Rp X.K I u x → (∀ w I' H', Grow I H I' H' → Rp X.K I' w z → Q w H') → semSl X u lo hi H Q
theorem Sl2.of {r : V → Option Int → Option Int → Hp → VK → Prop} {x z : D} {lo hi : Option Int} (ho : SlR X r) (h : ∀ I H u (Q : VK), Same I H → Rp X.K I u x → (∀ w I' H', Grow I H I' H' → Rp X.K I' w z → Q w H') → r u lo hi H Q) : Sl2 X x lo hi z :=
  fun I H u Q e r1 k pins s σ v vl vu sl Iv q1 hs pl pu => ho pins s σ H u v vl vu lo hi sl Q Iv q1 hs pl pu (h I H u Q e r1 k)
theorem w_slice {a : Expr} {lo hi : Option Expr} {p2 : Pos} (h : Wp X E XE a Γ fun x Γ1 => WpO X E XE lo Γ1 fun l Γ2 => WpO X E XE hi Γ2 fun u Γ3 => ∃ z, Sl2 X x l u z ∧ R z Γ3) : Wp X E XE (.Subscript a (.Slice lo hi none p2) pos) Γ R :=
  .of (pe_slice (slr_sem X) (pe_sem X a) (po_of X lo) (po_of X hi)) fun σ I H Q a0 k x =>
    h σ I H _ a0 (fun v I1 H1 d Γ1 h1 s1 a1 r1 => wo_go h1 a1 (x.after s1) fun l I2 H2 Γ2 h2 s2 a2 => wo_go h2 a2 ((x.after s1).after s2) fun u I3 H3 Γ3 ⟨z, ho, r⟩ s3 a3 =>
      ho I3 H3 v Q a3.sub ((r1.mono s2.sub).mono s3.sub) fun w I4 H4 g r4 => k w I4 H4 z Γ3 r (((s1.trans s2).trans s3).trans g.stp) (a3.grow g) r4) x
theorem grow_new {I H : Hp} {K : PySem.W.Frag} {z : D} {Q : VK} {p : Addr} {o : HO} (e : Same I H) (k : ∀ w I' H', Grow I H I' H' → Rp K I' w z → Q w H') (hp : H p = none) (r : Rp K (upd I p o) (.ref p) z) : Q (.ref p) (upd H p o) := k _ _ _ (.new e hp) r
theorem new_sub {I H : Hp} {p : Addr} {o : HO} (e : Same I H) (hp : H p = none) : Same I (upd I p o) := fun b w q => by rw [upd_ne (ne_of_none (e b w q) hp)]; exact q
theorem sl2_lst {ds : List D} {lo hi : Option Int} : Sl2 X (.lst ds) lo hi (.lst (cutL ds lo hi)) := .of sl_list fun I H u Q e r1 k => by
  cases r1 with
  | lst h1 r1 => exact ⟨_, _, rfl, SqL.of (e _ _ h1), fun p hp => grow_new e k hp (.lst upd_same (cut_rp (r1.mono (new_sub e hp))))⟩
theorem sl2_tup {ds : List D} {lo hi : Option Int} (hw : ¬ (HT.sIx ds.length 0 lo = 0 ∧ HT.sIx ds.length ds.length hi = ds.length)) : Sl2 X (.tup ds) lo hi (.tup (cutL ds lo hi)) := .of sl_tup fun I H u Q e r1 k => by
  cases r1 with
  | tup h1 r1 => exact ⟨_, _, rfl, same_sqT e h1, by rw [r1.len]; exact hw, fun p hp => grow_new e k hp (.tup (SqT.of upd_same) (cut_rp (r1.mono (new_sub e hp))))⟩

/-! ### argument lists of data -/
def WpD (X : Cx) (E : XK) (XE : XS) (es : List Expr) (Γ : En) (R : List D → En → Prop) : Prop := ∀ σ I H (Q : List V → Hp → Prop), At X.K σ I H Γ →
  (∀ vs I' H' ds Γ', R ds Γ' → Stp Γ I H Γ' I' H' → At X.K σ I' H' Γ' → RpA X.K I' vs ds → Q vs H') → KX E XE Γ H → semA X es σ H Q
theorem d_nil {R : List D → En → Prop} (r : R [] Γ) : WpD X E XE [] Γ R := fun σ I H Q a k x pos pins s Iv => pa_nil.run pos pins s σ H Q Iv (k [] I H [] Γ r .refl a .nil)
theorem d_cons {e : Expr} {es : List Expr} {R : List D → En → Prop} (h : Wp X E XE e Γ fun d Γ1 => WpD X E XE es Γ1 fun ds Γ2 => R (d :: ds) Γ2) (hs : starEach (e :: es) X.env = (false, eval e X.env) :: starEach es X.env := by rfl) : WpD X E XE (e :: es) Γ R :=
  fun σ I H Q a k x pos pins s Iv => (pa_cons (pe_sem X e) (pa_sem X es) hs).run pos pins s σ H Q Iv (h σ I H _ a (fun v I1 H1 d Γ1 h1 s1 a1 r1 => h1 σ I1 H1 _ a1 (fun vs I2 H2 ds Γ2 h2 s2 a2 r2 => k (v :: vs) I2 H2 (d :: ds) Γ2 h2 (s1.trans s2) a2 (.cons (r1.mono s2.sub) r2)) (x.after s1)) x)
/-- a display: a tuple, a list -/
theorem w_tup {es : List Expr} {x1} (h : WpD X E XE es Γ fun ds Γ' => ds.length ≤ sizeLine ∧ R (.tup ds) Γ') : Wp X E XE (.Tuple es x1 pos) Γ R :=
  .of (pe_tup (pa_sem X es)) fun σ I H Q a k x => h σ I H _ a (fun vs I1 H1 ds Γ1 ⟨hl, r⟩ s1 a1 r1 => ⟨by rw [r1.len]; exact hl, fun p hp =>
    k (.ref p) _ _ _ Γ1 r (s1.trans (Grow.new a1.sub hp).stp) (a1.grow (.new a1.sub hp)) (.tup (SqT.of upd_same) (r1.mono (new_sub a1.sub hp)))⟩) x
theorem w_lst {es : List Expr} {R : Ow → En → Prop} (h : WpD X E XE es Γ fun ds Γ' => ds.length ≤ sizeLine ∧ R (.lst ds) Γ') : WpN X E XE (.List es pos) Γ R :=
  .of (pe_lst (pa_sem X es)) fun σ I H Q a k x => h σ I H _ a (fun vs I1 H1 ds Γ1 ⟨hl, r⟩ s1 a1 r1 => ⟨by rw [r1.len]; exact hl, fun p hp =>
    new_at k r s1 a1 hp ⟨vs, upd_same, r1⟩⟩) x
theorem w_dnew {R : Ow → En → Prop} (r : R (.dct []) Γ) : WpN X E XE (.Dict [] [] pos) Γ R :=
  .of pe_dnewK fun σ I H Q a k x => fun p hp => new_at k r .refl a hp ⟨[], upd_same, .nil⟩

/-! ### built-in functions -/
def semC (X : Cx) (f : Value) : List V → Hp → VK → Prop := fun xs H Q => ∀ pins s σ us, Inv X pins σ H s → Vals xs us → wpAny (model X.prog X.w) X.A (call f us) (EP X pins σ Q) X.xe s
theorem cr_sem (X : Cx) (f : Value) : CallR X f (semC X f) := fun pins s σ _ _ us _ I r h => h pins s σ us I r
def Cl (X : Cx) (f : Value) (xs : List D) (z : D) : Prop := ∀ I H us (Q : VK), Same I H → RpA X.K I us xs → (∀ w I' H', Grow I H I' H' → Rp X.K I' w z → Q w H') → semC X f us H Q
theorem Cl.of {f : Value} {r : List V → Hp → VK → Prop} {xs : List D} {z : D} (ho : CallR X f r) (h : ∀ I H us (Q : VK), Same I H → RpA X.K I us xs → (∀ w I' H', Grow I H I' H' → Rp X.K I' w z → Q w H') → r us H Q) : Cl X f xs z :=
  fun I H us Q e r1 k pins s σ v' Iv q1 => ho pins s σ H us v' Q Iv q1 (h I H us Q e r1 k)
theorem w_callB {x : Str} {p : Pos} {e : Expr} {es : List Expr} {id : String} (hg : Gl X x) (hm : X.mg x = none) (hv : bootBuiltins x = some (.builtin id)) (h : WpD X E XE (e :: es) Γ fun ds Γ' => ∃ z, Cl X (.builtin id) ds z ∧ R z Γ') (hn : x ≠ "__name__" := by decide) (hdb : (x == ("__debug__" : Str)) = false := by decide)
    (he : starEach (e :: es) X.env = (false, eval e X.env) :: starEach es X.env := by rfl) (hpl : (backTo pos (starEach es X.env)).any (·.1) = false := by rfl) : Wp X E XE (.Call (.Name x p) (e :: es) [] pos) Γ R :=
  .of (pe_callB (cr_sem X _) hg hm hv (pa_sem X _) hn hdb he hpl) fun σ I H Q a k x => h σ I H _ a (fun vs I1 H1 ds Γ1 ⟨z, hc, r⟩ s1 a1 r1 => hc I1 H1 vs Q a1.sub r1 fun w I2 H2 g r2 => k w I2 H2 z Γ1 r (s1.trans g.stp) (a1.grow g) r2) x
theorem w_callTy {x : Str} {p : Pos} {e : Expr} {es : List Expr} {T : String} (hg : Gl X x) (hm : X.mg x = none) (hv : bootBuiltins x = some (.type T)) (h : WpD X E XE (e :: es) Γ fun ds Γ' => ∃ z, Cl X (.type T) ds z ∧ R z Γ') (hn : x ≠ "__name__" := by decide) (hdb : (x == ("__debug__" : Str)) = false := by decide)
    (he : starEach (e :: es) X.env = (false, eval e X.env) :: starEach es X.env := by rfl) (hpl : (backTo pos (starEach es X.env)).any (·.1) = false := by rfl) : Wp X E XE (.Call (.Name x p) (e :: es) [] pos) Γ R :=
  .of (pe_callTy (cr_sem X _) hg hm hv (pa_sem X _) hn hdb he hpl) fun σ I H Q a k x => h σ I H _ a (fun vs I1 H1 ds Γ1 ⟨z, hc, r⟩ s1 a1 r1 => hc I1 H1 vs Q a1.sub r1 fun w I2 H2 g r2 => k w I2 H2 z Γ1 r (s1.trans g.stp) (a1.grow g) r2) x

/-! ### attributes -/
theorem w_fld {e : Expr} {f : Str} (h : Wp X E XE e Γ fun d Γ' => ∃ C fs z, d = .ins C fs ∧ Cls X.K C ∧ NoAttr X.K C f ∧ fs.lookup f = some z ∧ R z Γ') (hb : attributeBase e f X.env (eval e X.env) = eval e X.env := by rfl) : Wp X E XE (.Attribute e f pos) Γ R :=
  .of (pe_fld (pe_sem X e) hb) fun σ I H Q a k x => h σ I H _ a (fun v I1 H1 d Γ1 ⟨C, fs, z, e, c, n, l, r⟩ s1 a1 r1 => by
    subst e
    cases r1 with
    | ins h1 r1 =>
      obtain ⟨w, hw, rw⟩ := r1.get l
      exact ⟨_, C, _, _, w, rfl, a1.sub _ _ h1, c, n, hw, k w I1 H1 z Γ1 r s1 a1 rw⟩) x
/-- .. of an instance that is owned -/
theorem w_fldO {x : Str} {p0 : Pos} {f : Str} (i : Nat) {p C : Addr} {fs : List (Str × D)} {z : D} (hN : X.N[i]? = some x) (hv : Vis X.env.scope x) (hg : Γ[i]? = some (.own p (.ins C fs))) (c : Cls X.K C) (n : NoAttr X.K C f) (l : fs.lookup f = some z) (r : R z Γ)
    (hb : attributeBase (.Name x p0) f X.env (eval (.Name x p0) X.env) = eval (.Name x p0) X.env := by rfl) (hd : (x == ("__debug__" : Str)) = false := by decide) (hcd : (x == ("__classdict__" : Str)) = false := by decide) : Wp X E XE (.Attribute (.Name x p0) f pos) Γ R :=
  .of (pe_fld (pe_var hN hv hd hcd) hb) fun σ I H Q a k _ => by
    obtain ⟨e, nn, dx, vs, h1, r1⟩ := a.own hg
    obtain ⟨w, hw, rw⟩ := r1.get l
    exact ⟨_, e, _, C, dx, vs, w, rfl, h1, c, n, hw, k w I H z Γ r .refl a rw⟩

/-! ### calls of the program's own functions -/
inductive Res where
  | ok (d : D) (Γ' : En) | ex (C : Addr) (fs : List (Str × V))
/-- a function's promise, by data -/
def Cg (K : PySem.W.Frag) (pre : En → Res → Prop) : Sp := fun vs H Q E => ∃ I Γ r, At K (vs.map some) I H Γ ∧ pre Γ r ∧ match r with
  | .ok d Γ' => ∀ v I' H', Stp Γ I H Γ' I' H' → At K (vs.map some) I' H' Γ' → Rp K I' v d → Q v H'
  | .ex C fs => ∀ dd H', Kp Γ H H' → H' dd = some (.xd fs) → E (.ref C) (some dd) H'
inductive Ag where
  | d (x : D) | o (i : Nat)
def AgAt (K : PySem.W.Frag) (σ : L2.St) (I : Hp) (Γ : En) (v : V) : Ag → Prop
  | .d x => Rp K I v x
  | .o i => ∃ p o, Γ[i]? = some (.own p o) ∧ v = .ref p
inductive RpG (K : PySem.W.Frag) (σ : L2.St) (I : Hp) (Γ : En) : List V → List Ag → Prop
  | nil : RpG K σ I Γ [] []
  | cons {v : V} {g : Ag} {vs : List V} {gs : List Ag} : AgAt K σ I Γ v g → RpG K σ I Γ vs gs → RpG K σ I Γ (v :: vs) (g :: gs)
theorem RpG.len {K : PySem.W.Frag} {σ : L2.St} {I : Hp} {Γ : En} : ∀ {vs : List V} {gs : List Ag}, RpG K σ I Γ vs gs → vs.length = gs.length
  | _, _, .nil => rfl
  | _, _, .cons _ r => congrArg (· + 1) r.len
theorem RpG.get {K : PySem.W.Frag} {σ : L2.St} {I : Hp} {Γ : En} : ∀ {vs : List V} {gs : List Ag} {i : Nat} {g : Ag}, RpG K σ I Γ vs gs → gs[i]? = some g → ∃ v, vs[i]? = some v ∧ AgAt K σ I Γ v g
  | _, _, _, _, .nil, e => by simp at e
  | _, _, 0, _, .cons h _, e => by simp at e; subst e; exact ⟨_, rfl, h⟩
  | _, _, i + 1, d, .cons _ r, e => by
    obtain ⟨v, h1, h2⟩ := RpG.get (i := i) (g := d) r (by simpa using e)
    exact ⟨v, by simpa using h1, h2⟩
def agS (Γ : En) : Ag → Sl
  | .d x => .im x
  | .o i => Γ.getD i .un
def WpG (X : Cx) (E : XK) (XE : XS) (es : List Expr) (Γ : En) (R : List Ag → En → Prop) : Prop := ∀ σ I H (Q : List V → Hp → Prop), At X.K σ I H Γ →
  (∀ vs I' H' gs Γ', R gs Γ' → Stp Γ I H Γ' I' H' → At X.K σ I' H' Γ' → RpG X.K σ I' Γ' vs gs → Q vs H') → KX E XE Γ H → semA X es σ H Q
theorem g_nil {R : List Ag → En → Prop} (r : R [] Γ) : WpG X E XE [] Γ R := fun σ I H Q a k x pos pins s Iv => pa_nil.run pos pins s σ H Q Iv (k [] I H [] Γ r .refl a .nil)
theorem g_cons {e : Expr} {es : List Expr} {R : List Ag → En → Prop} (h : Wp X E XE e Γ fun d Γ1 => WpG X E XE es Γ1 fun ds Γ2 => R (.d d :: ds) Γ2) (hs : starEach (e :: es) X.env = (false, eval e X.env) :: starEach es X.env := by rfl) : WpG X E XE (e :: es) Γ R :=
  fun σ I H Q a k x pos pins s Iv => (pa_cons (pe_sem X e) (pa_sem X es) hs).run pos pins s σ H Q Iv (h σ I H _ a (fun v I1 H1 d Γ1 h1 s1 a1 r1 => h1 σ I1 H1 _ a1 (fun vs I2 H2 ds Γ2 h2 s2 a2 r2 => k (v :: vs) I2 H2 (.d d :: ds) Γ2 h2 (s1.trans s2) a2 (.cons (r1.mono s2.sub) r2)) (x.after s1)) x)
/-- an owned object, lent -/
theorem g_own {x : Str} {px : Pos} {es : List Expr} {R : List Ag → En → Prop} (i : Nat) {p : Addr} {o : Ow} (hN : X.N[i]? = some x) (hv : Vis X.env.scope x) (hg : Γ[i]? = some (.own p o)) (h : WpG X E XE es Γ fun ds Γ2 => (∃ p o, Γ2[i]? = some (.own p o)) ∧ R (.o i :: ds) Γ2)
    (hs : starEach (.Name x px :: es) X.env = (false, eval (.Name x px) X.env) :: starEach es X.env := by rfl) (hd : (x == ("__debug__" : Str)) = false := by decide) (hcd : (x == ("__classdict__" : Str)) = false := by decide) : WpG X E XE (.Name x px :: es) Γ R :=
  fun σ I H Q a k x0 pos pins s Iv => (pa_cons (pe_var hN hv hd hcd) (pa_sem X es) hs).run pos pins s σ H Q Iv ⟨.ref p, (a.own hg).1, h σ I H _ a (fun vs I2 H2 ds Γ2 ⟨⟨p', o', h2⟩, r⟩ s2 a2 r2 => by
    have e := (a2.own h2).1
    rw [(a.own hg).1] at e
    cases e
    exact k (.ref p :: vs) I2 H2 (.o i :: ds) Γ2 r s2 a2 (.cons ⟨p, o', h2, rfl⟩ r2)) x0⟩
/-- the environment behind a call -/
structure Bak (Γ1 : En) (gs : List Ag) (As' : En) (Γ2 : En) : Prop where
  len : Γ2.length = Γ1.length
  at' : ∀ j : Nat, (∃ (k : Nat) (p : Addr) (o : Ow), gs[k]? = some (Ag.o j) ∧ As'[k]? = some (Sl.own p o) ∧ Γ2[j]? = some (Sl.own p o)) ∨ ((∀ k : Nat, gs[k]? ≠ some (Ag.o j)) ∧ Γ2[j]? = Γ1[j]?)
theorem bak0 {Γ1 : En} {gs : List Ag} {As' : En} (h : ∀ (k i : Nat), gs[k]? ≠ some (Ag.o i)) : Bak Γ1 gs As' Γ1 := ⟨rfl, fun j => .inr ⟨fun k => h k j, rfl⟩⟩
theorem ags_at {Γ1 : En} {gs : List Ag} {k : Nat} {q : Addr} {o : Ow} (h : (gs.map (agS Γ1))[k]? = some (.own q o)) : ∃ i, gs[k]? = some (.o i) ∧ Γ1[i]? = some (.own q o) := by
  rw [List.getElem?_map] at h
  cases e : gs[k]? with
  | none => rw [e] at h; cases h
  | some g =>
    rw [e] at h
    have h : agS Γ1 g = .own q o := Option.some.inj h
    cases g with
    | d x => cases h
    | o i =>
      refine ⟨i, rfl, ?_⟩
      have h : Γ1.getD i .un = .own q o := h
      cases e2 : Γ1[i]? with
      | none => rw [List.getD_eq_getElem?_getD, e2] at h; cases h
      | some s => rw [List.getD_eq_getElem?_getD, e2] at h; exact congrArg some h
theorem at_back {K : PySem.W.Frag} {σ : L2.St} {I1 H1 I2 H2 : Hp} {Γ1 As' Γ2 : En} {vs : List V} {gs : List Ag} (a1 : At K σ I1 H1 Γ1) (rg : RpG K σ I1 Γ1 vs gs) (s : Stp (gs.map (agS Γ1)) I1 H1 As' I2 H2) (a2 : At K (vs.map some) I2 H2 As') (b : Bak Γ1 gs As' Γ2) :
    At K σ I2 H2 Γ2 ∧ Stp Γ1 I1 H1 Γ2 I2 H2 := by
  have oA : ∀ q, Own (gs.map (agS Γ1)) q → Own Γ1 q := fun q ⟨k, o, h⟩ => by
    obtain ⟨i, _, h2⟩ := ags_at h
    exact ⟨i, o, h2⟩
  have was : ∀ (j : Nat) (p : Addr) (o : Ow), Γ2[j]? = some (.own p o) → ∃ o', Γ1[j]? = some (.own p o') := fun j p o h => by
    rcases b.at' j with ⟨k, p', o', h1, h2, h3⟩ | ⟨h1, h2⟩
    · rw [h] at h3; cases h3
      obtain ⟨v, hv, p2, o2, e2, ev⟩ := rg.get h1
      have := (a2.own h2).1
      rw [List.getElem?_map, hv] at this
      subst ev
      cases this
      exact ⟨o2, e2⟩
    · rw [h2] at h; exact ⟨o, h⟩
  refine ⟨⟨a2.sub, a1.len.trans b.len.symm, fun j sl h => ?_, fun i j p o o' h h' => ?_⟩, ⟨fun c o h n => s.same c o h fun z => n (oA c z), s.sub, fun c o h => ?_, fun p ⟨j, o, h⟩ => ?_⟩⟩
  · rcases b.at' j with ⟨k, p', o', h1, h2, h3⟩ | ⟨h1, h2⟩
    · rw [h] at h3; cases h3
      obtain ⟨o2, e2⟩ := was j p' o' h
      obtain ⟨_, n3, w3⟩ := a2.own h2
      exact ⟨_, (a1.own e2).1, rfl, n3, w3⟩
    · rw [h2] at h
      obtain ⟨x, e1, q⟩ := a1.sl j sl h
      refine ⟨x, e1, ?_⟩
      cases sl with
      | un => trivial
      | im d => obtain ⟨v, e2, r⟩ := q; exact ⟨v, e2, r.mono s.sub⟩
      | own q' o' =>
        obtain ⟨e2, n2, r⟩ := q
        obtain ⟨w, hw⟩ := r.there
        have nA : ¬ Own (gs.map (agS Γ1)) q' := fun ⟨k, o3, h3⟩ => by
          obtain ⟨i, g1, g2⟩ := ags_at h3
          have : i = j := a1.nd i j q' o3 o' g2 h
          subst this
          exact h1 k g1
        refine ⟨e2, ?_, r.mono s.sub ((s.same q' w hw nA).trans hw.symm)⟩
        cases e3 : I2 q' with
        | none => rfl
        | some u =>
          rcases s.fresh q' u e3 with z | z | z
          · rw [n2] at z; cases z
          · rw [hw] at z; cases z
          · exact (nA z).elim
  · obtain ⟨o1, e1⟩ := was i p o h
    obtain ⟨o2, e2⟩ := was j p o' h'
    exact a1.nd i j p o1 o2 e1 e2
  · rcases s.fresh c o h with z | z | z
    · exact .inl z
    · exact .inr (.inl z)
    · exact .inr (.inr (oA c z))
  · obtain ⟨o', e⟩ := was j p o h
    exact .inl ⟨j, o', e⟩
theorem at_args {K : PySem.W.Frag} {σ : L2.St} {I1 H1 : Hp} {Γ1 : En} {vs : List V} {gs : List Ag} (a1 : At K σ I1 H1 Γ1) (rg : RpG K σ I1 Γ1 vs gs) (nd : ∀ (j k i : Nat), gs[j]? = some (Ag.o i) → gs[k]? = some (Ag.o i) → j = k) : At K (vs.map some) I1 H1 (gs.map (agS Γ1)) := by
  refine ⟨a1.sub, by rw [List.length_map, List.length_map, rg.len], fun k sl h => ?_, fun j k p o o' h h' => ?_⟩
  · rw [List.getElem?_map] at h
    cases e : gs[k]? with
    | none => rw [e] at h; cases h
    | some g =>
      rw [e] at h
      have h : agS Γ1 g = sl := Option.some.inj h
      obtain ⟨v, hv, r⟩ := rg.get e
      refine ⟨some v, by rw [List.getElem?_map, hv] <;> rfl, ?_⟩
      subst h
      cases g with
      | d x => exact ⟨v, rfl, r⟩
      | o i =>
        obtain ⟨p, o, h1, h2⟩ := r
        subst h2
        show SlAt K I1 H1 (some (.ref p)) (Γ1.getD i .un)
        rw [List.getD_eq_getElem?_getD, h1]
        exact ⟨rfl, (a1.own h1).2.1, (a1.own h1).2.2⟩
  · obtain ⟨i, g1, g2⟩ := ags_at h
    obtain ⟨i', g1', g2'⟩ := ags_at h'
    have : i = i' := a1.nd i i' p o o' g2 g2'
    subst this
    exact nd j k i g1 g1'
/-- a function of the text, with its promise -/
structure Fv (P : Program) (w : World) (K : PySem.W.Frag) (mg : Str → Option Value) (base : Heap) (CX : CXT) (k : Nat) (x : Str) (ps : List Str) (pre : En → Res → Prop) : Prop where
  ex : ∃ f fd, mg x = some (.ref f) ∧ PySem.W.keepIn K (.ref f) = true ∧ Binds K fd ps [] ∧ FnOk P w K mg base CX k f fd ps (Cg K pre)
theorem Cg.go {K : PySem.W.Frag} {pre : En → Res → Prop} {σ : L2.St} {I1 H1 : Hp} {Γ Γ1 : En} {I H : Hp} {vs : List V} {gs : List Ag} {Q : VK} (a1 : At K σ I1 H1 Γ1) (s1 : Stp Γ I H Γ1 I1 H1) (rg : RpG K σ I1 Γ1 vs gs) (x : KX E XE Γ H)
    (k : ∀ v I' H' d Γ', R d Γ' → Stp Γ I H Γ' I' H' → At K σ I' H' Γ' → Rp K I' v d → Q v H')
    (h : (∀ (j k i : Nat), gs[j]? = some (Ag.o i) → gs[k]? = some (Ag.o i) → j = k) ∧ ∃ r, pre (gs.map (agS Γ1)) r ∧ match r with
      | .ok d As' => ∃ Γ2, Bak Γ1 gs As' Γ2 ∧ R d Γ2
      | .ex C fs => XE C fs) : Cg K pre vs H1 Q E := by
  obtain ⟨nd, r, hp, hr⟩ := h
  refine ⟨I1, _, r, at_args a1 rg nd, hp, ?_⟩
  cases r with
  | ok d As' =>
    obtain ⟨Γ2, b, hR⟩ := hr
    intro v I2 H2 s2 a2 r2
    obtain ⟨a3, s3⟩ := at_back a1 rg s2 a2 b
    exact k v I2 H2 d Γ2 hR (s1.trans s3) a3 r2
  | ex C fs =>
    intro dd H' kp hd
    refine x C fs dd H' hr (Kp.after s1 fun b o h n => kp b o h fun ⟨j, o', z⟩ => ?_) hd
    obtain ⟨i, _, g2⟩ := ags_at z
    exact n ⟨i, o', g2⟩
theorem w_call {CX : CXT} {k : Nat} {ps : List Str} {pre : En → Res → Prop} {x : Str} {p : Pos} {e : Expr} {es : List Expr} (F : Fv X.prog X.w X.K X.mg X.base CX k x ps pre) (hr : Room k X.A) (hg : Gl X x) (hx : Passes CX X E)
    (h : WpG X E XE (e :: es) Γ fun gs Γ1 => (∀ (j k i : Nat), gs[j]? = some (Ag.o i) → gs[k]? = some (Ag.o i) → j = k) ∧ ∃ r, pre (gs.map (agS Γ1)) r ∧ match r with
      | .ok d As' => ∃ Γ2, Bak Γ1 gs As' Γ2 ∧ R d Γ2
      | .ex C fs => XE C fs) (hdb : (x == ("__debug__" : Str)) = false := by decide) (he : starEach (e :: es) X.env = (false, eval e X.env) :: starEach es X.env := by rfl) (hpl : (backTo pos (starEach es X.env)).any (·.1) = false := by rfl) :
    Wp X E XE (.Call (.Name x p) (e :: es) [] pos) Γ R := by
  obtain ⟨f, fd, hm, hk, hb, F⟩ := F.ex
  refine .of (pe_call F hr hg hm hk hb .nil hx (pa_sem X _) hdb he hpl) fun σ I H Q a k x => h σ I H _ a (fun vs I1 H1 gs Γ1 hh s1 a1 r1 => ?_) x
  show Cg X.K pre (vs ++ []) H1 Q E
  rw [List.append_nil]
  exact Cg.go a1 s1 r1 x k hh
/-- a method of a class of the text -/
structure Mv (P : Program) (w : World) (K : PySem.W.Frag) (mg : Str → Option Value) (base : Heap) (CX : CXT) (k : Nat) (C : Addr) (m : Str) (ps : List Str) (pre : En → Res → Prop) : Prop where
  ex : ∃ f fd, Meth K C m f ∧ Binds K fd ps [] ∧ FnOk P w K mg base CX k f fd ps (Cg K pre)
theorem w_meth {CX : CXT} {k : Nat} {ps : List Str} {pre : En → Res → Prop} {x m : Str} {px apos : Pos} {e : Expr} {es : List Expr} {C : Addr} (i : Nat) {p : Addr} {fs : List (Str × D)} (F : Mv X.prog X.w X.K X.mg X.base CX k C m ps pre) (c : Cls X.K C) (hr : Room k X.A) (hx : Passes CX X E)
    (hN : X.N[i]? = some x) (hv : Vis X.env.scope x) (hi : Γ[i]? = some (.own p (.ins C fs))) (hl : fs.lookup m = none)
    (h : WpG X E XE (e :: es) Γ fun gs Γ1 => (∃ p o, Γ1[i]? = some (.own p o)) ∧ (∀ (j k i' : Nat), (Ag.o i :: gs)[j]? = some (Ag.o i') → (Ag.o i :: gs)[k]? = some (Ag.o i') → j = k) ∧ ∃ r, pre ((Ag.o i :: gs).map (agS Γ1)) r ∧ match r with
      | .ok d As' => ∃ Γ2, Bak Γ1 (.o i :: gs) As' Γ2 ∧ R d Γ2
      | .ex C fs => XE C fs) (hst : starEach (e :: es) X.env = (false, eval e X.env) :: starEach es X.env := by rfl) (hpl : (backTo pos (starEach es X.env)).any (·.1) = false := by rfl)
    {pl : Sem Bool} (ht : eval (.Call (.Attribute (.Name x px) m apos) (e :: es) [] pos) X.env = (do let ov ← eval (.Name x px) X.env; standAt apos.atName; let (f, first) ← holding [ov] (getMethod ov m pl); callWith pos f first (backTo pos (starEach (e :: es) X.env)) (backToKw pos (keywordEach [] X.env))) := by rfl) (hd : (x == ("__debug__" : Str)) = false := by decide) (hcd : (x == ("__classdict__" : Str)) = false := by decide) :
    Wp X E XE (.Call (.Attribute (.Name x px) m apos) (e :: es) [] pos) Γ R := by
  obtain ⟨f, fd, hm, hb, F⟩ := F.ex
  refine .of (pe_meth (pe_var hN hv hd hcd) c hm F hr hb .nil hx (pa_sem X _) hst hpl ht) fun σ I H Q a k x0 => ?_
  obtain ⟨e1, n1, dx, vs1, h1, r1⟩ := a.own hi
  refine ⟨.ref p, e1, p, dx, vs1, rfl, h1, r1.getN hl, h σ I H _ a (fun vs I1 H1 gs Γ1 ⟨⟨p', o', h2⟩, hh⟩ s1 a1 rg => ?_) x0⟩
  show Cg X.K pre (.ref p :: (vs ++ [])) H1 Q E
  rw [List.append_nil]
  have e := (a1.own h2).1
  rw [e1] at e
  cases e
  exact Cg.go a1 s1 (.cons (g := .o i) ⟨p, o', h2, rfl⟩ rg) x0 k hh
theorem w_meth0 {CX : CXT} {k : Nat} {ps : List Str} {pre : En → Res → Prop} {x m : Str} {px apos : Pos} {C : Addr} (i : Nat) {p : Addr} {fs : List (Str × D)} (F : Mv X.prog X.w X.K X.mg X.base CX k C m ps pre) (c : Cls X.K C) (hr : Room k X.A) (hx : Passes CX X E)
    (hN : X.N[i]? = some x) (hv : Vis X.env.scope x) (hi : Γ[i]? = some (.own p (.ins C fs))) (hl : fs.lookup m = none)
    (h : ∃ r, pre [.own p (.ins C fs)] r ∧ match r with
      | .ok d As' => ∃ Γ2, Bak Γ [.o i] As' Γ2 ∧ R d Γ2
      | .ex C fs => XE C fs)
    {pl : Sem Bool} (ht : eval (.Call (.Attribute (.Name x px) m apos) [] [] pos) X.env = (do let ov ← eval (.Name x px) X.env; standAt apos.atName; let (f, first) ← holding [ov] (getMethod ov m pl); callWith pos f first (backTo pos (starEach [] X.env)) (backToKw pos (keywordEach [] X.env))) := by rfl) (hd : (x == ("__debug__" : Str)) = false := by decide) (hcd : (x == ("__classdict__" : Str)) = false := by decide) :
    Wp X E XE (.Call (.Attribute (.Name x px) m apos) [] [] pos) Γ R := by
  obtain ⟨f, fd, hm, hb, F⟩ := F.ex
  refine .of (pe_meth0 (pe_var hN hv hd hcd) c hm F hr hb .nil hx ht) fun σ I H Q a k x0 => ?_
  obtain ⟨e1, n1, dx, vs1, h1, r1⟩ := a.own hi
  refine ⟨.ref p, e1, p, dx, vs1, rfl, h1, r1.getN hl, ?_⟩
  show Cg X.K pre [.ref p] H Q E
  have hs : ([Ag.o i].map (agS Γ)) = [.own p (.ins C fs)] := by
    show [Γ.getD i .un] = _
    rw [List.getD_eq_getElem?_getD, hi] <;> rfl
  refine Cg.go a .refl (.cons (g := .o i) ⟨p, _, hi, rfl⟩ .nil) x0 k ⟨fun j k i' h1 h2 => ?_, by rw [hs]; exact h⟩
  cases j with
  | zero =>
    cases k with
    | zero => rfl
    | succ k => cases h2
  | succ j => cases h1
end
end Dl

set_option Elab.async false
set_option linter.all false
set_option maxRecDepth 100000
set_option maxHeartbeats 2000000
namespace Dl
open PySem PySem.Spec PyProof.Rows L2

/-! ### statements -/
structure Re where
  nx : En → Prop
  rt : D → En → Prop := fun _ _ => False
  bk : En → Prop := fun _ => False
  ct : En → Prop := fun _ => False
structure KD (K : PySem.W.Frag) (R : Re) (Γ : En) (I H : Hp) (Z : Ends) : Prop where
  nx : ∀ σ' I' H' Γ', R.nx Γ' → Stp Γ I H Γ' I' H' → At K σ' I' H' Γ' → Z.nx σ' H'
  rt : ∀ v σ' I' H' d Γ', R.rt d Γ' → Stp Γ I H Γ' I' H' → At K σ' I' H' Γ' → Rp K I' v d → Z.rt v H'
  bk : ∀ σ' I' H' Γ', R.bk Γ' → Stp Γ I H Γ' I' H' → At K σ' I' H' Γ' → Z.bk σ' H'
  ct : ∀ σ' I' H' Γ', R.ct Γ' → Stp Γ I H Γ' I' H' → At K σ' I' H' Γ' → Z.ct σ' H'
theorem KD.after {K : PySem.W.Frag} {R : Re} {Γ Γ1 : En} {I H I1 H1 : Hp} {Z : Ends} (s : Stp Γ I H Γ1 I1 H1) (k : KD K R Γ I H Z) : KD K R Γ1 I1 H1 Z :=
  ⟨fun σ' I' H' Γ' r s' a => k.nx σ' I' H' Γ' r (s.trans s') a, fun v σ' I' H' d Γ' r s' a q => k.rt v σ' I' H' d Γ' r (s.trans s') a q, fun σ' I' H' Γ' r s' a => k.bk σ' I' H' Γ' r (s.trans s') a, fun σ' I' H' Γ' r s' a => k.ct σ' I' H' Γ' r (s.trans s') a⟩
def WpS (X : Cx) (E : XK) (XE : XS) (st : Stmt) (Γ : En) (R : Re) : Prop := ∀ σ I H (Z : Ends), At X.K σ I H Γ → KD X.K R Γ I H Z → KX E XE Γ H → semS X st Z σ H
def WpSs (X : Cx) (E : XK) (XE : XS) (st : List Stmt) (Γ : En) (R : Re) : Prop := ∀ σ I H (Z : Ends), At X.K σ I H Γ → KD X.K R Γ I H Z → KX E XE Γ H → semSs X st Z σ H
section
variable {X : Cx} {E : XK} {XE : XS} {Γ : En} {R : Re} {pos : Pos}
theorem WpS.of {st : Stmt} {t : TS} (p : PS X st t) (h : ∀ σ I H (Z : Ends), At X.K σ I H Γ → KD X.K R Γ I H Z → KX E XE Γ H → t Z σ H) : WpS X E XE st Γ R := fun σ I H Z a k x pins s Iv => p.run pins s σ H Z Iv (h σ I H Z a k x)
theorem WpSs.of {st : List Stmt} {t : TS} (p : PSs X st t) (h : ∀ σ I H (Z : Ends), At X.K σ I H Γ → KD X.K R Γ I H Z → KX E XE Γ H → t Z σ H) : WpSs X E XE st Γ R := fun σ I H Z a k x pins s Iv => p.run pins s σ H Z Iv (h σ I H Z a k x)
theorem ss_nil (r : R.nx Γ) : WpSs X E XE [] Γ R := .of pss_nil fun σ I H Z a k x => k.nx σ I H Γ r .refl a
theorem ss_cons {st : Stmt} {rest : List Stmt} (h : WpS X E XE st Γ { R with nx := fun Γ' => WpSs X E XE rest Γ' R }) : WpSs X E XE (st :: rest) Γ R :=
  .of (pss_cons (ps_sem X st) (pss_sem X rest)) fun σ I H Z a k x => h σ I H _ a ⟨fun σ' I' H' Γ' r s' a' => r σ' I' H' Z a' (k.after s') (x.after s'), k.rt, k.bk, k.ct⟩ x
theorem ss_one {st : Stmt} (h : WpS X E XE st Γ R) : WpSs X E XE [st] Γ R := .of (pss_one (ps_sem X st)) fun σ I H Z a k x => h σ I H Z a k x
theorem s_pass (r : R.nx Γ) : WpS X E XE (.Pass pos) Γ R := .of ps_pass fun σ I H Z a k x => k.nx σ I H Γ r .refl a
theorem s_doc {x j pos'} (r : R.nx Γ) : WpS X E XE (.Expr (.Constant (.str x) j pos) pos') Γ R := .of ps_doc fun σ I H Z a k _ => k.nx σ I H Γ r .refl a
theorem s_expr {e : Expr} (h : Wp X E XE e Γ fun _ Γ' => R.nx Γ') (hs : swapsWith e none pos.line X.env = pure false := by rfl) : WpS X E XE (.Expr e pos) Γ R :=
  .of (ps_expr (pe_sem X e) hs) fun σ I H Z a k x => h σ I H _ a (fun v I1 H1 d Γ1 r s1 a1 r1 => k.nx σ I1 H1 Γ1 r s1 a1) x
theorem s_ret {e : Expr} (h : Wp X E XE e Γ R.rt) : WpS X E XE (.Return (some e) pos) Γ R :=
  .of (ps_ret (pe_sem X e)) fun σ I H Z a k x => h σ I H _ a (fun v I1 H1 d Γ1 r s1 a1 r1 => k.rt v σ I1 H1 d Γ1 r s1 a1 r1) x
theorem s_retN (h : R.rt .non Γ) : WpS X E XE (.Return none pos) Γ R := .of ps_retN fun σ I H Z a k x => k.rt .non σ I H .non Γ h .refl a .non
theorem s_if {c : Expr} {t u : List Stmt} (h : WpT X E XE c Γ fun b Γ1 => (b = true → WpSs X E XE t Γ1 R) ∧ (b = false → WpSs X E XE u Γ1 R)) : WpS X E XE (.If c t u pos) Γ R :=
  .of (ps_if (pt_sem X c) (pss_sem X t) (pss_sem X u)) fun σ I H Z a k x => h σ I H _ a (fun b I1 H1 Γ1 ⟨hT, hF⟩ s1 a1 => by
    cases b with
    | true => exact iteT (hT rfl σ I1 H1 Z a1 (k.after s1) (x.after s1))
    | false => exact iteF (hF rfl σ I1 H1 Z a1 (k.after s1) (x.after s1))) x
/-- name = value -/
theorem stp_set {K : PySem.W.Frag} {σ : L2.St} {I H : Hp} {i : Nat} {d : D} (a : At K σ I H Γ) : Stp Γ I H (Γ.set i (.im d)) I H := ⟨fun _ _ h _ => h, Same.refl I, fun _ _ h => .inl h, fun _ h => .inl (own_set_im h)⟩
theorem s_set {x : Str} (i : Nat) {e : Expr} {pos' : Pos} (hN : X.N.Nodup) (hi : X.N[i]? = some x) (hx : Loc X.env.scope x) (h : Wp X E XE e Γ fun d Γ' => R.nx (Γ'.set i (.im d))) (hs : swapsWith e (some (.Name x pos')) pos.line X.env = pure false := by rfl) (hf : X.fn x = true ∨ X.env.scope.names.lookup x = some .local := by exact .inl rfl) :
    WpS X E XE (.Assign [.Name x pos'] e pos) Γ R :=
  .of (ps_set hN hi hx (pe_sem X e) hs hf) fun σ I H Z a k x => h σ I H _ a (fun v I1 H1 d Γ1 r s1 a1 r1 => k.nx _ I1 H1 _ r (s1.trans (stp_set a1)) (a1.set i r1)) x
theorem setN_go {K : PySem.W.Frag} {σ : L2.St} {I H I1 H1 : Hp} {Γ1 : En} {i : Nat} {p : Addr} {o : Ow} {Z : Ends} (k : KD K R Γ I H Z) (r : R.nx (Γ1.set i (.own p o))) (s1 : Stp Γ I H Γ1 I1 H1) (a1 : At K σ I1 H1 Γ1) (n : I1 p = none) (ho : OwAt K I1 H1 p o) (f : ¬ Own Γ1 p) (was : Own Γ p ∨ H p = none) :
    Z.nx (σ.set i (some (.ref p))) H1 :=
  k.nx _ I1 H1 _ r ⟨s1.same, s1.sub, s1.fresh, fun q h => by
    rcases own_set_own h with h | h
    · exact s1.own q h
    · subst h; exact was⟩ (a1.setOwn i n ho f)
theorem s_setN {x : Str} (i : Nat) {e : Expr} {pos' : Pos} (hN : X.N.Nodup) (hi : X.N[i]? = some x) (hx : Loc X.env.scope x) (h : WpN X E XE e Γ fun o Γ' => ∀ p, R.nx (Γ'.set i (.own p o))) (hs : swapsWith e (some (.Name x pos')) pos.line X.env = pure false := by rfl) (hf : X.fn x = true ∨ X.env.scope.names.lookup x = some .local := by exact .inl rfl) :
    WpS X E XE (.Assign [.Name x pos'] e pos) Γ R :=
  .of (ps_set hN hi hx (pe_sem X e) hs hf) fun σ I H Z a k x => h σ I H _ a (fun p I1 H1 o Γ1 r s1 a1 n ho f was => setN_go k (r p) s1 a1 n ho f was) x
/-! ### targets -/
def semG (X : Cx) (tg : Expr) : TG := fun v σ H Q => ∀ pins s u, Inv X pins σ H s → RelV v u → wpAny (model X.prog X.w) X.A (assign tg X.env u) (fun _ s' => ∃ σ' H', Inv X pins σ' H' s' ∧ Q σ' H') X.xe s
theorem pg_sem (X : Cx) (tg : Expr) : PG X tg (semG X tg) := ⟨fun pins s _ _ _ u _ I r h => h pins s u I r⟩
def semGs (X : Cx) (ts : List Expr) : TGs := fun vs σ H Q => ∀ pins s us, Inv X pins σ H s → Vals vs us → wpAny (model X.prog X.w) X.A (assignInOrder ((assignEach ts X.env).map (·.2)) us) (fun _ s' => ∃ σ' H', Inv X pins σ' H' s' ∧ Q σ' H') X.xe s
theorem pgs_sem (X : Cx) (ts : List Expr) : PGs X ts (semGs X ts) := ⟨fun pins s _ _ _ us _ I r h => h pins s us I r⟩
/-- only the slots js change -/
structure Keeps (js : List Nat) (σ σ' : L2.St) : Prop where
  len : σ'.length = σ.length
  sl : ∀ j, j ∉ js → σ'[j]? = σ[j]?
theorem Keeps.refl {js : List Nat} {σ : L2.St} : Keeps js σ σ := ⟨rfl, fun _ _ => rfl⟩
theorem Keeps.trans {js : List Nat} {σ σ1 σ2 : L2.St} (a : Keeps js σ σ1) (b : Keeps js σ1 σ2) : Keeps js σ σ2 := ⟨b.len.trans a.len, fun j h => (b.sl j h).trans (a.sl j h)⟩
/-- a target takes data; only the slots js change -/
def WpG1 (X : Cx) (js : List Nat) (tg : Expr) (d : D) (Γ : En) (R : En → Prop) : Prop := ∀ σ I H v (Q : L2.St → Hp → Prop), At X.K σ I H Γ → Rp X.K I v d →
  (∀ σ' Γ', R Γ' → Stp Γ I H Γ' I H → At X.K σ' I H Γ' → Keeps js σ σ' → Q σ' H) → semG X tg v σ H Q
def WpGs (X : Cx) (js : List Nat) (ts : List Expr) (ds : List D) (Γ : En) (R : En → Prop) : Prop := ∀ σ I H vs (Q : L2.St → Hp → Prop), At X.K σ I H Γ → RpA X.K I vs ds →
  (∀ σ' Γ', R Γ' → Stp Γ I H Γ' I H → At X.K σ' I H Γ' → Keeps js σ σ' → Q σ' H) → semGs X ts vs σ H Q
theorem g1_name {js : List Nat} {x : Str} (i : Nat) {d : D} {R : En → Prop} (hN : X.N.Nodup) (hi : X.N[i]? = some x) (hx : Loc X.env.scope x) (hj : i ∈ js) (r : R (Γ.set i (.im d))) (hf : X.fn x = true ∨ X.env.scope.names.lookup x = some .local := by first | exact .inl rfl | exact .inr rfl | assumption) : WpG1 X js (.Name x pos) d Γ R :=
  fun σ I H v Q a rv k pins s u Iv ru => (pg_name hN hi hx hf).run pins s σ H v u Q Iv ru (k _ _ r (stp_set a) (a.set i rv) ⟨List.length_set, fun j hjs => by
    have : i ≠ j := fun e => hjs (e ▸ hj)
    rw [List.getElem?_set_ne this]⟩)
theorem gs_nil {js : List Nat} {R : En → Prop} (r : R Γ) : WpGs X js [] [] Γ R := fun σ I H vs Q a rv k pins s us Iv ru => by
  cases rv
  exact pgs_nil.run pins s σ H [] us Q Iv ru ⟨rfl, k σ Γ r .refl a .refl⟩
theorem gs_cons {js : List Nat} {e : Expr} {es : List Expr} {d : D} {ds : List D} {R : En → Prop} (h : WpG1 X js e d Γ fun Γ1 => WpGs X js es ds Γ1 R)
    (hs : (assignEach (e :: es) X.env).map (·.2) = assign e X.env :: (assignEach es X.env).map (·.2) := by rfl) : WpGs X js (e :: es) (d :: ds) Γ R := fun σ I H vs Q a rv k pins s us Iv ru => by
  cases rv with
  | cons r0 rr =>
    refine (pgs_cons (pg_sem X e) (pgs_sem X es) hs).run pins s σ H _ us Q Iv ru ⟨_, _, rfl, h σ I H _ _ a r0 fun σ1 Γ1 h1 s1 a1 j1 => h1 σ1 I H _ Q a1 rr fun σ2 Γ2 r2 s2 a2 j2 => k σ2 Γ2 r2 (s1.trans s2) a2 (j1.trans j2)⟩
theorem g1_tup {js : List Nat} {es : List Expr} {k0 : Nat} {n : Nat} {ds : List D} {R : En → Prop} (hc : X.calm = true) (h : WpGs X js es ds Γ R) (hl : ds.length = n := by rfl) (hn : (assignEach es X.env).length = n := by rfl) (hst : (assignEach es X.env).findIdx? (·.1) = none := by rfl) : WpG1 X js (.Tuple es k0 pos) (.tup ds) Γ R :=
  fun σ I H v Q a rv k pins s u Iv ru => by
    cases rv with
    | tup h1 r1 => exact (pg_tup hc (pgs_sem X es) hn hst).run pins s σ H _ u Q Iv ru ⟨_, _, rfl, same_sqT a.sub h1, by rw [r1.len]; exact hl, h σ I H _ Q a r1 k⟩
/-- target = value -/
theorem s_asg {js : List Nat} {tg e : Expr} (h : Wp X E XE e Γ fun d Γ1 => WpG1 X js tg d Γ1 R.nx) (hs : swapsWithSole [tg] e pos.line X.env = pure false := by rfl) (hw : swappedStores [tg] e X.env = pure none := by rfl)
    (h1 : (assignEach [tg] X.env).map (·.2) = [assign tg X.env] := by rfl) : WpS X E XE (.Assign [tg] e pos) Γ R :=
  .of (ps_asg (pe_sem X e) (pg_sem X tg) hs hw h1) fun σ I H Z a k x => h σ I H _ a (fun v I1 H1 d Γ1 h1 s1 a1 r1 => h1 σ I1 H1 v _ a1 r1 fun σ' Γ' r s' a' _ => k.nx σ' I1 H1 Γ' r (s1.trans s') a') x
/-- x, y = a, b -/
theorem s_par (i j : Nat) {x y : Str} {a b : Expr} {px py pt : Pos} {kt k2 pt2} (hc : X.calm = true) (hN : X.N.Nodup) (hi : X.N[i]? = some x) (hj : X.N[j]? = some y) (hij : i ≠ j)
    (hx : X.env.scope.names.lookup x = some .local) (hy : X.env.scope.names.lookup y = some .local) (h : WpD X E XE [a, b] Γ fun ds Γ1 => ∃ d e, ds = [d, e] ∧ R.nx ((Γ1.set i (.im d)).set j (.im e)))
    (hw : swappedStores [.Tuple [.Name x px, .Name y py] kt pt] (.Tuple [a, b] k2 pt2) X.env = pure (some [x, y]) := by rfl)
    (hs : swapsWithSole [.Tuple [.Name x px, .Name y py] kt pt] (.Tuple [a, b] k2 pt2) pos.line X.env = pure false := by rfl) : WpS X E XE (.Assign [.Tuple [.Name x px, .Name y py] kt pt] (.Tuple [a, b] k2 pt2) pos) Γ R :=
  .of (ps_par hc hN hi hj hij hx hy (pa_sem X _) hw hs) fun σ I H Z a0 k x => h σ I H _ a0 (fun vs I1 H1 ds Γ1 ⟨d, e, ed, r⟩ s1 a1 r1 => by
    subst ed
    cases r1 with
    | cons r1 rr =>
      cases rr with
      | cons r2 rr =>
        cases rr
        have a2 := a1.set i r1
        exact ⟨_, _, rfl, k.nx _ I1 H1 _ r ((s1.trans (stp_set a1)).trans (stp_set a2)) (a2.set j r2)⟩) x
/-! ### what is owned changes -/
/-- l.append(e) -/
theorem s_append {x : Str} {px apos cpos : Pos} (i : Nat) {p : Addr} {ds : List D} {e : Expr} (hN : X.N[i]? = some x) (hv : Vis X.env.scope x) (hg : Γ[i]? = some (.own p (.lst ds)))
    (h : Wp X E XE e Γ fun d Γ1 => ∃ es, Γ1[i]? = some (.own p (.lst es)) ∧ es.length < sizeLine ∧ R.nx (Γ1.set i (.own p (.lst (es ++ [d])))))
    (hs : swapsWith (.Call (.Attribute (.Name x px) "append" apos) [e] [] cpos) none pos.line X.env = pure false := by rfl)
    (hbase : attributeBase (.Name x px) "append" X.env (eval (.Name x px) X.env) = eval (.Name x px) X.env := by rfl) (hfew : ((backTo cpos (starEach [e] X.env)).all (fun x => !x.1) && (backToKw cpos (keywordEach [] X.env)).all (fun x => x.1.isSome) && decide (([e] : List Expr).length + ([] : List Keyword).length + (if ([] : List Keyword).isEmpty then 0 else 1) < 30)) = true := by rfl)
    (hline : (apos.endLine == cpos.line) = true := by rfl) (hst : starEach [e] X.env = (false, eval e X.env) :: starEach [] X.env := by rfl) (hd : (x == ("__debug__" : Str)) = false := by decide) (hcd : (x == ("__classdict__" : Str)) = false := by decide) :
    WpS X E XE (.Expr (.Call (.Attribute (.Name x px) "append" apos) [e] [] cpos) pos) Γ R :=
  .of (ps_expr (pe_bm PySem.F.plainAttrs_list PySem.F.slot_list_append PySem.F.type_list_append mt_append (pe_var hN hv hd hcd) (pa_cons (pe_sem X e) pa_nil hst) hbase hfew hline hst) hs) fun σ I H Z a k x => by
    obtain ⟨e1, n1, vs, h1, r1⟩ := a.own hg
    refine ⟨.ref p, e1, .inl ⟨rfl, _, SqL.of h1⟩, h σ I H _ a (fun v I1 H1 d Γ1 ⟨es, g1, hl, r⟩ s1 a1 rv => ?_) x⟩
    obtain ⟨e2, n2, ws, h2, r2⟩ := a1.own g1
    exact ⟨p, ws, v, rfl, rfl, h2, by rw [r2.len]; exact hl, k.nx σ I1 _ _ r (s1.trans (Stp.mut g1)) (a1.mut g1 ⟨_, upd_same, r2.append (.cons rv .nil)⟩)⟩
/-- l.extend(e), e a list -/
theorem s_extend {x : Str} {px apos cpos : Pos} (i : Nat) {p : Addr} {ds : List D} {e : Expr} (hN : X.N[i]? = some x) (hv : Vis X.env.scope x) (hg : Γ[i]? = some (.own p (.lst ds)))
    (h : Wp X E XE e Γ fun d Γ1 => ∃ es fs, Γ1[i]? = some (.own p (.lst es)) ∧ d = .lst fs ∧ es.length + fs.length ≤ sizeLine ∧ R.nx (Γ1.set i (.own p (.lst (es ++ fs)))))
    (hs : swapsWith (.Call (.Attribute (.Name x px) "extend" apos) [e] [] cpos) none pos.line X.env = pure false := by rfl)
    (hbase : attributeBase (.Name x px) "extend" X.env (eval (.Name x px) X.env) = eval (.Name x px) X.env := by rfl) (hfew : ((backTo cpos (starEach [e] X.env)).all (fun x => !x.1) && (backToKw cpos (keywordEach [] X.env)).all (fun x => x.1.isSome) && decide (([e] : List Expr).length + ([] : List Keyword).length + (if ([] : List Keyword).isEmpty then 0 else 1) < 30)) = true := by rfl)
    (hline : (apos.endLine == cpos.line) = true := by rfl) (hst : starEach [e] X.env = (false, eval e X.env) :: starEach [] X.env := by rfl) (hd : (x == ("__debug__" : Str)) = false := by decide) (hcd : (x == ("__classdict__" : Str)) = false := by decide) :
    WpS X E XE (.Expr (.Call (.Attribute (.Name x px) "extend" apos) [e] [] cpos) pos) Γ R :=
  .of (ps_expr (pe_bm PySem.F.plainAttrs_list PySem.F.slot_list_extend PySem.F.type_list_extend mt_extend (pe_var hN hv hd hcd) (pa_cons (pe_sem X e) pa_nil hst) hbase hfew hline hst) hs) fun σ I H Z a k x => by
    obtain ⟨e1, n1, vs, h1, r1⟩ := a.own hg
    refine ⟨.ref p, e1, .inl ⟨rfl, _, SqL.of h1⟩, h σ I H _ a (fun v I1 H1 d Γ1 ⟨es, fs, g1, ed, hl, r⟩ s1 a1 rv => ?_) x⟩
    subst ed
    obtain ⟨e2, n2, ws, h2, r2⟩ := a1.own g1
    cases rv with
    | lst h3 r3 => exact ⟨p, _, ws, _, rfl, rfl, h2, a1.sub _ _ h3, by rw [r2.len, r3.len]; exact hl, k.nx σ I1 _ _ r (s1.trans (Stp.mut g1)) (a1.mut g1 ⟨_, upd_same, r2.append r3⟩)⟩
/-- l[j] = e -/
theorem s_setL {x : Str} {px spos : Pos} (i : Nat) {p : Addr} {e b : Expr} (hN : X.N[i]? = some x) (hv : Vis X.env.scope x)
    (h : Wp X E XE e Γ fun d Γ1 => ∃ es, Γ1[i]? = some (.own p (.lst es)) ∧ Wp X E XE b Γ1 fun y Γ2 => ∃ es z j, Γ2[i]? = some (.own p (.lst es)) ∧ y = .int z ∧ ixN es.length z = some j ∧ R.nx (Γ2.set i (.own p (.lst (es.set j d)))))
    (ha : ∀ v, assign (.Subscript (.Name x px) b spos) X.env v = (do
      let ov ← holding [v] (eval (.Name x px) X.env)
      let iv ← holding [v, ov] (eval b X.env)
      standAt spos
      holding [v, ov, iv] (setItem ov iv v)
      release [v, ov, iv] []) := by intro _; rfl)
    (hs : swapsWithSole [.Subscript (.Name x px) b spos] e pos.line X.env = pure false := by rfl) (hw : swappedStores [.Subscript (.Name x px) b spos] e X.env = pure none := by rfl)
    (h1 : (assignEach [.Subscript (.Name x px) b spos] X.env).map (·.2) = [assign (.Subscript (.Name x px) b spos) X.env] := by rfl) (hd : (x == ("__debug__" : Str)) = false := by decide) (hcd : (x == ("__classdict__" : Str)) = false := by decide) :
    WpS X E XE (.Assign [.Subscript (.Name x px) b spos] e pos) Γ R :=
  .of (ps_asg (pe_sem X e) (pg_sub (pe_var hN hv hd hcd) (pe_sem X b) set_list ha) hs hw h1) fun σ I H Z a k x => h σ I H _ a (fun v I1 H1 d Γ1 ⟨es, g1, h1⟩ s1 a1 rv => by
    refine ⟨.ref p, (a1.own g1).1, h1 σ I1 H1 _ a1 (fun w I2 H2 y Γ2 ⟨es', z, j, g2, ey, hj, r⟩ s2 a2 rw => ?_) (x.after s1)⟩
    subst ey
    cases rw
    obtain ⟨e2, n2, ws, h2, r2⟩ := a2.own g2
    exact ⟨p, ws, z, j, rfl, rfl, h2, by rw [r2.len]; exact hj, k.nx σ I2 _ _ r ((s1.trans s2).trans (Stp.mut g2)) (a2.mut g2 ⟨_, upd_same, r2.set (rv.mono s2.sub) j⟩)⟩) x
/-- o.f = e -/
theorem s_fld {x : Str} {px apos : Pos} (i : Nat) {p C : Addr} {f : Str} {e : Expr} (hN : X.N[i]? = some x) (hv : Vis X.env.scope x) (c : Cls X.K C) (n : NoAttr X.K C f)
    (h : Wp X E XE e Γ fun d Γ1 => ∃ fs, Γ1[i]? = some (.own p (.ins C fs)) ∧ fs.length < 1000 ∧ R.nx (Γ1.set i (.own p (.ins C (putD f d fs)))))
    (hs : swapsWith e (some (.Attribute (.Name x px) f apos)) pos.line X.env = pure false := by rfl) (hd : (x == ("__debug__" : Str)) = false := by decide) (hcd : (x == ("__classdict__" : Str)) = false := by decide) :
    WpS X E XE (.Assign [.Attribute (.Name x px) f apos] e pos) Γ R :=
  .of (ps_fld (pe_var hN hv hd hcd) (pe_sem X e) hs) fun σ I H Z a k x => h σ I H _ a (fun v I1 H1 d Γ1 ⟨fs, g1, hl, r⟩ s1 a1 rv => by
    obtain ⟨e1, n1, dx, vs, h1, r1⟩ := a1.own g1
    exact ⟨.ref p, e1, p, C, dx, vs, rfl, h1, c, n, by rw [r1.len]; exact hl, k.nx σ I1 _ _ r (s1.trans (Stp.mut g1)) (a1.mut g1 ⟨dx, _, upd_same, r1.put rv⟩)⟩) x
end
end Dl

set_option Elab.async false
set_option linter.all false
set_option maxRecDepth 100000
set_option maxHeartbeats 2000000
namespace Dl
open PySem PySem.Spec PyProof.Rows L2

section
variable {X : Cx} {E : XK} {XE : XS} {Γ : En} {R : Re} {pos : Pos}
/-! ### what is walked -/
structure Yields (K : PySem.W.Frag) (J : It) (I : Hp) (ds : List D) : Prop where
  ex : ∃ G Y, L2.Walk J ds.length G Y ∧ (∀ H, Same I H → G H) ∧ ∀ i I1 H v H' d, Same I I1 → Same I1 H → ds[i]? = some d → Y i H v H' → ∃ I2, Grow I1 H I2 H' ∧ Rp K I2 v d
def semI (X : Cx) (tg iter : Expr) : TI := fun σ H R => ∀ pins s, Inv X pins σ H s → wpAny (model X.prog X.w) X.A (eval iter X.env) (fun v s1 => wpAny (model X.prog X.w) X.A (pyIter v) (PIE X pins σ tg R) X.xe s1) X.xe s
theorem pi_sem (X : Cx) (tg iter : Expr) : PI X tg iter (semI X tg iter) := ⟨fun pins s _ _ _ I h => h pins s I⟩
def WpI (X : Cx) (E : XK) (XE : XS) (tg iter : Expr) (Γ : En) (R : List D → En → Prop) : Prop := ∀ σ I H (Q : It → Hp → Prop), At X.K σ I H Γ →
  (∀ J I' H' ds Γ', R ds Γ' → Stp Γ I H Γ' I' H' → At X.K σ I' H' Γ' → Yields X.K J I' ds → Q J H') → KX E XE Γ H → semI X tg iter σ H Q
theorem WpI.of {tg iter : Expr} {t : TI} {R : List D → En → Prop} (p : PI X tg iter t) (h : ∀ σ I H (Q : It → Hp → Prop), At X.K σ I H Γ →
    (∀ J I' H' ds Γ', R ds Γ' → Stp Γ I H Γ' I' H' → At X.K σ I' H' Γ' → Yields X.K J I' ds → Q J H') → KX E XE Γ H → t σ H Q) : WpI X E XE tg iter Γ R := fun σ I H Q a k x pins s Iv => p.run pins s σ H Q Iv (h σ I H Q a k x)
variable {tg : Expr} {Ri : List D → En → Prop}
theorem i_list {e : Expr} (h : Wp X E XE e Γ fun d Γ' => ∃ ds, d = .lst ds ∧ Ri ds Γ') : WpI X E XE tg e Γ Ri :=
  .of (pi_list (pe_sem X e)) fun σ I H Q a k x => h σ I H _ a (fun v I1 H1 d Γ1 ⟨ds, e, r⟩ s1 a1 r1 => by
    subst e
    cases r1 with
    | @lst b xs _ h1 r1 =>
      refine ⟨_, rfl, ⟨_, SqL.of (a1.sub _ _ h1)⟩, k _ I1 H1 ds Γ1 r s1 a1 ⟨_, _, by rw [← r1.len]; exact walk_list, fun H2 e2 => SqL.of (e2 _ _ h1), fun i I2 H2 w H3 d e2 v2 hd hy => ?_⟩⟩
      obtain ⟨rfl, hy⟩ := hy
      obtain ⟨w', hw, rw⟩ := r1.get hd
      rw [hy] at hw; cases hw
      exact ⟨I2, .refl v2, rw.mono e2⟩) x
theorem i_tup {e : Expr} (h : Wp X E XE e Γ fun d Γ' => ∃ ds, d = .tup ds ∧ Ri ds Γ') : WpI X E XE tg e Γ Ri :=
  .of (pi_tup (pe_sem X e)) fun σ I H Q a k x => h σ I H _ a (fun v I1 H1 d Γ1 ⟨ds, e, r⟩ s1 a1 r1 => by
    subst e
    cases r1 with
    | @tup b xs _ h1 r1 =>
      refine ⟨_, rfl, ⟨_, same_sqT a1.sub h1⟩, k _ I1 H1 ds Γ1 r s1 a1 ⟨_, _, by rw [← r1.len]; exact walk_tup, fun H2 e2 => same_sqT e2 h1, fun i I2 H2 w H3 d e2 v2 hd hy => ?_⟩⟩
      obtain ⟨rfl, hy⟩ := hy
      obtain ⟨w', hw, rw⟩ := r1.get hd
      rw [hy] at hw; cases hw
      exact ⟨I2, .refl v2, rw.mono e2⟩) x
def rngD (lo : Int) (n : Nat) : List D := (List.range n).map fun (i : Nat) => D.int (lo + (i : Int))
theorem rng_at {lo : Int} {n i : Nat} {d : D} (h : (rngD lo n)[i]? = some d) : d = .int (lo + (i : Int)) := by
  unfold rngD at h
  rw [List.getElem?_map] at h
  cases e : (List.range n)[i]? with
  | none => rw [e] at h; cases h
  | some j =>
    rw [e] at h
    obtain ⟨hl, hj⟩ := List.getElem?_eq_some_iff.mp e
    rw [List.getElem_range] at hj
    subst hj
    exact (Option.some.inj h).symm
theorem i_range1 {a : Expr} {p : Pos} (hg : Gl X "range") (hm : X.mg "range" = none) (h : WpD X E XE [a] Γ fun ds Γ' => ∃ j, ds = [.int j] ∧ -(2 ^ 62) ≤ j ∧ j < 2 ^ 62 ∧ Ri (rngD 0 j.toNat) Γ') (hs : starEach [a] X.env = [(false, eval a X.env)] := by rfl) : WpI X E XE tg (.Call (.Name "range" p) [a] [] pos) Γ Ri :=
  .of (pi_range1 hg hm (pa_sem X _) hs) fun σ I H Q a k x => h σ I H _ a (fun vs I1 H1 ds Γ1 ⟨j, e, h1, h2, r⟩ s1 a1 r1 => by
    subst e
    cases r1 with
    | cons q rr =>
      cases q
      cases rr
      refine ⟨j, rfl, h1, h2, k _ I1 H1 _ Γ1 r s1 a1 ⟨_, _, by rw [show (rngD 0 j.toNat).length = j.toNat by unfold rngD; rw [List.length_map, List.length_range]]; exact walk_range, fun _ _ => trivial, fun i I2 H2 w H3 d e2 v2 hd hy => ?_⟩⟩
      obtain ⟨rfl, rfl⟩ := hy
      rw [rng_at hd]
      exact ⟨I2, .refl v2, .int _⟩) x
theorem i_range2 {a b : Expr} {p : Pos} (hg : Gl X "range") (hm : X.mg "range" = none) (h : WpD X E XE [a, b] Γ fun ds Γ' => ∃ i j, ds = [.int i, .int j] ∧ (-(2 ^ 62) ≤ i ∧ i < 2 ^ 62 ∧ -(2 ^ 62) ≤ j ∧ j < 2 ^ 62) ∧ Ri (rngD i (j - i).toNat) Γ')
    (hs : starEach [a, b] X.env = [(false, eval a X.env), (false, eval b X.env)] := by rfl) (hs2 : starEach [b] X.env = [(false, eval b X.env)] := by rfl) : WpI X E XE tg (.Call (.Name "range" p) [a, b] [] pos) Γ Ri :=
  .of (pi_range2 hg hm (pa_sem X _) hs hs2) fun σ I H Q a k x => h σ I H _ a (fun vs I1 H1 ds Γ1 ⟨i0, j, e, h1, r⟩ s1 a1 r1 => by
    subst e
    cases r1 with
    | cons q rr =>
      cases q
      cases rr with
      | cons q rr =>
        cases q
        cases rr
        refine ⟨i0, j, rfl, h1, k _ I1 H1 _ Γ1 r s1 a1 ⟨_, _, by rw [show (rngD i0 (j - i0).toNat).length = (j - i0).toNat by unfold rngD; rw [List.length_map, List.length_range]]; exact walk_range, fun _ _ => trivial, fun i I2 H2 w H3 d e2 v2 hd hy => ?_⟩⟩
        obtain ⟨rfl, rfl⟩ := hy
        rw [rng_at hd]
        exact ⟨I2, .refl v2, .int _⟩) x
def rngC (lo c : Int) (n : Nat) : List D := (List.range n).map fun (i : Nat) => D.int (lo + (i : Nat) * c)
theorem rngC_at {lo c : Int} {n i : Nat} {d : D} (h : (rngC lo c n)[i]? = some d) : d = .int (lo + (i : Nat) * c) := by
  unfold rngC at h
  rw [List.getElem?_map] at h
  cases e : (List.range n)[i]? with
  | none => rw [e] at h; cases h
  | some j =>
    rw [e] at h
    obtain ⟨hl, hj⟩ := List.getElem?_eq_some_iff.mp e
    rw [List.getElem_range] at hj
    subst hj
    exact (Option.some.inj h).symm
/-- a text, sign by sign -/
def signsD (z : Str) : List D := z.cps.toList.map fun c => D.str ⟨#[c]⟩
theorem i_str {e : Expr} (h : Wp X E XE e Γ fun d Γ' => ∃ z, d = .str z ∧ Ri (signsD z) Γ') : WpI X E XE tg e Γ Ri :=
  .of (pi_str (pe_sem X e)) fun σ I H Q a k x => h σ I H _ a (fun v I1 H1 d Γ1 ⟨z, e, r⟩ s1 a1 r1 => by
    subst e
    cases r1
    refine ⟨z, rfl, k _ I1 H1 _ Γ1 r s1 a1 ⟨_, _, by rw [show (signsD z).length = z.cps.size by unfold signsD; rw [List.length_map, Array.length_toList]]; exact walk_str, fun _ _ => trivial, fun i I2 H2 w H3 d e2 v2 hd hy => ?_⟩⟩
    obtain ⟨rfl, c, hc, rfl⟩ := hy
    unfold signsD at hd
    rw [List.getElem?_map, Array.getElem?_toList, hc] at hd
    cases hd
    exact ⟨I2, .refl v2, .str _⟩) x
theorem pair_grow {K : PySem.W.Frag} {I1 H H' : Hp} {T : Addr} {x y : V} {d e : D} (v2 : Same I1 H) (hT : H T = none) (eH : H' = upd H T (.tup [x, y])) (rx : Rp K I1 x d) (ry : Rp K I1 y e) : ∃ I2, Grow I1 H I2 H' ∧ Rp K I2 (.ref T) (.tup [d, e]) := by
  subst eH
  exact ⟨_, .new v2 hT, .tup (SqT.of upd_same) (.cons (rx.mono (new_sub v2 hT)) (.cons (ry.mono (new_sub v2 hT)) .nil))⟩
def enumD (ds : List D) : List D := ds.zipIdx.map fun (p : D × Nat) => D.tup [.int (p.2 : Nat), p.1]
theorem i_enum {e : Expr} {p tpos : Pos} {elts : List Expr} {kk : Nat} (hg : Gl X "enumerate") (hm : X.mg "enumerate" = none) (h : WpD X E XE [e] Γ fun ds Γ' => ∃ xs, ds = [.lst xs] ∧ Ri (enumD xs) Γ') (hs : starEach [e] X.env = [(false, eval e X.env)] := by rfl) : WpI X E XE (.Tuple elts kk tpos) (.Call (.Name "enumerate" p) [e] [] pos) Γ Ri :=
  .of (pi_enum hg hm (pa_sem X _) hs) fun σ I H Q a k x => h σ I H _ a (fun vs I1 H1 ds Γ1 ⟨xs, e, r⟩ s1 a1 r1 => by
    subst e
    cases r1 with
    | cons q rr =>
      cases rr
      cases q with
      | @lst b ys _ h1 q =>
        refine ⟨_, _, rfl, SqL.of (a1.sub _ _ h1), k _ I1 H1 _ Γ1 r s1 a1 ⟨_, _, by rw [show (enumD xs).length = ys.length by unfold enumD; rw [List.length_map, List.length_zipIdx, q.len]]; exact walk_enum, fun H2 e2 => SqL.of (e2 _ _ h1), fun i I2 H2 w H3 d e2 v2 hd hy => ?_⟩⟩
        obtain ⟨T, u, w', rfl, hT, eH, hx, hw⟩ := hy
        cases hx
        unfold enumD at hd
        rw [List.getElem?_map, List.getElem?_zipIdx] at hd
        cases e3 : xs[i]? with
        | none => rw [e3] at hd; cases hd
        | some d0 =>
          rw [e3] at hd
          have hd : D.tup [.int ((0 + i : Nat) : Int), d0] = d := Option.some.inj hd
          rw [Nat.zero_add] at hd
          subst hd
          obtain ⟨w2, hw2, rw2⟩ := q.get e3
          have hw : ys[i]? = some w' := hw
          rw [hw] at hw2; cases hw2
          exact pair_grow v2 hT eH (.int _) (rw2.mono e2)) x
def zipD (ds es : List D) : List D := (ds.zip es).map fun (p : D × D) => D.tup [p.1, p.2]
theorem i_zip {e e2 : Expr} {p tpos : Pos} {elts : List Expr} {kk : Nat} (hg : Gl X "zip") (hm : X.mg "zip" = none) (h : WpD X E XE [e, e2] Γ fun ds Γ' => ∃ xs ys, ds = [.lst xs, .lst ys] ∧ Ri (zipD xs ys) Γ')
    (hs : starEach [e, e2] X.env = (false, eval e X.env) :: starEach [e2] X.env := by rfl) (hs2 : (backTo pos (starEach [e2] X.env)).any (·.1) = false := by rfl) : WpI X E XE (.Tuple elts kk tpos) (.Call (.Name "zip" p) [e, e2] [] pos) Γ Ri :=
  .of (pi_zip hg hm (pa_sem X _) hs hs2) fun σ I H Q a k x => h σ I H _ a (fun vs I1 H1 ds Γ1 ⟨xs, ys, e, r⟩ s1 a1 r1 => by
    subst e
    cases r1 with
    | cons q rr =>
      cases rr with
      | cons q' rr =>
        cases rr
        cases q with
        | @lst b us _ h1 q =>
          cases q' with
          | @lst b' ws _ h1' q' =>
            refine ⟨_, _, _, _, rfl, SqL.of (a1.sub _ _ h1), SqL.of (a1.sub _ _ h1'), k _ I1 H1 _ Γ1 r s1 a1 ⟨_, _, walk_zip (xs := us) (ys := ws) (by unfold zipD; rw [List.length_map, List.length_zip, q.len, q'.len]), fun H2 e2 => ⟨SqL.of (e2 _ _ h1), SqL.of (e2 _ _ h1')⟩, fun i I2 H2 w H3 d e2 v2 hd hy => ?_⟩⟩
            obtain ⟨T, u, w', rfl, hT, eH, hx, hw⟩ := hy
            unfold zipD at hd
            rw [List.getElem?_map] at hd
            cases e3 : (xs.zip ys)[i]? with
            | none => rw [e3] at hd; cases hd
            | some d0 =>
              rw [e3] at hd
              have hd : D.tup [d0.1, d0.2] = d := Option.some.inj hd
              subst hd
              obtain ⟨g1, g2⟩ := List.getElem?_zip_eq_some.mp (show (xs.zip ys)[i]? = some (d0.1, d0.2) from e3)
              obtain ⟨w2, hw2, rw2⟩ := q.get g1
              obtain ⟨w3, hw3, rw3⟩ := q'.get g2
              have hx : us[i]? = some u := hx
              have hw : ws[i]? = some w' := hw
              rw [hx] at hw2; cases hw2
              rw [hw] at hw3; cases hw3
              exact pair_grow v2 hT eH (rw2.mono e2) (rw3.mono e2)) x

/-! ### for -/
def ForD (X : Cx) (E : XK) (XE : XS) (js : List Nat) (tg : Expr) (body : List Stmt) (R : Re) : List D → En → Prop
  | [], Γ => R.nx Γ
  | d :: ds, Γ => WpG1 X js tg d Γ fun Γ1 => WpSs X E XE body Γ1 { nx := ForD X E XE js tg body R ds, ct := ForD X E XE js tg body R ds, bk := R.nx, rt := R.rt }
theorem s_for {js : List Nat} {iter : Expr} {body : List Stmt} (hp : PassesOwn (model X.prog X.w) X.A X.env X.xe) (hc : X.calm = true) (h : WpI X E XE tg iter Γ fun ds Γ1 => ForD X E XE js tg body R ds Γ1) (hs : ∀ x, foldedSetIterable iter X.env x = pure x := by intro _; rfl) : WpS X E XE (.For tg iter body [] pos) Γ R :=
  .of (ps_for hp hc (pi_sem X tg iter) (pg_sem X tg) (pss_sem X body) hs) fun σ I H Z a k x => h σ I H _ a (fun J I1 H1 ds Γ1 fd s1 a1 yl => by
    obtain ⟨G, Y, w, hG, hY⟩ := yl.ex
    refine for_it w (fun i σ' H' => ∃ I' Γ', At X.K σ' I' H' Γ' ∧ Stp Γ1 I1 H1 Γ' I' H' ∧ ForD X E XE js tg body R (ds.drop i) Γ') ⟨I1, Γ1, a1, .refl, fd⟩ (fun i σ' H' _ ⟨I', Γ', a', s', _⟩ => hG H' (s'.sub.trans a'.sub)) ?_ ?_
    · rintro i v σ' H' H2 hi ⟨I', Γ', a', s', f'⟩ hy
      have hd : ds[i]? = some ds[i] := by simp [hi]
      have ed : ds.drop i = ds[i] :: ds.drop (i + 1) := (List.drop_eq_getElem_cons hi)
      rw [ed] at f'
      obtain ⟨I2, g, rv⟩ := hY i I' H' v H2 _ s'.sub a'.sub hd hy
      have s2 := (s1.trans s').trans (g.stp (Γ := Γ'))
      refine f' σ' I2 H2 v _ (a'.grow g) rv fun σ3 Γ3 h3 s3 a3 _ => h3 σ3 I2 H2 _ a3 ?_ (x.after (s2.trans s3))
      have s4 := s'.trans ((g.stp (Γ := Γ')).trans s3)
      have k4 := k.after (s2.trans s3)
      exact ⟨fun σ5 I5 H5 Γ5 r5 s5 a5 => ⟨I5, Γ5, a5, s4.trans s5, r5⟩, k4.rt, k4.nx, fun σ5 I5 H5 Γ5 r5 s5 a5 => ⟨I5, Γ5, a5, s4.trans s5, r5⟩⟩
    · rintro σ' H' ⟨I', Γ', a', s', f'⟩
      rw [List.drop_length] at f'
      exact k.nx σ' I' H' Γ' f' (s1.trans s') a') x
/-! ### while -/
def WhileD (X : Cx) (E : XK) (XE : XS) (c : Expr) (body : List Stmt) (R : Re) : Nat → En → Prop
  | 0, _ => False
  | n + 1, Γ => WpT X E XE c Γ fun b Γ1 => (b = false → R.nx Γ1) ∧ (b = true → WpSs X E XE body Γ1 { nx := WhileD X E XE c body R n, ct := WhileD X E XE c body R n, bk := R.nx, rt := R.rt })
theorem s_while {c : Expr} {body : List Stmt} (n : Nat) (hp : PassesOwn (model X.prog X.w) X.A X.env X.xe) (h : WhileD X E XE c body R n Γ) : WpS X E XE (.While c body [] pos) Γ R :=
  .of (ps_while hp (pt_sem X c) (pss_sem X body)) fun σ I H Z a k x => by
    refine ⟨fun m σ' H' => ∃ I' Γ', At X.K σ' I' H' Γ' ∧ Stp Γ I H Γ' I' H' ∧ WhileD X E XE c body R m Γ', ⟨n, I, Γ, a, .refl, h⟩, ?_⟩
    rintro m σ' H' ⟨I', Γ', a', s', w'⟩
    cases m with
    | zero => exact w'.elim
    | succ m =>
      refine w' σ' I' H' _ a' (fun b I2 H2 Γ2 ⟨hF, hT⟩ s2 a2 => ?_) (x.after s')
      have s3 := s'.trans s2
      cases b with
      | false => exact iteF (k.nx σ' I2 H2 Γ2 (hF rfl) s3 a2)
      | true =>
        refine iteT ⟨fun σ5 H5 => ∃ I5 Γ5, At X.K σ5 I5 H5 Γ5 ∧ Stp Γ I H Γ5 I5 H5 ∧ WhileD X E XE c body R m Γ5, fun σ5 H5 q => ⟨m, Nat.lt_succ_self m, q⟩, ?_⟩
        have k4 := k.after s3
        exact hT rfl σ' I2 H2 _ a2 ⟨fun σ5 I5 H5 Γ5 r5 s5 a5 => ⟨I5, Γ5, a5, s3.trans s5, r5⟩, k4.rt, k4.nx, fun σ5 I5 H5 Γ5 r5 s5 a5 => ⟨I5, Γ5, a5, s3.trans s5, r5⟩⟩ (x.after s3)
end
end Dl

set_option Elab.async false
set_option linter.all false
set_option maxRecDepth 100000
set_option maxHeartbeats 2000000
namespace Dl
open PySem PySem.Spec PyProof.Rows L2

section
variable {X : Cx} {E : XK} {XE : XS} {Γ : En} {pos : Pos}
/-! ### comprehensions -/
abbrev XB (X : Cx) (scope : Scope) (s : Shared) (H : Hp) (C : Addr) (cl : List (Str × Addr)) (fp : List Addr) : Cx := X.blk s H scope (compEnvC scope cl C X.env) fp
/-- the slots of the block's own names, forgotten; what is owned is not seen -/
def wipeE (Γ : En) : List Nat → En
  | [] => Γ.map hideS
  | v :: vs => (wipeE Γ vs).set v .un
theorem at_hide {K : PySem.W.Frag} {σ : L2.St} {I H : Hp} (a : At K σ I H Γ) : At K σ I H (Γ.map hideS) := by
  refine ⟨a.sub, by rw [List.length_map]; exact a.len, fun j s h => ?_, fun j j' q o1 o2 h h' => ?_⟩
  · rw [List.getElem?_map] at h
    cases e0 : Γ[j]? with
    | none => rw [e0] at h; cases h
    | some s0 =>
      rw [e0] at h
      have h : hideS s0 = s := Option.some.inj h
      obtain ⟨x', e1, q⟩ := a.sl j s0 e0
      refine ⟨x', e1, ?_⟩
      subst h
      cases s0 with
      | un => trivial
      | im d => exact q
      | own q' o' => trivial
  · rw [List.getElem?_map] at h
    cases e0 : Γ[j]? with
    | none => rw [e0] at h; cases h
    | some s0 =>
      rw [e0] at h
      have h : hideS s0 = .own q o1 := Option.some.inj h
      cases s0 <;> cases h
theorem hide_no {p : Addr} : ¬ Own (Γ.map hideS) p := fun ⟨j, o, h⟩ => by
  rw [List.getElem?_map] at h
  cases e : Γ[j]? with
  | none => rw [e] at h; cases h
  | some s =>
    rw [e] at h
    have h : hideS s = .own p o := Option.some.inj h
    cases s <;> cases h
theorem wipe_no {p : Addr} : ∀ {vs : List Nat}, ¬ Own (wipeE Γ vs) p
  | [] => hide_no
  | v :: vs => fun ⟨j, o, h⟩ => by
    rcases getq_set h with ⟨_, z, _⟩ | ⟨_, h⟩
    · cases z
    · exact wipe_no (vs := vs) ⟨j, o, h⟩
theorem at_wipe {K : PySem.W.Frag} {σ : L2.St} {I H : Hp} (a : At K σ I H Γ) : ∀ vs : List Nat, At K (wipe σ vs) I H (wipeE Γ vs)
  | [] => at_hide a
  | v :: vs => by
    have b := at_wipe a vs
    refine ⟨b.sub, by unfold wipe wipeE; rw [List.length_set, List.length_set]; exact b.len, fun j s h => ?_, fun j j' q o1 o2 h h' => (wipe_no (vs := v :: vs) ⟨j, o1, h⟩).elim⟩
    unfold wipe
    rcases getq_set h with ⟨e1, z, l⟩ | ⟨m, h⟩
    · subst z; subst e1
      exact ⟨none, List.getElem?_set_self (by rw [b.len]; exact l), trivial⟩
    · obtain ⟨x, e, q⟩ := b.sl j s h
      exact ⟨x, by rw [List.getElem?_set_ne (Ne.symm m)]; exact e, q⟩
theorem wipe_at (τ : L2.St) (vs : List Nat) (j : Nat) : (wipe τ vs)[j]? = if j ∈ vs then (if j < τ.length then some none else none) else τ[j]? := by
  induction vs with
  | nil => simp [wipe]
  | cons v vs ih =>
    unfold wipe
    by_cases e : v = j
    · subst e
      rw [List.getElem?_set]
      simp [wipe_length]
    · rw [List.getElem?_set_ne e, ih]
      have : j ≠ v := fun z => e z.symm
      simp [this]
theorem wipe_same {σ σ' : L2.St} {js vs : List Nat} (k : Keeps js (wipe σ vs) σ') (hj : ∀ j ∈ js, j ∈ vs) : wipe σ' vs = wipe σ vs := by
  apply List.ext_getElem?
  intro j
  rw [wipe_at, wipe_at, k.len, wipe_length]
  by_cases m : j ∈ vs
  · rw [if_pos m, if_pos m]
  · rw [if_neg m, if_neg m, k.sl j fun z => m (hj j z), wipe_at, if_neg m]
def WpIf (X : Cx) (E : XK) (XE : XS) (ifs : List Expr) (Γ : En) (R : Bool → En → Prop) : Prop := match ifs with
  | [] => R true Γ
  | [c] => WpT X E XE c Γ R
  | _ => False
def semTs (X : Cx) (ifs : List Expr) : TT := match ifs with
  | [] => tYes
  | [c] => semT X c
  | _ => fun _ _ _ => False
def blkT (X : Cx) (scope : Scope) (ifs : List Expr) : TT := match ifs with
  | [] => tYes
  | [c] => fun σ H Q => ∀ s H0 C cl fp, semT (XB X scope s H0 C cl fp) c σ H Q
  | _ => fun _ _ _ => False
theorem pts_blk (X : Cx) (scope : Scope) : ∀ (ifs : List Expr), ifs.length ≤ 1 → ∀ s H0 C cl fp, PTs (XB X scope s H0 C cl fp) ifs (blkT X scope ifs)
  | [], _, _, _, _, _, _ => pts_nil
  | [c], _, s, H0, C, cl, fp => pts_one ⟨fun pins s' σ H Q I h => h s H0 C cl fp pins s' I⟩
  | _ :: _ :: _, h, _, _, _, _, _ => by
    simp at h
def blkG (X : Cx) (scope : Scope) (tg : Expr) : TG := fun v σ H Q => ∀ s H0 C cl fp, semG (XB X scope s H0 C cl fp) tg v σ H Q
def blkE (X : Cx) (scope : Scope) (e : Expr) : TE := fun σ H Q => ∀ s H0 C cl fp, sem (XB X scope s H0 C cl fp) e σ H Q
theorem kx0 {Γ : En} {H : Hp} : KX E0 noX Γ H := fun C fs dd H' z _ _ => z.elim
/-- one turn of a comprehension -/
structure Turn1 (X : Cx) (scope : Scope) (js : List Nat) (tg elt : Expr) (ifs : List Expr) (Γw : En) (d : D) (kp : Bool) (z : D) (Γ2 : En) : Prop where
  tgt : ∀ s H0 C cl fp, WpG1 (XB X scope s H0 C cl fp) js tg d Γw fun Γ => Γ = Γ2
  tst : ∀ s H0 C cl fp, WpIf (XB X scope s H0 C cl fp) E0 noX ifs Γ2 fun b Γ => b = kp ∧ Γ = Γ2
  elt : kp = true → ∀ s H0 C cl fp, Wp (XB X scope s H0 C cl fp) E0 noX elt Γ2 fun y _ => y = z
theorem lc_turn {elt tg : Expr} {ifs : List Expr} {scope : Scope} {js vs : List Nat} {d z : D} {kp : Bool} {σ : L2.St} {I H : Hp} {v : V} {Γw Γ2 : En} {Qy : V → Hp → Prop} {Qn : Hp → Prop} (hj : ∀ j ∈ js, j ∈ vs) (a : At X.K (wipe σ vs) I H Γw) (rv : Rp X.K I v d)
    (h : Turn1 X scope js tg elt ifs Γw d kp z Γ2)
    (hy : kp = true → ∀ w I' H', Stp Γw I H Γw I' H' → Same I' H' → Rp X.K I' w z → Qy w H') (hn : kp = false → ∀ I' H', Stp Γw I H Γw I' H' → Same I' H' → Qn H') :
    blkG X scope tg v (wipe σ vs) H fun σ2 H2 => wipe σ2 vs = wipe σ vs ∧ blkT X scope ifs σ2 H2 fun b H3 => if b = true then blkE X scope elt σ2 H3 Qy else Qn H3 := by
  intro s H0 C cl fp
  refine h.tgt s H0 C cl fp _ I H v _ a rv fun σ3 Γ3 e3 s3 a3 j3 => ?_
  subst e3
  refine ⟨wipe_same j3 hj, ?_⟩
  have fin : ∀ {Γ' : En} {I' H' : Hp}, Stp Γ3 I H Γ' I' H' → Stp Γw I H Γw I' H' := fun {Γ' I' H'} s4 => ⟨fun b o hb n => (s3.trans s4).same b o hb n, s4.sub, fun b o hb => (s3.trans s4).fresh b o hb, fun p hp => .inl hp⟩
  have go : ∀ (I4 H4 : Hp) (b : Bool), Stp Γ3 I H Γ3 I4 H4 → At X.K σ3 I4 H4 Γ3 → b = kp → if b = true then blkE X scope elt σ3 H4 Qy else Qn H4 := by
    intro I4 H4 b s4 a4 e
    subst e
    cases b with
    | false => exact iteF (hn rfl I4 H4 (fin s4) a4.sub)
    | true =>
      refine iteT fun s H0 C cl fp => h.elt rfl s H0 C cl fp σ3 I4 H4 Qy a4 (fun w I5 H5 y Γ5 ey s5 a5 r5 => ?_) kx0
      subst ey
      exact hy rfl w I5 H5 (fin (s4.trans s5)) a5.sub r5
  match ifs, h.tst with
  | [], ht => exact go I H true .refl a3 (ht s H0 C cl fp).1
  | [c], ht => exact fun s H0 C cl fp => ht s H0 C cl fp σ3 I H _ a3 (fun b I4 H4 Γ4 ⟨eb, e4⟩ s4 a4 => by
      subst e4
      exact go I4 H4 b s4 a4 eb) kx0
  | _ :: _ :: _, ht => exact (ht s H0 C cl fp).elim
/-- what is asked of a comprehension -/
def LcH (X : Cx) (E : XK) (XE : XS) {α : Type} (elt tg iter : Expr) (ifs : List Expr) (scope : Scope) (own : List (Str × Nat)) (js : List Nat) (enc : α → D) (keep : α → Bool) (val : α → D) (Γ : En) (R : Ow → En → Prop) : Prop :=
  WpI X E XE tg iter Γ fun ds Γ1 => ∃ xs : List α, ds = xs.map enc ∧ xs.length < sizeLine ∧ R (.lst ((xs.filter keep).map val)) Γ1 ∧
      ∀ x ∈ xs, ∃ Γ2, Turn1 X scope js tg elt ifs (wipeE Γ1 (own.map (·.2))) (enc x) (keep x) (val x) Γ2
theorem lc_read {α : Type} {elt tg iter : Expr} {ifs : List Expr} {scope : Scope} {R : Ow → En → Prop} {own : List (Str × Nat)} {js : List Nat} {enc : α → D} {keep : α → Bool} {val : α → D} (hj : ∀ j ∈ js, j ∈ own.map (·.2)) (h : LcH X E XE elt tg iter ifs scope own js enc keep val Γ R)
    (σ : L2.St) (I H : Hp) (Q : VK) (a : At X.K σ I H Γ)
    (k : ∀ p I' H' o Γ', R o Γ' → Stp Γ I H Γ' I' H' → At X.K σ I' H' Γ' → I' p = none → OwAt X.K I' H' p o → ¬ Own Γ' p → (Own Γ p ∨ H p = none) → Q (.ref p) H') (x : KX E XE Γ H) :
    tLc (semI X tg iter) (blkG X scope tg) (blkT X scope ifs) (blkE X scope elt) (own.map (·.2)) σ H Q := by
    refine h σ I H _ a (fun J I1 H1 ds Γ1 ⟨xs, ed, hz, hR, hx⟩ s1 a1 yl => ?_) x
    subst ed
    obtain ⟨G, Y, w, hG, hY⟩ := yl.ex
    intro L hL
    have nI : I1 L = none := by
      cases q : I1 L with
      | none => rfl
      | some u => have z := a1.sub L u q; rw [hL] at z; cases z
    have vis : ∀ {I' H' : Hp}, Same I' (fun b => if b = L then none else H' b) → Same I' H' := fun {I' H'} g b u q => by
      have q2 : (if b = L then none else H' b) = some u := g b u q
      by_cases z : b = L
      · rw [if_pos z] at q2; cases q2
      · rw [if_neg z] at q2; exact q2
    -- behind i turns: the new list at L holds what is kept of the first i
    refine lc_it w (g := blkG X scope tg) (tt := blkT X scope ifs) (te := blkE X scope elt) (vs := own.map (·.2)) (σ := σ) (H1 := H1) (D := L) (Qd := fun H' => Q (.ref L) H')
      (fun i H' => ∃ I', Grow I1 H1 I' (fun b => if b = L then none else H' b) ∧ I' L = none ∧ ∃ acc, H' L = some (.lst acc) ∧ acc.length ≤ i ∧ RpA X.K I' acc (((xs.take i).filter keep).map val)) ?_ ?_ ?_ ?_
    · have eh : (fun b => if b = L then none else (upd H1 L (.lst [])) b) = H1 := by
        funext b
        by_cases z : b = L
        · subst z; rw [if_pos rfl, hL]
        · rw [if_neg z, upd_ne z]
      refine ⟨I1, by rw [eh]; exact .refl a1.sub, nI, [], upd_same, Nat.le_refl _, ?_⟩
      rw [List.take_zero]
      exact .nil
    · rintro i H' _ ⟨I', g, n, acc, hacc, hl, r⟩
      exact hG H' (g.sub.trans (vis g.view))
    · rintro i v H' H2 hi ⟨I', g, n, acc, hacc, hl, r⟩ hy
      rw [List.length_map] at hi
      have hxi : xs[i]? = some xs[i] := by simp [hi]
      have hd : (xs.map enc)[i]? = some (enc xs[i]) := by rw [List.getElem?_map, hxi] <;> rfl
      obtain ⟨I2, g2, rv⟩ := hY i I' H' v H2 _ g.sub (vis g.view) hd hy
      have aw := at_wipe (a1.grow g) (own.map (·.2))
      have aw' : At X.K (wipe σ (own.map (·.2))) I' H' (wipeE Γ1 (own.map (·.2))) := ⟨vis g.view, aw.len, fun j s hjs => by
        obtain ⟨x', e1, q⟩ := aw.sl j s hjs
        refine ⟨x', e1, ?_⟩
        cases s with
        | un => trivial
        | im d => exact q
        | own q' o' => exact (wipe_no ⟨j, o', hjs⟩).elim, aw.nd⟩
      obtain ⟨Γ2, t1⟩ := hx xs[i] (List.getElem_mem hi)
      have tk : xs.take (i + 1) = xs.take i ++ [xs[i]] := by rw [List.take_add_one, hxi] <;> rfl
      have h2L : H2 L = some (.lst acc) := g2.same L _ hacc
      -- what comes behind the turn, at L
      have next : ∀ {I3 H3 : Hp} {acc' : List V}, Stp (wipeE Γ1 (own.map (·.2))) I2 H2 (wipeE Γ1 (own.map (·.2))) I3 H3 → Same I3 H3 → Grow I1 H1 I3 (fun b => if b = L then none else (upd H3 L (.lst acc')) b) ∧ I3 L = none := fun {I3 H3 acc'} s3 v3 => by
        have same3 : Same H2 H3 := fun b o hb => s3.same b o hb wipe_no
        have n3 : I3 L = none := by
          cases q : I3 L with
          | none => rfl
          | some u =>
            rcases s3.fresh L u q with z | z | z
            · rcases g2.fresh L u z with z | z
              · rw [n] at z; cases z
              · rw [hacc] at z; cases z
            · rw [h2L] at z; cases z
            · exact (wipe_no z).elim
        refine ⟨⟨fun b o hb => ?_, (g.sub.trans g2.sub).trans s3.sub, fun b o hb => ?_, fun b o hb => ?_⟩, n3⟩
        · have nb : b ≠ L := ne_of_none hb hL
          show (if b = L then none else (upd H3 L (.lst acc')) b) = some o
          rw [if_neg nb, upd_ne nb]
          have e := g.same b o hb
          have e : (if b = L then none else H' b) = some o := e
          rw [if_neg nb] at e
          exact same3 b o (g2.same b o e)
        · have nb : b ≠ L := ne_of_none hb n3
          show (if b = L then none else (upd H3 L (.lst acc')) b) = some o
          rw [if_neg nb, upd_ne nb]
          exact v3 b o hb
        · rcases s3.fresh b o hb with z | z | z
          · rcases g2.fresh b o z with z | z
            · exact g.fresh b o z
            · refine .inr ?_
              cases q : H1 b with
              | none => rfl
              | some u =>
                have e : (if b = L then none else H' b) = some u := g.same b u q
                have nb : b ≠ L := ne_of_none q hL
                rw [if_neg nb, z] at e; cases e
          · refine .inr ?_
            cases q : H1 b with
            | none => rfl
            | some u =>
              have e : (if b = L then none else H' b) = some u := g.same b u q
              have nb : b ≠ L := ne_of_none q hL
              rw [if_neg nb] at e
              rw [g2.same b u e] at z; cases z
          · exact (wipe_no z).elim
      refine lc_turn hj (aw'.grow g2) rv t1 (fun hk w' I3 H3 s3 v3 r3 => ?_) (fun hk I3 H3 s3 v3 => ?_)
      · have h3L : H3 L = some (.lst acc) := s3.same L _ h2L wipe_no
        obtain ⟨g3, n3⟩ := next (acc' := acc ++ [w']) s3 v3
        refine ⟨acc, h3L, by omega, I3, g3, n3, _, upd_same, by rw [List.length_append]; show acc.length + 1 ≤ i + 1; omega, ?_⟩
        rw [tk, List.filter_append, List.map_append, List.filter_cons, if_pos hk]
        exact (r.mono (g2.sub.trans s3.sub)).append (.cons r3 .nil)
      · have h3L : H3 L = some (.lst acc) := s3.same L _ h2L wipe_no
        obtain ⟨g3, n3⟩ := next (acc' := acc) s3 v3
        have eh : (fun b => if b = L then none else (upd H3 L (.lst acc)) b) = (fun b => if b = L then none else H3 b) := by
          funext b
          by_cases z : b = L
          · rw [if_pos z, if_pos z]
          · rw [if_neg z, if_neg z, upd_ne z]
        rw [eh] at g3
        refine ⟨I3, g3, n3, acc, h3L, by omega, ?_⟩
        rw [tk, List.filter_append, List.map_append, List.filter_cons, if_neg (by rw [hk]; exact Bool.false_ne_true)]
        show RpA X.K I3 acc ((List.filter keep (List.take i xs)).map val ++ [])
        rw [List.append_nil]
        exact r.mono (g2.sub.trans s3.sub)
    · rintro H' ⟨I', g, n, acc, hacc, hl, r⟩
      rw [List.length_map, List.take_length] at r
      have same' : Same H1 H' := fun b o hb => by
        have e : (if b = L then none else H' b) = some o := g.same b o hb
        rw [if_neg (ne_of_none hb hL)] at e
        exact e
      have nL : ¬ Own Γ1 L := fun z => by
        obtain ⟨_, u, hu⟩ := a1.ownN z
        rw [hL] at hu; cases hu
      have a3 : At X.K σ I' H' Γ1 := a1.grow ⟨same', g.sub, vis g.view, g.fresh⟩
      exact k L I' H' _ Γ1 hR (s1.trans (Grow.stp ⟨same', g.sub, vis g.view, g.fresh⟩)) a3 n ⟨acc, hacc, r⟩ nL (s1.was hL)
theorem w_lc {α : Type} {elt tg iter : Expr} {ifs : List Expr} {scope : Scope} {R : Ow → En → Prop} (own : List (Str × Nat)) (js : List Nat) (enc : α → D) (keep : α → Bool) (val : α → D) (hc : X.calm = true) (hN : X.N.Nodup) (ok : BlkOk X.N X.env.scope scope own)
    (hif : ifs.length ≤ 1) (hj : ∀ j ∈ js, j ∈ own.map (·.2)) (h : LcH X E XE elt tg iter ifs scope own js enc keep val Γ R) (hs : ∀ x, foldedSetIterable iter X.env x = pure x := by intro _; rfl) : WpN X E XE (.ListComp elt [⟨tg, iter, ifs, 0⟩] scope pos) Γ R :=
  .of (pe_lc (own := own) (g := blkG X scope tg) (tt := blkT X scope ifs) (te := blkE X scope elt) hc hN (pi_sem X tg iter) ok
      (fun s H0 C cl fp => ⟨fun pins s' σ H v u Q I r h => h s H0 C cl fp pins s' u I r⟩) (pts_blk X scope ifs hif) (fun s H0 C cl fp => ⟨fun pins s' σ H Q I h => h s H0 C cl fp pins s' I⟩) hs) (lc_read hj h)
/-- name = [..], the name a local -/
theorem s_setLc {α : Type} {y : Str} {py spos : Pos} {elt tg iter : Expr} {ifs : List Expr} {scope : Scope} {R : Re} (i : Nat) (own : List (Str × Nat)) (js : List Nat) (enc : α → D) (keep : α → Bool) (val : α → D) (hc : X.calm = true) (hN : X.N.Nodup) (hy : X.N[i]? = some y) (hyl : X.env.scope.names.lookup y = some .local)
    (ok : BlkOk X.N X.env.scope scope own) (hif : ifs.length ≤ 1) (hj : ∀ j ∈ js, j ∈ own.map (·.2)) (h : LcH X E XE elt tg iter ifs scope own js enc keep val Γ fun o Γ' => ∀ p, R.nx (Γ'.set i (.own p o)))
    (hsw : swapsWith (.ListComp elt [⟨tg, iter, ifs, 0⟩] scope pos) (some (.Name y py)) spos.line X.env = pure true) (hs : ∀ x, foldedSetIterable iter X.env x = pure x := by intro _; rfl) :
    WpS X E XE (.Assign [.Name y py] (.ListComp elt [⟨tg, iter, ifs, 0⟩] scope pos) spos) Γ R :=
  .of (ps_setLc (i := i) (own := own) (g := blkG X scope tg) (tt := blkT X scope ifs) (te := blkE X scope elt) hc hN hy hyl hsw (pi_sem X tg iter) ok
      (fun s H0 C cl fp => ⟨fun pins s' σ H v u Q I r h => h s H0 C cl fp pins s' u I r⟩) (pts_blk X scope ifs hif) (fun s H0 C cl fp => ⟨fun pins s' σ H Q I h => h s H0 C cl fp pins s' I⟩) hs)
    fun σ I H Z a k x => lc_read hj h σ I H _ a (fun p I1 H1 o Γ1 r s1 a1 n ho f was => setN_go k (r p) s1 a1 n ho f was) x
end
end Dl

set_option Elab.async false
set_option linter.all false
set_option maxRecDepth 100000
set_option maxHeartbeats 2000000
namespace Dl
open PySem PySem.Spec PyProof.Rows L2

/-! ### data as the library's nested data, for == -/
mutual
inductive Pq : Nat → D → PyData → Prop
  | non (n) : Pq n .non .none
  | bl (n b) : Pq n (.bl b) (.bool b)
  | int (n i) : Pq n (.int i) (.int i)
  | str (n) {s} : PyData.strOk s = true → Pq n (.str s) (.str s)
  | lst {n ds ps} : PqA n ds ps → Pq (n + 1) (.lst ds) (.list ps)
  | tup {n ds ps} : PqA n ds ps → Pq (n + 1) (.tup ds) (.tuple ps)
inductive PqA : Nat → List D → List PyData → Prop
  | nil {n} : PqA n [] []
  | cons {n d p ds ps} : Pq n d p → PqA n ds ps → PqA n (d :: ds) (p :: ps)
end
mutual
theorem Pq.ok : ∀ {n : Nat} {d : D} {p : PyData}, Pq n d p → p.canLay0 = true ∧ p.depth ≤ n
  | _, _, _, .non n => ⟨rfl, Nat.zero_le _⟩
  | _, _, _, .bl n b => ⟨rfl, Nat.zero_le _⟩
  | _, _, _, .int n i => ⟨rfl, Nat.zero_le _⟩
  | _, _, _, .str n h => ⟨h, Nat.zero_le _⟩
  | _, _, _, .lst h => ⟨(PqA.ok h).1, Nat.succ_le_succ (PqA.ok h).2⟩
  | _, _, _, .tup h => ⟨(PqA.ok h).1, Nat.succ_le_succ (PqA.ok h).2⟩
theorem PqA.ok : ∀ {n : Nat} {d : List D} {p : List PyData}, PqA n d p → PyData.canLayAll0 p = true ∧ PyData.depthAll p ≤ n
  | _, _, _, .nil => ⟨rfl, Nat.zero_le _⟩
  | _, _, _, .cons h r => ⟨Bool.and_eq_true_iff.mpr ⟨(Pq.ok h).1, (PqA.ok r).1⟩, Nat.max_le.mpr ⟨(Pq.ok h).2, (PqA.ok r).2⟩⟩
end
section
variable {K : PySem.W.Frag} {I H : Hp}
mutual
theorem Pq.dp (e : Same I H) : ∀ {n : Nat} {d : D} {p : PyData} {v : V}, Pq n d p → Rp K I v d → Dp K H v p
  | _, _, _, _, .non n, r => by cases r; exact .non
  | _, _, _, _, .bl n b, r => by cases r; exact .bl b
  | _, _, _, _, .int n i, r => by cases r; exact .int i
  | _, _, _, _, .str n h, r => by cases r; exact .str _
  | _, _, _, _, .lst h, r => by
    cases r with
    | lst h1 r1 => exact .lst (SqL.of (e _ _ h1)) (PqA.dp e h r1)
  | _, _, _, _, .tup h, r => by
    cases r with
    | tup h1 r1 => exact .tup (same_sqT e h1) (PqA.dp e h r1)
theorem PqA.dp (e : Same I H) : ∀ {n : Nat} {d : List D} {p : List PyData} {v : List V}, PqA n d p → RpA K I v d → DpAll K H v p
  | _, _, _, _, .nil, r => by cases r; exact .nil
  | _, _, _, _, .cons h hr, r => by
    cases r with
    | cons r1 rr => exact .cons (Pq.dp e h r1) (PqA.dp e hr rr)
end
end
theorem PqA.map {α : Type} {n : Nat} {f : α → D} {g : α → PyData} : ∀ {l : List α}, (∀ x ∈ l, Pq n (f x) (g x)) → PqA n (l.map f) (l.map g)
  | [], _ => .nil
  | x :: r, h => .cons (h x List.mem_cons_self) (PqA.map fun y hy => h y (List.mem_cons_of_mem x hy))

section
variable {X : Cx}
/-! ### operators -/
theorem o_addI {i j : Int} : Op2 X (binaryOp .Add) (.int i) (.int j) (.int (i + j)) := .of op_add fun I H u v Q e r1 r2 k => by cases r1; cases r2; exact ⟨i, j, rfl, rfl, k _ I H (.refl e) (.int _)⟩
theorem o_subI {i j : Int} : Op2 X (binaryOp .Sub) (.int i) (.int j) (.int (i - j)) := .of op_sub fun I H u v Q e r1 r2 k => by cases r1; cases r2; exact ⟨i, j, rfl, rfl, k _ I H (.refl e) (.int _)⟩
theorem o_mulI {i j : Int} (h : CMulW i j) : Op2 X (binaryOp .Mult) (.int i) (.int j) (.int (i * j)) := .of op_mulW fun I H u v Q e r1 r2 k => by cases r1; cases r2; exact ⟨i, j, rfl, rfl, h, k _ I H (.refl e) (.int _)⟩
theorem o_divI {i j : Int} (h : CDivW i j) : Op2 X (binaryOp .FloorDiv) (.int i) (.int j) (.int (i / j)) := .of op_fdivW fun I H u v Q e r1 r2 k => by cases r1; cases r2; exact ⟨i, j, rfl, rfl, h, k _ I H (.refl e) (.int _)⟩
theorem o_divN {i j : Int} (h : CDivN i j) : Op2 X (binaryOp .FloorDiv) (.int i) (.int j) (.int (i.fdiv j)) := .of op_fdivN fun I H u v Q e r1 r2 k => by cases r1; cases r2; exact ⟨i, j, rfl, rfl, h, k _ I H (.refl e) (.int _)⟩
theorem o_modI {i j : Int} (h : 0 < j) : Op2 X (binaryOp .Mod) (.int i) (.int j) (.int (i % j)) := .of op_mod fun I H u v Q e r1 r2 k => by cases r1; cases r2; exact ⟨i, j, rfl, rfl, h, k _ I H (.refl e) (.int _)⟩
theorem o_addS {i j : Str} (h : i.length + j.length ≤ sizeLine) : Op2 X (binaryOp .Add) (.str i) (.str j) (.str (i ++ j)) := .of op_add_str fun I H u v Q e r1 r2 k => by cases r1; cases r2; exact ⟨i, j, rfl, rfl, h, k _ I H (.refl e) (.str _)⟩
theorem o_catT {ds es : List D} (h0 : ds ≠ []) (h : ds.length + es.length ≤ sizeLine) : Op2 X (binaryOp .Add) (.tup ds) (.tup es) (.tup (ds ++ es)) := .of op_catT fun I H u v Q e r1 r2 k => by
  cases r1 with
  | @tup a xs _ h1 r1 =>
    cases r2 with
    | @tup b ys _ h2 r2 =>
      refine ⟨_, _, _, _, rfl, rfl, same_sqT e h1, same_sqT e h2, fun z => ?_, by rw [r1.len, r2.len]; exact h, fun z => ?_, fun _ p hp => ?_⟩
      · subst z; cases r1; exact h0 rfl
      · subst z; cases r2
        rw [List.append_nil] at k
        exact k _ I H (.refl e) (.tup h1 r1)
      · exact grow_new e k hp (.tup (SqT.of upd_same) ((r1.mono (new_sub e hp)).append (r2.mono (new_sub e hp))))
theorem o_catL {ds es : List D} (h : ds.length + es.length ≤ sizeLine) : Op2N X (binaryOp .Add) (.lst ds) (.lst es) (.lst (ds ++ es)) := .of op_cat fun I H u v Q e r1 r2 k => by
  cases r1 with
  | @lst a xs _ h1 r1 =>
    cases r2 with
    | @lst b ys _ h2 r2 => exact ⟨_, _, _, _, rfl, rfl, e _ _ h1, e _ _ h2, by rw [r1.len, r2.len]; exact h, fun p hp => k p _ hp ⟨_, upd_same, r1.append r2⟩⟩
theorem flat_rep {α : Type} (x : α) : ∀ n, (List.replicate n [x]).flatten = List.replicate n x
  | 0 => rfl
  | n + 1 => by rw [List.replicate_succ, List.flatten_cons, flat_rep x n]; rfl
theorem o_rep1 {d : D} {n : Nat} (h : n ≤ sizeLine) : Op2N X (binaryOp .Mult) (.lst [d]) (.int (n : Int)) (.lst (List.replicate n d)) := .of op_rep fun I H u v Q e r1 r2 k => by
  have hs : (sizeLine : Nat) < 2 ^ 63 := line63
  cases r1 with
  | lst h1 r1 =>
    cases r2
    cases r1 with
    | cons r1 rr =>
      cases rr
      refine ⟨_, (n : Int), _, rfl, rfl, e _ _ h1, by omega, by omega, by simpa using h, fun p hp => k p _ hp ⟨_, upd_same, ?_⟩⟩
      rw [Int.toNat_natCast, flat_rep]
      exact RpA.rep r1 n
theorem o_lt {i j : Int} : Op2 X (compareOp .Lt) (.int i) (.int j) (.bl (decide (i < j))) := .of op_lt fun I H u v Q e r1 r2 k => by cases r1; cases r2; exact ⟨i, j, rfl, rfl, k _ I H (.refl e) (.bl _)⟩
theorem o_le {i j : Int} : Op2 X (compareOp .LtE) (.int i) (.int j) (.bl (decide (i ≤ j))) := .of op_le fun I H u v Q e r1 r2 k => by cases r1; cases r2; exact ⟨i, j, rfl, rfl, k _ I H (.refl e) (.bl _)⟩
theorem o_gt {i j : Int} : Op2 X (compareOp .Gt) (.int i) (.int j) (.bl (decide (j < i))) := .of op_gt fun I H u v Q e r1 r2 k => by cases r1; cases r2; exact ⟨i, j, rfl, rfl, k _ I H (.refl e) (.bl _)⟩
theorem o_ge {i j : Int} : Op2 X (compareOp .GtE) (.int i) (.int j) (.bl (decide (j ≤ i))) := .of op_ge fun I H u v Q e r1 r2 k => by cases r1; cases r2; exact ⟨i, j, rfl, rfl, k _ I H (.refl e) (.bl _)⟩
theorem o_eqI {i j : Int} : Op2 X (compareOp .Eq) (.int i) (.int j) (.bl (decide (i = j))) := .of op_eq fun I H u v Q e r1 r2 k => by
  cases r1; cases r2
  refine ⟨rfl, ?_⟩
  rw [show decide (V.int i = V.int j) = decide (i = j) by simp]
  exact k _ I H (.refl e) (.bl _)
theorem o_neI {i j : Int} : Op2 X (compareOp .NotEq) (.int i) (.int j) (.bl (!decide (i = j))) := .of op_ne fun I H u v Q e r1 r2 k => by
  cases r1; cases r2
  refine ⟨rfl, ?_⟩
  rw [show decide (V.int i = V.int j) = decide (i = j) by simp]
  exact k _ I H (.refl e) (.bl _)
theorem o_eqS {i j : Str} : Op2 X (compareOp .Eq) (.str i) (.str j) (.bl (decide (i = j))) := .of op_eq fun I H u v Q e r1 r2 k => by
  cases r1; cases r2
  refine ⟨rfl, ?_⟩
  rw [show decide (V.str i = V.str j) = decide (i = j) by simp]
  exact k _ I H (.refl e) (.bl _)
theorem o_neS {i j : Str} : Op2 X (compareOp .NotEq) (.str i) (.str j) (.bl (!decide (i = j))) := .of op_ne fun I H u v Q e r1 r2 k => by
  cases r1; cases r2
  refine ⟨rfl, ?_⟩
  rw [show decide (V.str i = V.str j) = decide (i = j) by simp]
  exact k _ I H (.refl e) (.bl _)
/-- whether data is None -/
def isN : D → Bool
  | .non => true
  | _ => false
theorem rp_isN {K : PySem.W.Frag} {I : Hp} {v : V} {d : D} (r : Rp K I v d) : decide (v = .non) = isN d := by cases r <;> simp [isN]
theorem o_is {d : D} : Op2 X (compareOp .Is) d .non (.bl (isN d)) := .of op_isN fun I H u v Q e r1 r2 k => by
  cases r2
  refine ⟨rfl, ?_⟩
  rw [rp_isN r1]
  exact k _ I H (.refl e) (.bl _)
theorem o_isnot {d : D} : Op2 X (compareOp .IsNot) d .non (.bl (!isN d)) := .of op_notN fun I H u v Q e r1 r2 k => by
  cases r2
  refine ⟨rfl, ?_⟩
  rw [rp_isN r1]
  exact k _ I H (.refl e) (.bl _)
theorem o_eqD {n m : Nat} {d e : D} {p q : PyData} (hu : X.A.units + 64 < cLine) (h1 : Pq n d p) (h2 : Pq m e q) (hn : n ≤ 64) (hm : m ≤ 64) : Op2 X (compareOp .Eq) d e (.bl (PyData.eqv p q)) := .of (op_eqD hu) fun I H u v Q e r1 r2 k =>
  ⟨p, q, h1.dp e r1, h2.dp e r2, Bool.and_eq_true_iff.mpr ⟨h1.ok.1, decide_eq_true (Nat.le_trans h1.ok.2 hn)⟩, Bool.and_eq_true_iff.mpr ⟨h2.ok.1, decide_eq_true (Nat.le_trans h2.ok.2 hm)⟩, k _ I H (.refl e) (.bl _)⟩
theorem o_neD {n m : Nat} {d e : D} {p q : PyData} (hu : X.A.units + 64 < cLine) (h1 : Pq n d p) (h2 : Pq m e q) (hn : n ≤ 64) (hm : m ≤ 64) : Op2 X (compareOp .NotEq) d e (.bl (!PyData.eqv p q)) := .of (op_neD hu) fun I H u v Q e r1 r2 k =>
  ⟨p, q, h1.dp e r1, h2.dp e r2, Bool.and_eq_true_iff.mpr ⟨h1.ok.1, decide_eq_true (Nat.le_trans h1.ok.2 hn)⟩, Bool.and_eq_true_iff.mpr ⟨h2.ok.1, decide_eq_true (Nat.le_trans h2.ok.2 hm)⟩, k _ I H (.refl e) (.bl _)⟩
theorem eqv_nil {ps : List PyData} : PyData.eqv (.list ps) (.list []) = ps.isEmpty := by
  cases ps with
  | nil => rfl
  | cons p r => rfl
theorem PqA.len : ∀ {n : Nat} {ds : List D} {ps : List PyData}, PqA n ds ps → ds.length = ps.length
  | _, _, _, .nil => rfl
  | _, _, _, .cons _ r => congrArg (· + 1) r.len
/-- a list == [], != [] -/
theorem o_eqNil {n : Nat} {ds : List D} {ps : List PyData} (hu : X.A.units + 64 < cLine) (h : PqA n ds ps) (hn : n ≤ 60) : Op2 X (compareOp .Eq) (.lst ds) (.lst []) (.bl ds.isEmpty) := by
  have z := o_eqD (X := X) hu (Pq.lst h) (Pq.lst (n := 0) .nil) (by omega) (by omega)
  rw [eqv_nil] at z
  rw [show ds.isEmpty = ps.isEmpty by cases h <;> rfl]
  exact z
theorem o_neNil {n : Nat} {ds : List D} {ps : List PyData} (hu : X.A.units + 64 < cLine) (h : PqA n ds ps) (hn : n ≤ 60) : Op2 X (compareOp .NotEq) (.lst ds) (.lst []) (.bl (!ds.isEmpty)) := by
  have z := o_neD (X := X) hu (Pq.lst h) (Pq.lst (n := 0) .nil) (by omega) (by omega)
  rw [eqv_nil] at z
  rw [show ds.isEmpty = ps.isEmpty by cases h <;> rfl]
  exact z
/-! ### in -/
theorem inV_int {x : Int} {l : List Int} : inV (.int x) (l.map V.int) = decide (x ∈ l) := by
  induction l with
  | nil => simp [inV]
  | cons a r ih =>
    rw [List.map_cons]
    show (eqV (.int a) (.int x) || inV (.int x) (r.map V.int)) = _
    rw [ih]
    show ((a == x) || decide (x ∈ r)) = _
    by_cases h : a = x
    · simp [h]
    · have h' : x ≠ a := fun e => h e.symm
      simp [h, h']
theorem inV_str {x : Str} {l : List Str} : inV (.str x) (l.map V.str) = decide (x ∈ l) := by
  induction l with
  | nil => simp [inV]
  | cons a r ih =>
    rw [List.map_cons]
    show (eqV (.str a) (.str x) || inV (.str x) (r.map V.str)) = _
    rw [ih]
    show ((a == x) || decide (x ∈ r)) = _
    by_cases h : a = x
    · simp [h]
    · have h' : x ≠ a := fun e => h e.symm
      simp [h, h']
theorem rpA_ints {K : PySem.W.Frag} {I : Hp} : ∀ {l : List Int} {vs : List V}, RpA K I vs (l.map D.int) → vs = l.map V.int
  | [], _, r => by cases r; rfl
  | a :: l, _, r => by
    cases r with
    | cons h r => cases h; rw [rpA_ints r]; rfl
theorem rpA_strs {K : PySem.W.Frag} {I : Hp} : ∀ {l : List Str} {vs : List V}, RpA K I vs (l.map D.str) → vs = l.map V.str
  | [], _, r => by cases r; rfl
  | a :: l, _, r => by
    cases r with
    | cons h r => cases h; rw [rpA_strs r]; rfl
theorem rpA_bls {K : PySem.W.Frag} {I : Hp} : ∀ {l : List Bool} {vs : List V}, RpA K I vs (l.map D.bl) → vs = l.map V.bl
  | [], _, r => by cases r; rfl
  | a :: l, _, r => by
    cases r with
    | cons h r => cases h; rw [rpA_bls r]; rfl
theorem allI (l : List Int) : (l.map V.int).all flatV = true := by rw [List.all_map]; exact List.all_eq_true.mpr fun _ _ => rfl
theorem allS (l : List Str) : (l.map V.str).all flatV = true := by rw [List.all_map]; exact List.all_eq_true.mpr fun _ _ => rfl
theorem o_inIL {x : Int} {l : List Int} : Op2 X (compareOp .In) (.int x) (.lst (l.map D.int)) (.bl (decide (x ∈ l))) := .of op_in_seq fun I H u v Q e r1 r2 k => by
  cases r1
  cases r2 with
  | lst h r =>
    cases rpA_ints r
    refine ⟨_, _, rfl, .inl (SqL.of (e _ _ h)), rfl, allI l, ?_⟩
    rw [if_neg Bool.false_ne_true, inV_int]
    exact k _ I H (.refl e) (.bl _)
theorem o_inIT {x : Int} {l : List Int} : Op2 X (compareOp .In) (.int x) (.tup (l.map D.int)) (.bl (decide (x ∈ l))) := .of op_in_seq fun I H u v Q e r1 r2 k => by
  cases r1
  cases r2 with
  | tup h r =>
    cases rpA_ints r
    refine ⟨_, _, rfl, .inr (same_sqT e h), rfl, allI l, ?_⟩
    rw [if_neg Bool.false_ne_true, inV_int]
    exact k _ I H (.refl e) (.bl _)
theorem o_inST {x : Str} {l : List Str} : Op2 X (compareOp .In) (.str x) (.tup (l.map D.str)) (.bl (decide (x ∈ l))) := .of op_in_seq fun I H u v Q e r1 r2 k => by
  cases r1
  cases r2 with
  | tup h r =>
    cases rpA_strs r
    refine ⟨_, _, rfl, .inr (same_sqT e h), rfl, allS l, ?_⟩
    rw [if_neg Bool.false_ne_true, inV_str]
    exact k _ I H (.refl e) (.bl _)
theorem o_notInST {x : Str} {l : List Str} : Op2 X (compareOp .NotIn) (.str x) (.tup (l.map D.str)) (.bl (!decide (x ∈ l))) := .of op_notIn_seq fun I H u v Q e r1 r2 k => by
  cases r1
  cases r2 with
  | tup h r =>
    cases rpA_strs r
    refine ⟨_, _, rfl, .inr (same_sqT e h), rfl, allS l, ?_⟩
    rw [if_pos rfl, inV_str]
    exact k _ I H (.refl e) (.bl _)
theorem o_inSL {x : Str} {l : List Str} : Op2 X (compareOp .In) (.str x) (.lst (l.map D.str)) (.bl (decide (x ∈ l))) := .of op_in_seq fun I H u v Q e r1 r2 k => by
  cases r1
  cases r2 with
  | lst h r =>
    cases rpA_strs r
    refine ⟨_, _, rfl, .inl (SqL.of (e _ _ h)), rfl, allS l, ?_⟩
    rw [if_neg Bool.false_ne_true, inV_str]
    exact k _ I H (.refl e) (.bl _)
theorem o_notInSL {x : Str} {l : List Str} : Op2 X (compareOp .NotIn) (.str x) (.lst (l.map D.str)) (.bl (!decide (x ∈ l))) := .of op_notIn_seq fun I H u v Q e r1 r2 k => by
  cases r1
  cases r2 with
  | lst h r =>
    cases rpA_strs r
    refine ⟨_, _, rfl, .inl (SqL.of (e _ _ h)), rfl, allS l, ?_⟩
    rw [if_pos rfl, inV_str]
    exact k _ I H (.refl e) (.bl _)
/-- one sign in a text -/
theorem o_inSign {c : Nat} {z : Str} : Op2 X (compareOp .In) (.str ⟨#[c]⟩) (.str z) (.bl (decide (c ∈ z.cps.toList))) := .of op_in_sign fun I H u v Q e r1 r2 k => by
  cases r1; cases r2
  exact ⟨c, z, rfl, rfl, k _ I H (.refl e) (.bl _)⟩
theorem o_notInSign {c : Nat} {z : Str} : Op2 X (compareOp .NotIn) (.str ⟨#[c]⟩) (.str z) (.bl (!decide (c ∈ z.cps.toList))) := .of op_notIn_sign fun I H u v Q e r1 r2 k => by
  cases r1; cases r2
  exact ⟨c, z, rfl, rfl, k _ I H (.refl e) (.bl _)⟩
/-! ### built-in functions -/
theorem c_abs {i : Int} : Cl X (.builtin "abs") [.int i] (.int (if i < 0 then -i else i)) := .of call_abs fun I H us Q e r k => by
  cases r with
  | cons r rr => cases r; cases rr; exact ⟨i, rfl, k _ I H (.refl e) (.int _)⟩
theorem c_lenL {ds : List D} : Cl X (.builtin "len") [.lst ds] (.int (ds.length : Nat)) := .of call_len_seq fun I H us Q e r k => by
  cases r with
  | cons r rr =>
    cases rr
    cases r with
    | lst h r => exact ⟨_, _, rfl, .inl (SqL.of (e _ _ h)), by rw [r.len]; exact k _ I H (.refl e) (.int _)⟩
theorem c_lenS {s : Str} (hs : s.length ≤ sizeLine) : Cl X (.builtin "len") [.str s] (.int (s.length : Nat)) := .of call_len_str fun I H us Q e r k => by
  cases r with
  | cons r rr => cases r; cases rr; exact ⟨s, rfl, hs, k _ I H (.refl e) (.int _)⟩
theorem c_str {i : Int} (h : i.natAbs.log2 < 1920) : Cl X (.type "str") [.int i] (.str (toString i)) := .of call_str_int fun I H us Q e r k => by
  cases r with
  | cons r rr => cases r; cases rr; exact ⟨i, rfl, h, k _ I H (.refl e) (.str _)⟩
theorem c_int {s : Str} {n : Int} (h : PySem.intText? s = some n) (hl : s.length ≤ 640) : Cl X (.type "int") [.str s] (.int n) := .of call_int_str fun I H us Q e r k => by
  cases r with
  | cons r rr => cases r; cases rr; exact ⟨s, n, rfl, h, hl, k _ I H (.refl e) (.int _)⟩
theorem c_min (hc : X.calm = true) {l : List Int} {m : Int} (hm : m ∈ l) (hle : ∀ y ∈ l, m ≤ y) : Cl X (.builtin "min") [.lst (l.map D.int)] (.int m) := .of (cr_min hc) fun I H us Q e r k => by
  cases r with
  | cons r rr =>
    cases rr
    cases r with
    | lst h r =>
      cases rpA_ints r
      refine ⟨_, l, rfl, SqL.of (e _ _ h), List.length_pos_of_mem hm, fun m' h1 h2 => ?_⟩
      have : m' = m := Int.le_antisymm (h2 m hm) (hle m' h1)
      subst this
      exact k _ I H (.refl e) (.int _)
theorem c_all (hc : X.calm = true) {l : List Bool} : Cl X (.builtin "all") [.lst (l.map D.bl)] (.bl (l.all id)) := .of (cr_all hc) fun I H us Q e r k => by
  cases r with
  | cons r rr =>
    cases rr
    cases r with
    | lst h r =>
      cases rpA_bls r
      exact ⟨_, l, rfl, SqL.of (e _ _ h), k _ I H (.refl e) (.bl _)⟩
theorem c_listL {ds : List D} : Cl X (.type "list") [.lst ds] (.lst ds) := .of call_list_of fun I H us Q e r k => by
  cases r with
  | cons r rr =>
    cases rr
    cases r with
    | lst h r => exact ⟨_, _, rfl, .inl (SqL.of (e _ _ h)), fun p hp => grow_new e k hp (.lst upd_same (r.mono (new_sub e hp)))⟩
theorem c_listT {ds : List D} : Cl X (.type "list") [.tup ds] (.lst ds) := .of call_list_of fun I H us Q e r k => by
  cases r with
  | cons r rr =>
    cases rr
    cases r with
    | tup h r => exact ⟨_, _, rfl, .inr (same_sqT e h), fun p hp => grow_new e k hp (.lst upd_same (r.mono (new_sub e hp)))⟩
end
end Dl

set_option Elab.async false
set_option linter.all false
set_option maxRecDepth 100000
set_option maxHeartbeats 2000000
namespace Dl
open PySem PySem.Spec PyProof.Rows L2

/-! ### a function's body keeps its promise -/
def FinR (Γ : En) (r : Res) (d : D) (Γ' : En) : Prop := ∃ Γa, r = .ok d Γa ∧ Γa.length = Γ.length ∧ ∀ (k : Nat) (s : Sl), Γa[k]? = some s →
  s = .un ∨ (∃ d, s = .im d ∧ Γ[k]? = some (.im d)) ∨ (∃ p o o0, s = .own p o ∧ Γ'[k]? = some s ∧ Γ[k]? = some (.own p o0))
def xeR (r : Res) : XS := fun C fs => r = .ex C fs
def retR (Γ : En) (r : Res) : Re := { nx := FinR Γ r .non, rt := FinR Γ r }
def envF (N ps : List Str) (Γ : En) : En := Γ ++ List.replicate (N.length - ps.length) .un
theorem own_app {Γ : En} {n : Nat} {p : Addr} : Own (Γ ++ List.replicate n .un) p ↔ Own Γ p := by
  constructor
  · rintro ⟨i, o, h⟩
    by_cases hi : i < Γ.length
    · rw [List.getElem?_append_left hi] at h; exact ⟨i, o, h⟩
    · rw [List.getElem?_append_right (Nat.le_of_not_lt hi), List.getElem?_replicate] at h
      split at h
      · cases h
      · cases h
  · rintro ⟨i, o, h⟩
    have hi := (List.getElem?_eq_some_iff.mp h).1
    exact ⟨i, o, by rw [List.getElem?_append_left hi]; exact h⟩
theorem at_start {K : PySem.W.Frag} {vs : List V} {I H : Hp} {Γ : En} {N ps : List Str} (a : At K (vs.map some) I H Γ) (hl : vs.length = ps.length) : At K (L2.start N vs) I H (envF N ps Γ) := by
  have hlen : vs.length = Γ.length := by have := a.len; rw [List.length_map] at this; exact this
  refine ⟨a.sub, ?_, fun i s h => ?_, fun i j p o o' h h' => ?_⟩
  · unfold L2.start envF
    rw [List.length_append, List.length_append, List.length_map, List.length_replicate, List.length_replicate, hlen, ← hl, hlen]
  · unfold L2.start
    unfold envF at h
    by_cases hi : i < Γ.length
    · rw [List.getElem?_append_left hi] at h
      rw [List.getElem?_append_left (by rw [List.length_map, hlen]; exact hi)]
      exact a.sl i s h
    · rw [List.getElem?_append_right (Nat.le_of_not_lt hi), List.getElem?_replicate] at h
      rw [List.getElem?_append_right (by rw [List.length_map, hlen]; exact Nat.le_of_not_lt hi), List.getElem?_replicate, List.length_map, hlen]
      rw [← hl, hlen] at h
      split at h
      · rename_i hh
        cases h
        rw [if_pos hh]
        exact ⟨none, rfl, trivial⟩
      · cases h
  · have un : ∀ (i : Nat) (p : Addr) (o : Ow), (envF N ps Γ)[i]? = some (.own p o) → Γ[i]? = some (.own p o) := fun i p o h => by
      unfold envF at h
      by_cases hi : i < Γ.length
      · rw [List.getElem?_append_left hi] at h; exact h
      · rw [List.getElem?_append_right (Nat.le_of_not_lt hi), List.getElem?_replicate] at h
        split at h
        · cases h
        · cases h
    exact a.nd i j p o o' (un i p o h) (un j p o' h')
theorem fin_back {K : PySem.W.Frag} {vs : List V} {I H I' H' : Hp} {Γ Γ' : En} {N ps : List Str} {σ' : L2.St} {d : D} {r : Res} {v : V} {Q : VK} (a : At K (vs.map some) I H Γ) (f : FinR Γ r d Γ') (s : Stp (envF N ps Γ) I H Γ' I' H') (a' : At K σ' I' H' Γ') (rv : Rp K I' v d)
    (hq : match r with
      | .ok d Γ' => ∀ v I' H', Stp Γ I H Γ' I' H' → At K (vs.map some) I' H' Γ' → Rp K I' v d → Q v H'
      | .ex C fs => True) : Q v H' := by
  obtain ⟨Γa, e, hl, h⟩ := f
  subst e
  refine hq v I' H' ⟨fun b o hb n => s.same b o hb fun z => n (own_app.mp z), s.sub, fun b o hb => ?_, fun p ⟨k, o, hk⟩ => ?_⟩ ⟨a'.sub, a.len.trans hl.symm, fun k sl hk => ?_, fun i j p o o' hi hj => ?_⟩ rv
  · rcases s.fresh b o hb with z | z | z
    · exact .inl z
    · exact .inr (.inl z)
    · exact .inr (.inr (own_app.mp z))
  · rcases h k _ hk with z | ⟨d, z, _⟩ | ⟨p', o', o0, z, _, h3⟩
    · cases z
    · cases z
    · cases z; exact .inl ⟨k, o0, h3⟩
  · rcases h k _ hk with z | ⟨d, z, h2⟩ | ⟨p', o', o0, z, h2, h3⟩
    · subst z
      have hk2 := (List.getElem?_eq_some_iff.mp hk).1
      have : k < (vs.map some).length := by rw [a.len, ← hl]; exact hk2
      exact ⟨_, List.getElem?_eq_getElem this, trivial⟩
    · subst z
      obtain ⟨w, e1, e2⟩ := a.im h2
      exact ⟨_, e1, w, rfl, e2.mono s.sub⟩
    · subst z
      exact ⟨_, (a.own h3).1, rfl, (a'.own h2).2.1, (a'.own h2).2.2⟩
  · have back : ∀ (k : Nat) (p : Addr) (o : Ow), Γa[k]? = some (.own p o) → ∃ o0, Γ[k]? = some (.own p o0) := fun k p o hk => by
      rcases h k _ hk with z | ⟨d, z, _⟩ | ⟨p', o', o0, z, _, h3⟩
      · cases z
      · cases z
      · cases z; exact ⟨o0, h3⟩
    obtain ⟨o1, h1⟩ := back i p o hi
    obtain ⟨o2, h2⟩ := back j p o' hj
    exact a.nd i j p o1 o2 h1 h2
section
variable {P : Program} {w : World} {K : PySem.W.Frag} {mg : Str → Option Value} {base : Heap}
theorem cg_len {pre : En → Res → Prop} {ps : List Str} (hl : ∀ Γ r, pre Γ r → Γ.length = ps.length) (vs : List V) (H : Hp) (Q : VK) (E : XK) (h : Cg K pre vs H Q E) : vs.length = ps.length := by
  obtain ⟨I, Γ, r, a, hp, _⟩ := h
  have := a.len
  rw [List.length_map] at this
  rw [this]
  exact hl Γ r hp
/-- no exception leaves -/
theorem fn0 {x qual : Str} {st : Stmt} {f : Addr} {fd : FuncData} {N ps : List Str} {k : Nat} {pre : En → Res → Prop} (F : Fun K x qual st f fd) (S : FnScope N ps (defScope st)) (hl : ∀ Γ r, pre Γ r → Γ.length = ps.length)
    (body : ∀ (cdv : Value) (A : Around) (outer : List Env) (s : Shared) (H : Hp) (E : XK) (Γ : En) (r : Res), Room k (A.deeper (envOfC qual (defScope st) s.heap.objs.size f cdv)) → pre Γ r →
      WpSs (cxOf CX0 P w K mg base N qual (defScope st) f cdv A outer s H E).nox E0 noX (defBody st) (envF N ps Γ) (retR Γ r)) : FnOk P w K mg base CX0 (k + 1) f fd ps (Cg K pre) := by
  refine F.ok S (cg_len hl) fun cdv A outer s H vs Q E hr h => ⟨semSs _ _, pss_sem _ _, ?_⟩
  obtain ⟨I, Γ, r, a, hp, hq⟩ := h
  have hl' : vs.length = ps.length := cg_len hl vs H Q E ⟨I, Γ, r, a, hp, hq⟩
  refine body cdv A outer s H E Γ r hr hp _ I H _ (at_start a hl') ⟨fun σ' I' H' Γ' f s1 a' => ?_, fun v σ' I' H' d Γ' f s1 a' rv => ?_, fun _ _ _ _ z _ _ => z.elim, fun _ _ _ _ z _ _ => z.elim⟩ fun C fs dd H' z _ _ => z.elim
  · refine fin_back a f s1 a' .non ?_
    cases r with
    | ok d Γ' => exact hq
    | ex C fs => trivial
  · refine fin_back a f s1 a' rv ?_
    cases r with
    | ok d Γ' => exact hq
    | ex C fs => trivial
/-- an exception may leave -/
theorem fnX {x qual : Str} {st : Stmt} {f : Addr} {fd : FuncData} {N ps : List Str} {k : Nat} {pre : En → Res → Prop} (F : Fun K x qual st f fd) (S : FnScope N ps (defScope st)) (hl : ∀ Γ r, pre Γ r → Γ.length = ps.length)
    (body : ∀ (cdv : Value) (A : Around) (outer : List Env) (s : Shared) (H : Hp) (E : XK) (Γ : En) (r : Res), Room k (A.deeper (envOfC qual (defScope st) s.heap.objs.size f cdv)) → pre Γ r →
      WpSs (cxOf (L2.CX P w) P w K mg base N qual (defScope st) f cdv A outer s H E) E (xeR r) (defBody st) (envF N ps Γ) (retR Γ r)) : FnOk P w K mg base (L2.CX P w) (k + 1) f fd ps (Cg K pre) := by
  refine F.okX S (cg_len hl) fun cdv A outer s H vs Q E hr h => ⟨semSs _ _, pss_sem _ _, ?_⟩
  obtain ⟨I, Γ, r, a, hp, hq⟩ := h
  have hl' : vs.length = ps.length := cg_len hl vs H Q E ⟨I, Γ, r, a, hp, hq⟩
  refine body cdv A outer s H E Γ r hr hp _ I H _ (at_start a hl') ⟨fun σ' I' H' Γ' f s1 a' => ?_, fun v σ' I' H' d Γ' f s1 a' rv => ?_, fun _ _ _ _ z _ _ => z.elim, fun _ _ _ _ z _ _ => z.elim⟩ fun C fs dd H' z kp hd => ?_
  · refine fin_back a f s1 a' .non ?_
    cases r with
    | ok d Γ' => exact hq
    | ex C fs => trivial
  · refine fin_back a f s1 a' rv ?_
    cases r with
    | ok d Γ' => exact hq
    | ex C fs => trivial
  · have z : r = .ex C fs := z
    subst z
    exact hq dd H' (fun b o hb n => kp b o hb fun q => n (own_app.mp q)) hd
end
/-! ### a while by a measure of its state -/
theorem while_m {X : Cx} {E : XK} {XE : XS} {c : Expr} {body : List Stmt} {R : Re} {S : Type} (G : S → En) (μ : S → Nat) (ok : S → Prop)
    (h : ∀ s n, ok s → (∀ t, ok t → μ t < μ s → WhileD X E XE c body R n (G t)) → WhileD X E XE c body R (n + 1) (G s)) (s : S) (hs : ok s) : WhileD X E XE c body R (μ s + 1) (G s) := by
  have key : ∀ n s, ok s → μ s ≤ n → WhileD X E XE c body R (n + 1) (G s) := by
    intro n
    induction n with
    | zero => exact fun s hs hm => h s 0 hs fun t _ ht => by omega
    | succ n ih => exact fun s hs hm => h s (n + 1) hs fun t hk ht => ih t hk (by omega)
  exact key (μ s) s hs (Nat.le_refl _)
/-- a for by what holds of the state and of what is still to come -/
theorem for_ind {X : Cx} {E : XK} {XE : XS} {js : List Nat} {tg : Expr} {body : List Stmt} {R : Re} {S α : Type} (enc : α → D) (G : S → En) (Iv : S → List α → Prop)
    (turn : ∀ s x rest, Iv s (x :: rest) → ∀ nx : En → Prop, (∀ t, Iv t rest → nx (G t)) → WpG1 X js tg (enc x) (G s) fun Γ1 => WpSs X E XE body Γ1 { nx := nx, ct := nx, bk := R.nx, rt := R.rt })
    (done : ∀ s, Iv s [] → R.nx (G s)) : ∀ (xs : List α) (s : S), Iv s xs → ForD X E XE js tg body R (xs.map enc) (G s)
  | [], s, h => done s h
  | x :: r, s, h => turn s x r h _ fun t ht => for_ind enc G Iv turn done r t ht
/-! ### functions of data alone -/
def PureP (p : List D → D → Prop) : En → Res → Prop := fun Γ r => ∃ ds d, Γ = ds.map Sl.im ∧ r = .ok d Γ ∧ p ds d
/-- .. that may raise -/
inductive Ox where
  | ok (d : D) | ex (C : Addr) (fs : List (Str × V))
def PureX (p : List D → Ox → Prop) : En → Res → Prop := fun Γ r => ∃ ds o, Γ = ds.map Sl.im ∧ p ds o ∧ match o with
  | .ok d => r = .ok d Γ
  | .ex C fs => r = .ex C fs
theorem fin_pure {ds : List D} {d : D} {Γ' : En} : FinR (ds.map Sl.im) (.ok d (ds.map Sl.im)) d Γ' := ⟨_, rfl, rfl, fun k s h => by
  rw [List.getElem?_map] at h
  cases e : ds[k]? with
  | none => rw [e] at h; cases h
  | some d0 =>
    rw [e] at h
    cases h
    exact .inr (.inl ⟨d0, rfl, by rw [List.getElem?_map, e] <;> rfl⟩)⟩
section
variable {X : Cx} {E : XK} {XE : XS} {Γ : En} {R R' : D → En → Prop} {pos : Pos}
theorem WpD.toG {es : List Expr} {R : List Ag → En → Prop} (h : WpD X E XE es Γ fun ds Γ1 => R (ds.map Ag.d) Γ1) : WpG X E XE es Γ R := fun σ I H Q a k x => h σ I H Q a (fun vs I1 H1 ds Γ1 r s1 a1 r1 => k vs I1 H1 _ Γ1 r s1 a1 (by
  clear h k r
  induction r1 using RpA.rec (motive_1 := fun _ _ _ => True) (motive_3 := fun _ _ _ => True) (motive_4 := fun _ _ _ => True) with
  | nil => exact .nil
  | cons h r ih1 ih2 => exact .cons h ih2
  | _ => trivial)) x
theorem ag_d {ds : List D} {k i : Nat} : (ds.map Ag.d)[k]? ≠ some (Ag.o i) := fun h => by
  rw [List.getElem?_map] at h
  cases e : ds[k]? with
  | none => rw [e] at h; cases h
  | some d => rw [e] at h; cases h
theorem ag_im {ds : List D} {Γ : En} : (ds.map Ag.d).map (agS Γ) = ds.map Sl.im := by rw [List.map_map]; rfl
theorem w_callP {CX : CXT} {k : Nat} {ps : List Str} {p : List D → D → Prop} {x : Str} {px : Pos} {e : Expr} {es : List Expr} (F : Fv X.prog X.w X.K X.mg X.base CX k x ps (PureP p)) (hr : Room k X.A) (hg : Gl X x) (hx : Passes CX X E)
    (h : WpD X E XE (e :: es) Γ fun ds Γ1 => ∃ d, p ds d ∧ R d Γ1) (hdb : (x == ("__debug__" : Str)) = false := by decide) (he : starEach (e :: es) X.env = (false, eval e X.env) :: starEach es X.env := by rfl) (hpl : (backTo pos (starEach es X.env)).any (·.1) = false := by rfl) :
    Wp X E XE (.Call (.Name x px) (e :: es) [] pos) Γ R := by
  refine w_call F hr hg hx (WpD.toG ?_) hdb he hpl
  refine fun σ I H Q a k x => h σ I H Q a (fun vs I1 H1 ds Γ1 ⟨d, hp, r⟩ s1 a1 r1 => k vs I1 H1 ds Γ1 ⟨fun j k i h => (ag_d h).elim, .ok d (ds.map Sl.im), ⟨ds, d, ag_im, by rw [ag_im], hp⟩, Γ1, bak0 fun k i => ag_d, r⟩ s1 a1 r1) x
theorem w_callX {CX : CXT} {k : Nat} {ps : List Str} {p : List D → Ox → Prop} {x : Str} {px : Pos} {e : Expr} {es : List Expr} (F : Fv X.prog X.w X.K X.mg X.base CX k x ps (PureX p)) (hr : Room k X.A) (hg : Gl X x) (hx : Passes CX X E)
    (h : WpD X E XE (e :: es) Γ fun ds Γ1 => ∃ o, p ds o ∧ match o with
      | .ok d => R d Γ1
      | .ex C fs => XE C fs) (hdb : (x == ("__debug__" : Str)) = false := by decide) (he : starEach (e :: es) X.env = (false, eval e X.env) :: starEach es X.env := by rfl) (hpl : (backTo pos (starEach es X.env)).any (·.1) = false := by rfl) :
    Wp X E XE (.Call (.Name x px) (e :: es) [] pos) Γ R := by
  refine w_call F hr hg hx (WpD.toG ?_) hdb he hpl
  refine fun σ I H Q a k x => h σ I H Q a (fun vs I1 H1 ds Γ1 ⟨o, hp, r⟩ s1 a1 r1 => k vs I1 H1 ds Γ1 ?_ s1 a1 r1) x
  refine ⟨fun j k i h => (ag_d h).elim, ?_⟩
  cases o with
  | ok d => exact ⟨.ok d (ds.map Sl.im), ⟨ds, .ok d, ag_im, hp, by rw [ag_im]⟩, Γ1, bak0 fun k i => ag_d, r⟩
  | ex C fs => exact ⟨.ex C fs, ⟨ds, .ex C fs, ag_im, hp, rfl⟩, r⟩
/-- short words -/
theorem wv {x : Str} (i : Nat) {d : D} (hg : Γ[i]? = some (.im d)) (r : R d Γ) (hN : X.N[i]? = some x := by rfl) (hv : Vis X.env.scope x := by first | exact .inl rfl | exact .inr (.inl rfl) | exact .inr (.inr rfl)) (hd : (x == ("__debug__" : Str)) = false := by decide) (hcd : (x == ("__classdict__" : Str)) = false := by decide) : Wp X E XE (.Name x pos) Γ R := w_var i hN hv hg r hd hcd
theorem wg {x : Str} (i : Nat) {p : Addr} {o : Ow} (hg : Γ[i]? = some (.own p o)) (r : R o.d (Γ.set i .un)) (hN : X.N[i]? = some x := by rfl) (hv : Vis X.env.scope x := by first | exact .inl rfl | exact .inr (.inl rfl) | exact .inr (.inr rfl)) (hd : (x == ("__debug__" : Str)) = false := by decide) (hcd : (x == ("__classdict__" : Str)) = false := by decide) : Wp X E XE (.Name x pos) Γ R := w_give i hN hv hg r hd hcd
theorem ss {x : Str} {R : Re} (i : Nat) {e : Expr} {pos' : Pos} (hN : X.N.Nodup) (h : Wp X E XE e Γ fun d Γ' => R.nx (Γ'.set i (.im d))) (hi : X.N[i]? = some x := by rfl) (hx : Loc X.env.scope x := by first | exact .inl rfl | exact .inr rfl) (hs : swapsWith e (some (.Name x pos')) pos.line X.env = pure false := by rfl) (hf : X.fn x = true ∨ X.env.scope.names.lookup x = some .local := by exact .inl rfl) :
    WpS X E XE (.Assign [.Name x pos'] e pos) Γ R := s_set i hN hi hx h hs hf
theorem ssN {x : Str} {R : Re} (i : Nat) {e : Expr} {pos' : Pos} (hN : X.N.Nodup) (h : WpN X E XE e Γ fun o Γ' => ∀ p, R.nx (Γ'.set i (.own p o))) (hi : X.N[i]? = some x := by rfl) (hx : Loc X.env.scope x := by first | exact .inl rfl | exact .inr rfl) (hs : swapsWith e (some (.Name x pos')) pos.line X.env = pure false := by rfl) (hf : X.fn x = true ∨ X.env.scope.names.lookup x = some .local := by exact .inl rfl) :
    WpS X E XE (.Assign [.Name x pos'] e pos) Γ R := s_setN i hN hi hx h hs hf
theorem gn {js : List Nat} {x : Str} (i : Nat) {d : D} {R : En → Prop} (hN : X.N.Nodup) (r : R (Γ.set i (.im d))) (hj : i ∈ js := by decide) (hi : X.N[i]? = some x := by rfl) (hx : Loc X.env.scope x := by first | exact .inl rfl | exact .inr rfl) (hf : X.fn x = true ∨ X.env.scope.names.lookup x = some .local := by first | exact .inl rfl | exact .inr rfl) : WpG1 X js (.Name x pos) d Γ R := g1_name i hN hi hx hj r hf
theorem w_neg {e : Expr} (h : Wp X E XE e Γ fun d Γ' => ∃ i, d = .int i ∧ R (.int (-i)) Γ') : Wp X E XE (.UnaryOp .USub e pos) Γ R :=
  .of (pe_un un_neg (pe_sem X e)) fun σ I H Q a k x => h σ I H _ a (fun v I1 H1 d Γ1 ⟨i, e, r⟩ s1 a1 r1 => by
    subst e
    cases r1
    exact ⟨i, rfl, k _ I1 H1 _ Γ1 r s1 a1 (.int _)⟩) x
theorem at0 {α : Type} {x : α} {r : List α} : atI (x :: r) 0 = some x := atI_nat (j := 0) rfl
theorem atN {α : Type} {l : List α} {i : Int} {j : Nat} {x : α} (e : i = (j : Int)) (h : l[j]? = some x) : atI l i = some x := by subst e; exact atI_nat h
theorem atL {α : Type} {l : List α} {x : α} (h : l.getLast? = some x) : atI l (-1) = some x := by
  obtain ⟨r, rfl⟩ := List.getLast?_eq_some_iff.mp h
  exact atI_last r x
/-- a truth value by what is known -/
theorem dT {c : Prop} [Decidable c] {α : Prop} (h : decide c = true) (k : c → α) : α := k (of_decide_eq_true h)
theorem len_le {n : Nat} (h : n ≤ 1000000 := by exact Nat.le_of_ble_eq_true rfl) : n ≤ sizeLine := Nat.le_trans h (by decide)
theorem fin_eq {ds : List D} {d d' : D} {Γ' : En} (h : d' = d) : FinR (ds.map Sl.im) (.ok d (ds.map Sl.im)) d' Γ' := by rw [h]; exact fin_pure
theorem i_range3 {tg : Expr} {Ri : List D → En → Prop} {a b c : Expr} {p : Pos} (hg : Gl X "range") (hm : X.mg "range" = none) (h : WpD X E XE [a, b, c] Γ fun ds Γ' => ∃ (i j c : Int) (n : Nat), ds = [.int i, .int j, .int c] ∧ RgC i j c n ∧ Ri (rngC i c n) Γ')
    (hs : starEach [a, b, c] X.env = (false, eval a X.env) :: starEach [b, c] X.env := by rfl) (hpl : (backTo pos (starEach [b, c] X.env)).any (·.1) = false := by rfl) : WpI X E XE tg (.Call (.Name "range" p) [a, b, c] [] pos) Γ Ri :=
  .of (pi_range3 hg hm (pa_sem X _) hs hpl) fun σ I H Q a k x => h σ I H _ a (fun vs I1 H1 ds Γ1 ⟨i0, j, c, n, e, hc, r⟩ s1 a1 r1 => by
    subst e
    cases r1 with
    | cons q rr =>
      cases q
      cases rr with
      | cons q rr =>
        cases q
        cases rr with
        | cons q rr =>
          cases q
          cases rr
          refine ⟨i0, j, c, n, rfl, hc, k _ I1 H1 _ Γ1 r s1 a1 ⟨_, _, by rw [show (rngC i0 c n).length = n by unfold rngC; rw [List.length_map, List.length_range]]; exact walk_rangeC, fun _ _ => trivial, fun i I2 H2 w H3 d e2 v2 hd hy => ?_⟩⟩
          obtain ⟨rfl, rfl⟩ := hy
          rw [rngC_at hd]
          exact ⟨I2, .refl v2, .int _⟩) x
theorem w_not {e : Expr} (h : Wp X E XE e Γ fun d Γ' => ∃ b, d = .bl b ∧ R (.bl (!b)) Γ') : Wp X E XE (.UnaryOp .Not e pos) Γ R :=
  .of (pe_not (pe_sem X e)) fun σ I H Q a k x => h σ I H _ a (fun v I1 H1 d Γ1 ⟨b, e, r⟩ s1 a1 r1 => by
    subst e
    cases r1
    exact ⟨b, rfl, k _ I1 H1 _ Γ1 r s1 a1 (.bl _)⟩) x
theorem cut_drop {α : Type} (l : List α) : cutL l (some 1) none = l.drop 1 := by
  unfold cutL
  rw [show HT.sIx l.length 0 (some 1) = min 1 l.length by rw [show (1 : Int) = ((1 : Nat) : Int) from rfl, HT.sIx_nat], HT.sIx_none]
  cases l with
  | nil => rfl
  | cons a r => simp
theorem cut_nat {α : Type} (l : List α) {a b : Nat} (h : a ≤ b) (hb : b ≤ l.length) : cutL l (some (a : Int)) (some (b : Int)) = (l.take b).drop a := by
  unfold cutL
  rw [HT.sIx_nat, HT.sIx_nat, Nat.min_eq_left (Nat.le_trans h hb), Nat.min_eq_left hb, List.drop_take]
theorem wlc {α : Type} {elt tg iter : Expr} {ifs : List Expr} {scope : Scope} {R : Ow → En → Prop} (own : List (Str × Nat)) (js : List Nat) (enc : α → D) (keep : α → Bool) (val : α → D) (hN : X.N.Nodup) (ok : BlkOk X.N X.env.scope scope own)
    (h : LcH X E XE elt tg iter ifs scope own js enc keep val Γ R) (hc : X.calm = true := by rfl) (hif : ifs.length ≤ 1 := by exact Nat.le_of_ble_eq_true rfl) (hj : ∀ j ∈ js, j ∈ own.map (·.2) := by decide) (hs : ∀ x, foldedSetIterable iter X.env x = pure x := by intro _; rfl) : WpN X E XE (.ListComp elt [⟨tg, iter, ifs, 0⟩] scope pos) Γ R :=
  w_lc own js enc keep val hc hN ok hif hj h hs
theorem ssLc {α : Type} {y : Str} {py spos : Pos} {elt tg iter : Expr} {ifs : List Expr} {scope : Scope} {R : Re} (i : Nat) (own : List (Str × Nat)) (js : List Nat) (enc : α → D) (keep : α → Bool) (val : α → D) (hN : X.N.Nodup) (ok : BlkOk X.N X.env.scope scope own)
    (h : LcH X E XE elt tg iter ifs scope own js enc keep val Γ fun o Γ' => ∀ p, R.nx (Γ'.set i (.own p o))) (hc : X.calm = true := by rfl) (hy : X.N[i]? = some y := by rfl) (hyl : X.env.scope.names.lookup y = some .local := by rfl)
    (hif : ifs.length ≤ 1 := by exact Nat.le_of_ble_eq_true rfl) (hj : ∀ j ∈ js, j ∈ own.map (·.2) := by decide)
    (hsw : swapsWith (.ListComp elt [⟨tg, iter, ifs, 0⟩] scope pos) (some (.Name y py)) spos.line X.env = pure true := by exact sw_true rfl rfl rfl (by decide +kernel)) (hs : ∀ x, foldedSetIterable iter X.env x = pure x := by intro _; rfl) :
    WpS X E XE (.Assign [.Name y py] (.ListComp elt [⟨tg, iter, ifs, 0⟩] scope pos) spos) Γ R :=
  s_setLc i own js enc keep val hc hN hy hyl ok hif hj h hsw hs
end
end Dl

set_option Elab.async false
set_option linter.all false
set_option maxRecDepth 100000
set_option maxHeartbeats 2000000
namespace Fp
open PySem PySem.Spec PyProof.Rows L2 Dl
/-- the i-th statement of the program's top -/
def top (i : Nat) : Stmt := PySem.Challenge.pw_fewpoints_s01_answers.main.body.getD i (.Pass ⟨0, 0, 0, 0⟩)
/-- a function of the top stands where its name points -/
structure Fa (K : PySem.W.Frag) (mg : Str → Option Value) (x : Str) (st : Stmt) : Prop where
  ex : ∃ f fd, mg x = some (.ref f) ∧ Fun K x x st f fd
/-- a method stands in its class -/
structure Ma (K : PySem.W.Frag) (C : Addr) (x qual : Str) (st : Stmt) : Prop where
  ex : ∃ f fd, Meth K C x f ∧ Fun K x qual st f fd
theorem fa_fv {P : Program} {w : World} {K : PySem.W.Frag} {mg : Str → Option Value} {base : Heap} {CX : CXT} {k : Nat} {x : Str} {st : Stmt} {ps : List Str} {pre : En → Res → Prop} (F : Fa K mg x st)
    (b : ∀ (kV doc pm : Value) (an : Option Addr) (cdv ct : Value) (us : List Value), us.length = ps.length → bindArgs (PySem.W.fnOf x x (defArgs st) (defBody st) (defScope st) .none kV doc pm an cdv ct) ⟨us, []⟩ = pure (ps.zip us))
    (h : ∀ f fd, Fun K x x st f fd → FnOk P w K mg base CX k f fd ps (Cg K pre)) : Fv P w K mg base CX k x ps pre := by
  obtain ⟨f, fd, hm, F⟩ := F.ex
  exact ⟨f, fd, hm, F.kp, F.binds b, h f fd F⟩
theorem ma_mv {P : Program} {w : World} {K : PySem.W.Frag} {mg : Str → Option Value} {base : Heap} {CX : CXT} {k : Nat} {C : Addr} {x qual : Str} {st : Stmt} {ps : List Str} {pre : En → Res → Prop} (F : Ma K C x qual st)
    (b : ∀ (kV doc pm : Value) (an : Option Addr) (cdv ct : Value) (us : List Value), us.length = ps.length → bindArgs (PySem.W.fnOf x qual (defArgs st) (defBody st) (defScope st) .none kV doc pm an cdv ct) ⟨us, []⟩ = pure (ps.zip us))
    (h : ∀ f fd, Fun K x qual st f fd → FnOk P w K mg base CX k f fd ps (Cg K pre)) : Mv P w K mg base CX k C x ps pre := by
  obtain ⟨f, fd, hm, F⟩ := F.ex
  exact ⟨f, fd, hm, F.binds b, h f fd F⟩
end Fp

set_option Elab.async false
set_option linter.all false
set_option maxRecDepth 100000
set_option maxHeartbeats 2000000
namespace Fp
open PySem PySem.Spec PyProof.Rows L2 Dl
abbrev sCommon : Stmt := top 3
abbrev nCommon : List Str := ["one", "other"]
theorem scCommon : FnScope nCommon ["one", "other"] (defScope sCommon) := ⟨rfl, rfl, rfl, by decide +kernel, rfl, by decide +kernel, by decide +kernel⟩
section
variable {P : Program} {w : World} {K : PySem.W.Frag} {mg : Str → Option Value} {base : Heap}
def pCommon : List D → D → Prop := fun ds d => ∃ a b : Nat, ds = [.int a, .int b] ∧ d = .int (Nat.gcd a b : Nat)
theorem f_common (F : Fa K mg "common" sCommon) : Fv P w K mg base CX0 1 "common" ["one", "other"] (PureP pCommon) := by
  refine fa_fv F (fun _ _ _ _ _ _ us hl => match us, hl with | [_, _], _ => rfl) fun f fd F => fn0 F scCommon (fun Γ r ⟨ds, d, e, _, a, b, e2, _⟩ => by subst e; subst e2; rfl) ?_
  rintro cdv A outer s H E _ _ hr ⟨_, _, rfl, rfl, a, b, rfl, rfl⟩
  refine ss_cons (s_while _ .never (while_m (fun (t : Nat × Nat) => [.im (.int t.1), .im (.int t.2)]) (fun t => t.2) (fun t => Nat.gcd t.1 t.2 = Nat.gcd a b) ?_ (a, b) rfl))
  rintro ⟨a', b'⟩ n hg ih
  refine t_cmp (w_var 1 rfl (.inl rfl) rfl (w_int ⟨_, o_neI, fun hF => ?_, fun hT => ?_⟩))
  · have hb0 : b' = 0 := by
      have : decide ((b' : Int) = 0) = true := by simpa using hF
      have := of_decide_eq_true this
      omega
    subst hb0
    refine ss_one (s_ret (w_var 0 rfl (.inl rfl) rfl ?_))
    have hg : Nat.gcd a' 0 = Nat.gcd a b := hg
    rw [Nat.gcd_zero_right] at hg
    subst hg
    exact fin_pure
  · have hb0 : 0 < b' := by
      have : ¬ (b' : Int) = 0 := by simpa using hT
      omega
    refine ss_one (s_par 0 1 rfl scCommon.nd rfl rfl (by decide) rfl rfl (d_cons (w_var 1 rfl (.inl rfl) rfl (d_cons (w_bin (w_var 0 rfl (.inl rfl) rfl (w_var 1 rfl (.inl rfl) rfl ⟨_, o_modI (by show (0 : Int) < b'; omega), d_nil ⟨_, _, rfl, ?_⟩⟩)))))))
    have := ih (b', a' % b') (by show Nat.gcd b' (a' % b') = _; rw [← hg, Nat.gcd_comm a' b', Nat.gcd_rec b' a', Nat.gcd_comm]) (Nat.mod_lt a' hb0)
    exact this
end
end Fp

set_option linter.all false
/-! Fractions: bounds, lowest terms. -/
namespace Fp
open VatmsBase
/-- bounds, by powers of two -/
structure Bd (n : Nat) (f : Frac) : Prop where
  num : f.num.natAbs < 2 ^ n
  pos : 0 < f.den
  den : f.den < 2 ^ n
theorem Bd.mono {m n : Nat} {f : Frac} (b : Bd m f) (h : m ≤ n) : Bd n f :=
  ⟨Nat.lt_of_lt_of_le b.num (Nat.pow_le_pow_right (by decide) h), b.pos, Nat.lt_of_lt_of_le b.den (Nat.pow_le_pow_right (by decide) h)⟩
theorem frac_eq {a : Int} {b : Nat} (hb : 0 < b) : frac a b = ⟨a / (Nat.gcd a.natAbs b : Nat), b / Nat.gcd a.natAbs b⟩ := by
  unfold frac
  have : Nat.gcd a.natAbs b ≠ 0 := fun h => by have := Nat.eq_zero_of_gcd_eq_zero_right h; omega
  simp only [this, if_false]
theorem natAbs_div_le (a : Int) (g : Nat) (h : g ∣ a.natAbs) : (a / (g : Int)).natAbs ≤ a.natAbs := by
  have h1 : ((g : Int)) ∣ a := Int.ofNat_dvd_left.mpr h
  rw [Int.natAbs_ediv_of_dvd h1, Int.natAbs_natCast]
  exact Nat.div_le_self _ _
theorem frac_bd {n : Nat} {a : Int} {b : Nat} (hb : 0 < b) (ha : a.natAbs < 2 ^ n) (h : b < 2 ^ n) : Bd n (frac a b) := by
  rw [frac_eq hb]
  have g := Nat.gcd_pos_of_pos_right a.natAbs hb
  refine ⟨Nat.lt_of_le_of_lt (natAbs_div_le a _ (Nat.gcd_dvd_left _ _)) ha, ?_, Nat.lt_of_le_of_lt (Nat.div_le_self _ _) h⟩
  exact Nat.div_pos (Nat.le_of_dvd hb (Nat.gcd_dvd_right _ _)) g
theorem mul_lt {a b : Int} {m n : Nat} (ha : a.natAbs < 2 ^ m) (hb : b.natAbs < 2 ^ n) : (a * b).natAbs < 2 ^ (m + n) := by
  rw [Int.natAbs_mul, Nat.pow_add]
  exact Nat.mul_lt_mul'' ha hb
theorem add_lt {a b : Int} {n : Nat} (ha : a.natAbs < 2 ^ n) (hb : b.natAbs < 2 ^ n) : (a + b).natAbs < 2 ^ (n + 1) := by
  have := Int.natAbs_add_le a b
  rw [Nat.pow_succ]
  omega
theorem den_lt {a b : Frac} {m n : Nat} (ha : Bd m a) (hb : Bd n b) : a.den * b.den < 2 ^ (m + n) := by
  rw [Nat.pow_add]
  exact Nat.mul_lt_mul'' ha.den hb.den
theorem cast_lt {a : Nat} {n : Nat} (h : a < 2 ^ n) : ((a : Nat) : Int).natAbs < 2 ^ n := by rw [Int.natAbs_natCast]; exact h
theorem plus_bd {a b : Frac} {m n : Nat} (ha : Bd m a) (hb : Bd n b) : Bd (m + n + 1) (plus a b) := by
  refine frac_bd (Nat.mul_pos ha.pos hb.pos) (add_lt (mul_lt ha.num (cast_lt hb.den)) ?_) (Nat.lt_of_lt_of_le (den_lt ha hb) (Nat.pow_le_pow_right (by decide) (Nat.le_succ _)))
  rw [Nat.add_comm m n]
  exact mul_lt hb.num (cast_lt ha.den)
theorem neg_bd {a : Frac} {m : Nat} (ha : Bd m a) : Bd m (negated a) := ⟨by show (-a.num).natAbs < _; rw [Int.natAbs_neg]; exact ha.num, ha.pos, ha.den⟩
theorem minus_bd {a b : Frac} {m n : Nat} (ha : Bd m a) (hb : Bd n b) : Bd (m + n + 1) (minus a b) := plus_bd ha (neg_bd hb)
theorem times_bd {a b : Frac} {m n : Nat} (ha : Bd m a) (hb : Bd n b) : Bd (m + n) (times a b) := frac_bd (Nat.mul_pos ha.pos hb.pos) (mul_lt ha.num hb.num) (den_lt ha hb)
theorem abs_bd {a : Frac} {m : Nat} (ha : Bd m a) : Bd m (absOf a) := ⟨by show ((a.num.natAbs : Nat) : Int).natAbs < _; rw [Int.natAbs_natCast]; exact ha.num, ha.pos, ha.den⟩
theorem minus_eq (a b : Frac) : minus a b = frac (a.num * (b.den : Int) - b.num * (a.den : Int)) (a.den * b.den) := by
  show frac (a.num * (b.den : Int) + -b.num * (a.den : Int)) (a.den * b.den) = _
  rw [Int.neg_mul]; rfl
theorem least_bd {a b : Frac} {m : Nat} (ha : Bd m a) (hb : Bd m b) : Bd m (least a b) := by unfold least; split <;> assumption
theorem greatest_bd {a b : Frac} {m : Nat} (ha : Bd m a) (hb : Bd m b) : Bd m (greatest a b) := by unfold greatest; split <;> assumption
theorem foldl_least_bd {m : Nat} : ∀ (l : List Frac) (a : Frac), Bd m a → (∀ x ∈ l, Bd m x) → Bd m (l.foldl least a)
  | [], a, h, _ => h
  | x :: r, a, h, hl => foldl_least_bd r _ (least_bd h (hl x List.mem_cons_self)) fun y hy => hl y (List.mem_cons_of_mem x hy)
theorem foldl_greatest_bd {m : Nat} : ∀ (l : List Frac) (a : Frac), Bd m a → (∀ x ∈ l, Bd m x) → Bd m (l.foldl greatest a)
  | [], a, h, _ => h
  | x :: r, a, h, hl => foldl_greatest_bd r _ (greatest_bd h (hl x List.mem_cons_self)) fun y hy => hl y (List.mem_cons_of_mem x hy)
theorem whole_bd {n : Int} {m : Nat} (h : n.natAbs < 2 ^ m) (hm : 0 < m) : Bd m (whole n) := ⟨h, Nat.one_pos, Nat.one_lt_two_pow (by omega)⟩
theorem foldl_plus_bd {m : Nat} : ∀ (l : List Frac) (a : Frac) (k : Nat), Bd k a → (∀ x ∈ l, Bd m x) → Bd (k + (m + 1) * l.length) (l.foldl plus a)
  | [], a, k, h, _ => by simpa using h
  | x :: r, a, k, h, hl => by
    have := foldl_plus_bd r (plus a x) (k + m + 1) (plus_bd h (hl x List.mem_cons_self)) fun y hy => hl y (List.mem_cons_of_mem x hy)
    rw [List.foldl_cons, List.length_cons, Nat.mul_succ]
    rw [show k + ((m + 1) * r.length + (m + 1)) = k + m + 1 + (m + 1) * r.length by omega]
    exact this
end Fp

set_option linter.all false
/-! Points with values, lines between them. -/
namespace Fp
open VatmsBase
open Vatmse (Spot spotAt edge onLine)
theorem frac_neg {a : Int} {b : Nat} (hb : 0 < b) : frac (-a) b = negated (frac a b) := by
  rw [frac_eq hb, frac_eq hb, Int.natAbs_neg]
  have : ((Nat.gcd a.natAbs b : Nat) : Int) ∣ a := Int.ofNat_dvd_left.mpr (Nat.gcd_dvd_left _ _)
  show Frac.mk (-a / _) _ = Frac.mk (-(a / _)) _
  rw [Int.neg_ediv_of_dvd this]
theorem minus_comm {a b : Frac} (ha : 0 < a.den) (hb : 0 < b.den) : minus b a = negated (minus a b) := by
  rw [minus_eq, minus_eq, ← frac_neg (Nat.mul_pos ha hb), Nat.mul_comm a.den b.den]
  congr 1
  omega
theorem abs_minus_comm {a b : Frac} (ha : 0 < a.den) (hb : 0 < b.den) : absOf (minus b a) = absOf (minus a b) := by
  rw [minus_comm ha hb]
  show Frac.mk _ _ = Frac.mk _ _
  congr 1
  show (((-(minus a b).num).natAbs : Nat) : Int) = _
  rw [Int.natAbs_neg]
/-- what a row's points are known to be -/
structure Good (l : List Spot) : Prop where
  len : l.length ≤ 60
  tm : ∀ p ∈ l, p.t.natAbs < 2 ^ 38
  bd : ∀ p ∈ l, Bd 90 p.v
  up : l.Pairwise (fun p q => p.t < q.t)
  nm : ∀ p ∈ l, Nat.gcd p.v.num.natAbs p.v.den = 1
theorem spot_at {l : List Spot} {i : Nat} (h : i < l.length) : spotAt l i = l[i] := by
  unfold spotAt
  rw [List.getElem?_eq_getElem h]; rfl
theorem spot_some {l : List Spot} {i : Nat} (h : i < l.length) : l[i]? = some (spotAt l i) := by rw [spot_at h]; exact List.getElem?_eq_getElem h
theorem Good.mem {l : List Spot} (g : Good l) {i : Nat} (h : i < l.length) : (spotAt l i).t.natAbs < 2 ^ 38 ∧ Bd 90 (spotAt l i).v := by
  rw [spot_at h]
  exact ⟨g.tm _ (List.getElem_mem h), g.bd _ (List.getElem_mem h)⟩
theorem Good.lt {l : List Spot} (g : Good l) {i j : Nat} (hj : j < l.length) (h : i < j) : (spotAt l i).t < (spotAt l j).t := by
  rw [spot_at hj, spot_at (Nat.lt_trans h hj)]
  exact (List.pairwise_iff_getElem.mp g.up) i j (Nat.lt_trans h hj) hj h
/-- a point between two, by its number: within the bound of the line -/
def near (l : List Spot) (d : Frac) (i j k : Nat) : Bool := Vatmse.within d (onLine (spotAt l i) (spotAt l j) (spotAt l k).t) (spotAt l k).v
theorem edge_range {l : List Spot} {d : Frac} {i j : Nat} (hij : i < j) (hj : j < l.length) : edge l d i j = (List.range (j - (i + 1))).all fun k => near l d i j (i + 1 + k) := by
  have e : (l.take j).drop (i + 1) = (List.range (j - (i + 1))).map fun k => spotAt l (i + 1 + k) := by
    apply List.ext_getElem?
    intro m
    rw [List.getElem?_drop, List.getElem?_take, List.getElem?_map]
    by_cases hm : m < j - (i + 1)
    · rw [List.getElem?_range hm, if_pos (by omega)]
      show l[i + 1 + m]? = some (spotAt l (i + 1 + m))
      exact spot_some (by omega)
    · rw [if_neg (by omega), List.getElem?_eq_none (by simpa using Nat.le_of_not_lt hm)]
      rfl
  unfold edge
  rw [decide_eq_true hij, Bool.true_and, e, List.all_map]
  rfl
/-- the later points to which lines lead -/
def leads (l : List Spot) (d : Frac) (i : Nat) : List Nat := ((List.range (l.length - (i + 1))).map fun k => i + 1 + k).filter fun j => edge l d i j
end Fp

set_option linter.all false
/-! Depths, charts. -/
namespace Fp
open VatmsBase
open Vatmse (Spot spotAt edge onLine depthsBy depths walk chart)
theorem edge_next {l : List Spot} {d : Frac} {i : Nat} (h : i + 1 < l.length) : edge l d i (i + 1) = true := by
  rw [edge_range (Nat.lt_succ_self i) h, Nat.sub_self]; rfl
theorem mem_leads {l : List Spot} {d : Frac} {i j : Nat} : j ∈ leads l d i ↔ i < j ∧ j < l.length ∧ edge l d i j = true := by
  unfold leads
  rw [List.mem_filter, List.mem_map]
  constructor
  · rintro ⟨⟨k, hk, rfl⟩, he⟩
    have := List.mem_range.mp hk
    exact ⟨by omega, by omega, he⟩
  · rintro ⟨h1, h2, he⟩
    exact ⟨⟨j - (i + 1), List.mem_range.mpr (by omega), by omega⟩, he⟩
theorem fold_min {p : Nat × Nat → Prop} [∀ x, Decidable (p x)] : ∀ (xs : List (Nat × Nat)) (M : Nat), xs.foldl (fun (m : Nat) x => if p x ∧ x.1 + 1 < m then x.1 + 1 else m) M ≤ M ∧
    (∀ x ∈ xs, p x → xs.foldl (fun (m : Nat) x => if p x ∧ x.1 + 1 < m then x.1 + 1 else m) M ≤ x.1 + 1) ∧
    (xs.foldl (fun (m : Nat) x => if p x ∧ x.1 + 1 < m then x.1 + 1 else m) M = M ∨ ∃ x ∈ xs, p x ∧ xs.foldl (fun (m : Nat) x => if p x ∧ x.1 + 1 < m then x.1 + 1 else m) M = x.1 + 1)
  | [], M => ⟨Nat.le_refl _, fun _ h => absurd h List.not_mem_nil, Or.inl rfl⟩
  | y :: r, M => by
    rw [List.foldl_cons]
    obtain ⟨h1, h2, h3⟩ := fold_min (p := p) r (if p y ∧ y.1 + 1 < M then y.1 + 1 else M)
    by_cases c : p y ∧ y.1 + 1 < M
    · rw [if_pos c] at h1 h2 h3 ⊢
      refine ⟨by omega, fun x hx px => ?_, ?_⟩
      · rcases List.mem_cons.mp hx with e | hx
        · subst e; exact h1
        · exact h2 x hx px
      · rcases h3 with h3 | ⟨x, hx, px, e⟩
        · exact .inr ⟨y, List.mem_cons_self, c.1, h3⟩
        · exact .inr ⟨x, List.mem_cons_of_mem y hx, px, e⟩
    · rw [if_neg c] at h1 h2 h3 ⊢
      refine ⟨h1, fun x hx px => ?_, ?_⟩
      · rcases List.mem_cons.mp hx with e | hx
        · subst e
          have : ¬ x.1 + 1 < M := fun z => c ⟨px, z⟩
          omega
        · exact h2 x hx px
      · rcases h3 with h3 | ⟨x, hx, px, e⟩
        · exact .inl h3
        · exact .inr ⟨x, List.mem_cons_of_mem y hx, px, e⟩
def best (l : List Spot) (d : Frac) (i : Nat) (ds : List Nat) : Nat := ds.zipIdx.foldl (fun (m : Nat) x => if edge l d i (i + 1 + x.2) = true ∧ x.1 + 1 < m then x.1 + 1 else m) (l.length + 1)
theorem depthsBy_succ (l : List Spot) (d : Frac) (i : Nat) (ds : List Nat) : depthsBy l d (i + 1) ds = depthsBy l d i (best l d i ds :: ds) := rfl
theorem best_min {l : List Spot} {d : Frac} {i : Nat} {ds : List Nat} (hn : i + 1 + ds.length = l.length) (h0 : 0 < ds.length) (hd : ∀ x ∈ ds, x < ds.length) :
    ∃ m, m ∈ (leads l d i).map (fun j => ds[j - (i + 1)]?.getD 0) ∧ (∀ y ∈ (leads l d i).map (fun j => ds[j - (i + 1)]?.getD 0), m ≤ y) ∧ best l d i ds = 1 + m ∧ m < ds.length := by
  obtain ⟨h1, h2, h3⟩ := fold_min (p := fun x => edge l d i (i + 1 + x.2) = true) ds.zipIdx (l.length + 1)
  have e : best l d i ds = ds.zipIdx.foldl (fun (m : Nat) x => if edge l d i (i + 1 + x.2) = true ∧ x.1 + 1 < m then x.1 + 1 else m) (l.length + 1) := rfl
  rw [← e] at h1 h2 h3
  have z0 : (ds[0], 0) ∈ ds.zipIdx := by rw [List.mem_zipIdx_iff_getElem?]; exact List.getElem?_eq_getElem h0
  have b0 := h2 _ z0 (edge_next (by omega))
  have l0 := hd ds[0] (List.getElem_mem h0)
  have bl : best l d i ds ≤ ds[0] + 1 := b0
  rcases h3 with h3 | ⟨x, hx, px, ex⟩
  · omega
  · refine ⟨x.1, ?_, fun y hy => ?_, by omega, by omega⟩
    · have hx' := List.mem_zipIdx_iff_getElem?.mp hx
      have hl := (List.getElem?_eq_some_iff.mp hx').1
      refine List.mem_map.mpr ⟨i + 1 + x.2, mem_leads.mpr ⟨by omega, by omega, px⟩, ?_⟩
      rw [show i + 1 + x.2 - (i + 1) = x.2 by omega, hx']; rfl
    · obtain ⟨j, hj, rfl⟩ := List.mem_map.mp hy
      obtain ⟨j1, j2, j3⟩ := mem_leads.mp hj
      have hl : j - (i + 1) < ds.length := by omega
      have := h2 (ds[j - (i + 1)], j - (i + 1)) (by rw [List.mem_zipIdx_iff_getElem?]; exact List.getElem?_eq_getElem hl) (by rw [show i + 1 + (j - (i + 1)) = j by omega]; exact j3)
      rw [List.getElem?_eq_getElem hl]
      show x.1 ≤ ds[j - (i + 1)]
      have this : best l d i ds ≤ ds[j - (i + 1)] + 1 := this
      omega
/-- each number: less than how many there are from it on; 0 is the last one's alone -/
structure Deep (l : List Spot) (d : Frac) (ds : List Nat) : Prop where
  len : ds.length = l.length
  last : ∀ i, i + 1 = l.length → ds[i]? = some 0
  min : ∀ i, i + 1 < l.length → ∃ m, m ∈ (leads l d i).map (fun j => ds[j]?.getD 0) ∧ (∀ y ∈ (leads l d i).map (fun j => ds[j]?.getD 0), m ≤ y) ∧ ds[i]? = some (1 + m)
theorem deep_by {l : List Spot} {d : Frac} : ∀ (r : Nat) (ds : List Nat), r + ds.length = l.length → 0 < ds.length → (∀ x ∈ ds, x < ds.length) → (∀ i, r + i + 1 = l.length → ds[i]? = some 0) →
    (∀ i, r + i + 1 < l.length → ∃ m, m ∈ (leads l d (r + i)).map (fun j => ds[j - r]?.getD 0) ∧ (∀ y ∈ (leads l d (r + i)).map (fun j => ds[j - r]?.getD 0), m ≤ y) ∧ ds[i]? = some (1 + m)) → Deep l d (depthsBy l d r ds)
  | 0, ds, h1, h2, h3, h4, h5 => by
    rw [show depthsBy l d 0 ds = ds from rfl]
    exact ⟨by omega, fun i hi => h4 i (by omega), fun i hi => by
      have := h5 i (by omega)
      simpa using this⟩
  | r + 1, ds, h1, h2, h3, h4, h5 => by
    rw [depthsBy_succ]
    obtain ⟨m, m1, m2, m3, m4⟩ := best_min (l := l) (d := d) (i := r) (ds := ds) (by omega) h2 h3
    refine deep_by r _ (by rw [List.length_cons]; omega) (Nat.succ_pos _) (fun x hx => ?_) (fun i hi => ?_) (fun i hi => ?_)
    · rw [List.length_cons]
      rcases List.mem_cons.mp hx with e | hx
      · subst e; omega
      · have := h3 x hx; omega
    · cases i with
      | zero => omega
      | succ i => exact h4 i (by omega)
    · cases i with
      | zero =>
        have eq : (leads l d (r + 0)).map (fun j => (best l d r ds :: ds)[j - r]?.getD 0) = (leads l d r).map (fun j => ds[j - (r + 1)]?.getD 0) := by
          apply List.map_congr_left
          intro j hj
          obtain ⟨j1, _, _⟩ := mem_leads.mp hj
          rw [show j - r = (j - (r + 1)) + 1 by omega, List.getElem?_cons_succ]
        exact ⟨m, by rw [eq]; exact m1, by rw [eq]; exact m2, by rw [m3]; rfl⟩
      | succ i =>
        obtain ⟨m', n1, n2, n3⟩ := h5 i (by omega)
        have eq : (leads l d (r + (i + 1))).map (fun j => (best l d r ds :: ds)[j - r]?.getD 0) = (leads l d (r + 1 + i)).map (fun j => ds[j - (r + 1)]?.getD 0) := by
          rw [show r + (i + 1) = r + 1 + i by omega]
          apply List.map_congr_left
          intro j hj
          obtain ⟨j1, _, _⟩ := mem_leads.mp hj
          rw [show j - r = (j - (r + 1)) + 1 by omega, List.getElem?_cons_succ]
        exact ⟨m', by rw [eq]; exact n1, by rw [eq]; exact n2, by rw [List.getElem?_cons_succ]; exact n3⟩
theorem deep_depths {l : List Spot} {d : Frac} (h : 0 < l.length) : Deep l d (depths l d) := by
  have e : depths l d = depthsBy l d (l.length - 1) [0] := by
    unfold depths
    cases l with
    | nil => cases h
    | cons a r => rfl
  rw [e]
  refine deep_by _ _ (by show l.length - 1 + 1 = _; omega) Nat.one_pos (fun x hx => by have := List.mem_singleton.mp hx; subst this; exact Nat.one_pos) (fun i hi => ?_) (fun i hi => by omega)
  have : i = 0 := by omega
  subst this; rfl
end Fp

set_option linter.all false
namespace Fp
open VatmsBase
open Vatmse (Spot spotAt edge onLine depthsBy depths walk chart)
theorem edge_lt {l : List Spot} {d : Frac} {i j : Nat} (h : edge l d i j = true) : i < j := by
  unfold edge at h
  exact of_decide_eq_true (Bool.and_eq_true_iff.mp h).1
theorem leads_eq {l : List Spot} {d : Frac} {i : Nat} (h : i < l.length) : leads l d i = (List.range l.length).filter fun j => edge l d i j := by
  unfold leads
  have e : List.range l.length = List.range (i + 1) ++ (List.range (l.length - (i + 1))).map fun k => i + 1 + k := by
    rw [← List.range_add]
    congr 1
    omega
  rw [e, List.filter_append]
  have z : (List.range (i + 1)).filter (fun j => edge l d i j) = [] := by
    rw [List.filter_eq_nil_iff]
    intro j hj he
    have h1 := edge_lt he
    have h2 := List.mem_range.mp hj
    omega
  rw [z, List.nil_append]
theorem leads_find {l : List Spot} {d : Frac} {i : Nat} (h : i < l.length) (p : Nat → Bool) : ((leads l d i).filter p).head? = (List.range l.length).find? fun j => edge l d i j && p j := by
  rw [leads_eq h, List.filter_filter, List.head?_filter]
  congr 1
  funext j
  exact Bool.and_comm _ _
theorem Deep.zero {l : List Spot} {d : Frac} {ds : List Nat} (D : Deep l d ds) {i : Nat} (h : i < l.length) : ds[i]?.getD 0 = 0 ↔ i + 1 = l.length := by
  constructor
  · intro z
    by_cases e : i + 1 = l.length
    · exact e
    · obtain ⟨m, _, _, m3⟩ := D.min i (by omega)
      rw [m3] at z
      have z : 1 + m = 0 := z
      omega
  · intro e
    rw [D.last i e]; rfl
theorem Deep.step {l : List Spot} {d : Frac} {ds : List Nat} (D : Deep l d ds) {i : Nat} (h : i + 1 < l.length) : ∃ j, ((leads l d i).filter fun j => ds[j]?.getD 0 + 1 == ds[i]?.getD 0).head? = some j ∧ i < j ∧ j < l.length := by
  obtain ⟨m, m1, _, m3⟩ := D.min i h
  obtain ⟨j, hj, ej⟩ := List.mem_map.mp m1
  have hm : j ∈ (leads l d i).filter fun j => ds[j]?.getD 0 + 1 == ds[i]?.getD 0 := by
    rw [List.mem_filter]
    refine ⟨hj, ?_⟩
    rw [m3, ej]
    show (m + 1 == 1 + m) = true
    rw [Nat.add_comm]; exact beq_self_eq_true _
  cases e : (leads l d i).filter fun j => ds[j]?.getD 0 + 1 == ds[i]?.getD 0 with
  | nil => rw [e] at hm; cases hm
  | cons k r =>
    have hk : k ∈ (leads l d i).filter fun j => ds[j]?.getD 0 + 1 == ds[i]?.getD 0 := by rw [e]; exact List.mem_cons_self
    obtain ⟨k1, k2, _⟩ := mem_leads.mp (List.mem_filter.mp hk).1
    exact ⟨k, rfl, k1, k2⟩
theorem walk_last {l : List Spot} {d : Frac} {ds : List Nat} (D : Deep l d ds) {i : Nat} (h : i + 1 = l.length) : ∀ f, walk l d ds f i = [i]
  | 0 => rfl
  | f + 1 => by
    show (if ds[i]?.getD 0 = 0 then [i] else _) = [i]
    rw [if_pos ((D.zero (by omega)).mpr h)]
theorem walk_step {l : List Spot} {d : Frac} {ds : List Nat} (D : Deep l d ds) {i j : Nat} (h : i + 1 < l.length) (hj : ((leads l d i).filter fun j => ds[j]?.getD 0 + 1 == ds[i]?.getD 0).head? = some j) (f : Nat) : walk l d ds (f + 1) i = i :: walk l d ds f j := by
  show (if ds[i]?.getD 0 = 0 then [i] else match (List.range l.length).find? fun j => edge l d i j && (ds[j]?.getD 0 + 1 == ds[i]?.getD 0) with
    | some j => i :: walk l d ds f j
    | none => [i]) = _
  rw [if_neg (fun z => by have := (D.zero (by omega)).mp z; omega), ← leads_find (by omega), hj]
theorem find_zip {α : Type} {p : α → Bool} : ∀ (l : List α) (r : List α), (∀ x ∈ l, p x = false) → (l ++ r).find? p = r.find? p
  | [], r, _ => rfl
  | x :: l, r, h => by
    rw [List.cons_append, List.find?_cons, h x List.mem_cons_self]
    exact find_zip l r fun y hy => h y (List.mem_cons_of_mem x hy)
end Fp

set_option linter.all false
/-! Fractions as rational numbers. -/
namespace Fp
open VatmsBase
def val (f : Frac) : Rat := (f.num : Rat) / (f.den : Rat)
/-- lowest terms -/
structure Norm (f : Frac) : Prop where
  pos : 0 < f.den
  cop : Nat.gcd f.num.natAbs f.den = 1
theorem denR {n : Nat} (h : 0 < n) : (0 : Rat) < (n : Rat) := Rat.natCast_pos.mpr h
theorem val_frac {a : Int} {b : Nat} (hb : 0 < b) : val (frac a b) = (a : Rat) / (b : Rat) := by
  rw [frac_eq hb]
  have g0 := Nat.gcd_pos_of_pos_right a.natAbs hb
  obtain ⟨x, hx⟩ : ((Nat.gcd a.natAbs b : Nat) : Int) ∣ a := Int.ofNat_dvd_left.mpr (Nat.gcd_dvd_left _ _)
  obtain ⟨y, hy⟩ := Nat.gcd_dvd_right a.natAbs b
  generalize Nat.gcd a.natAbs b = g at *
  show ((a / (g : Int) : Int) : Rat) / ((b / g : Nat) : Rat) = _
  rw [hx, hy, Int.mul_ediv_cancel_left _ (by omega), Nat.mul_div_cancel_left _ g0]
  have hy0 : 0 < y := Nat.pos_of_ne_zero fun z => by subst z; omega
  have h1 := denR g0
  have h2 := denR hy0
  rw [Rat.intCast_mul, Rat.natCast_mul, Rat.intCast_natCast]
  generalize (g : Rat) = G at *
  generalize (y : Rat) = Y at *
  generalize (x : Rat) = Z at *
  grind
theorem norm_frac {a : Int} {b : Nat} (hb : 0 < b) : Norm (frac a b) := by
  rw [frac_eq hb]
  have g0 := Nat.gcd_pos_of_pos_right a.natAbs hb
  have hd : ((Nat.gcd a.natAbs b : Nat) : Int) ∣ a := Int.ofNat_dvd_left.mpr (Nat.gcd_dvd_left _ _)
  refine ⟨Nat.div_pos (Nat.le_of_dvd hb (Nat.gcd_dvd_right _ _)) g0, ?_⟩
  show Nat.gcd (a / ((Nat.gcd a.natAbs b : Nat) : Int)).natAbs (b / Nat.gcd a.natAbs b) = 1
  rw [Int.natAbs_ediv_of_dvd hd, Int.natAbs_natCast]
  exact Nat.gcd_div_gcd_div_gcd_of_pos_right hb
theorem val_inj {f g : Frac} (hf : Norm f) (hg : Norm g) (h : val f = val g) : f = g := by
  have h1 := denR hf.pos
  have h2 := denR hg.pos
  have e : (f.num : Rat) * (g.den : Rat) = (g.num : Rat) * (f.den : Rat) := by
    unfold val at h
    generalize (f.num : Rat) = a at *
    generalize (g.num : Rat) = b at *
    generalize (f.den : Rat) = c at *
    generalize (g.den : Rat) = d at *
    grind
  have e : f.num * (g.den : Int) = g.num * (f.den : Int) := by
    have : ((f.num * (g.den : Int) : Int) : Rat) = ((g.num * (f.den : Int) : Int) : Rat) := by
      rw [Rat.intCast_mul, Rat.intCast_mul, Rat.intCast_natCast, Rat.intCast_natCast]; exact e
    exact Rat.intCast_inj.mp this
  have en : f.num.natAbs * g.den = g.num.natAbs * f.den := by
    have := congrArg Int.natAbs e
    rw [Int.natAbs_mul, Int.natAbs_mul, Int.natAbs_natCast, Int.natAbs_natCast] at this
    exact this
  have d1 : f.den ∣ g.den := by
    have : f.den ∣ f.num.natAbs * g.den := ⟨g.num.natAbs, by rw [en, Nat.mul_comm]⟩
    exact (Nat.Coprime.symm hf.cop).dvd_of_dvd_mul_left this
  have d2 : g.den ∣ f.den := by
    have : g.den ∣ g.num.natAbs * f.den := ⟨f.num.natAbs, by rw [← en, Nat.mul_comm]⟩
    exact (Nat.Coprime.symm hg.cop).dvd_of_dvd_mul_left this
  have ed : f.den = g.den := Nat.dvd_antisymm d1 d2
  have enum : f.num = g.num := by
    rw [ed] at e
    exact Int.eq_of_mul_eq_mul_right (by have := hg.pos; omega) e
  cases f; cases g
  simp only at ed enum
  subst ed enum
  rfl
theorem val_plus {a b : Frac} (ha : 0 < a.den) (hb : 0 < b.den) : val (plus a b) = val a + val b := by
  unfold plus
  rw [val_frac (Nat.mul_pos ha hb)]
  have h1 := denR ha
  have h2 := denR hb
  unfold val
  rw [Rat.intCast_add, Rat.intCast_mul, Rat.intCast_mul, Rat.natCast_mul, Rat.intCast_natCast, Rat.intCast_natCast]
  generalize (a.num : Rat) = x at *
  generalize (b.num : Rat) = y at *
  generalize (a.den : Rat) = c at *
  generalize (b.den : Rat) = d at *
  grind
theorem val_minus {a b : Frac} (ha : 0 < a.den) (hb : 0 < b.den) : val (minus a b) = val a - val b := by
  rw [minus_eq, val_frac (Nat.mul_pos ha hb)]
  have h1 := denR ha
  have h2 := denR hb
  unfold val
  rw [Rat.intCast_sub, Rat.intCast_mul, Rat.intCast_mul, Rat.natCast_mul, Rat.intCast_natCast, Rat.intCast_natCast]
  generalize (a.num : Rat) = x at *
  generalize (b.num : Rat) = y at *
  generalize (a.den : Rat) = c at *
  generalize (b.den : Rat) = d at *
  grind
theorem val_times {a b : Frac} (ha : 0 < a.den) (hb : 0 < b.den) : val (times a b) = val a * val b := by
  unfold times
  rw [val_frac (Nat.mul_pos ha hb)]
  have h1 := denR ha
  have h2 := denR hb
  unfold val
  rw [Rat.intCast_mul, Rat.natCast_mul]
  generalize (a.num : Rat) = x at *
  generalize (b.num : Rat) = y at *
  generalize (a.den : Rat) = c at *
  generalize (b.den : Rat) = d at *
  grind
theorem val_whole (n : Int) : val (whole n) = (n : Rat) := by
  show (n : Rat) / ((1 : Nat) : Rat) = _
  rw [show ((1 : Nat) : Rat) = 1 from rfl]
  grind
theorem norm_whole (n : Int) : Norm (whole n) := ⟨Nat.one_pos, Nat.gcd_one_right _⟩
theorem norm_plus {a b : Frac} (ha : 0 < a.den) (hb : 0 < b.den) : Norm (plus a b) := norm_frac (Nat.mul_pos ha hb)
theorem norm_minus {a b : Frac} (ha : 0 < a.den) (hb : 0 < b.den) : Norm (minus a b) := norm_frac (Nat.mul_pos ha hb)
theorem norm_times {a b : Frac} (ha : 0 < a.den) (hb : 0 < b.den) : Norm (times a b) := norm_frac (Nat.mul_pos ha hb)
theorem less_iff {a b : Frac} (ha : 0 < a.den) (hb : 0 < b.den) : less a b = true ↔ val a < val b := by
  have h1 := denR ha
  have h2 := denR hb
  unfold less val
  rw [decide_eq_true_iff, ← Rat.intCast_lt_intCast, Rat.intCast_mul, Rat.intCast_mul, Rat.intCast_natCast, Rat.intCast_natCast, Rat.div_lt_iff h1]
  generalize (a.num : Rat) = x at *
  generalize (b.num : Rat) = y at *
  generalize (a.den : Rat) = c at *
  generalize hd : (b.den : Rat) = d at *
  have e : y / d * c = (y * c) / d := by grind
  rw [e, Rat.lt_div_iff h2]
theorem val_neg (a : Frac) : val (negated a) = - val a := by
  unfold val negated
  show ((-a.num : Int) : Rat) / _ = _
  rw [Rat.intCast_neg]
  grind
theorem val_abs {a : Frac} (ha : 0 < a.den) : val (absOf a) = if val a < 0 then - val a else val a := by
  have h1 := denR ha
  have e : val a < 0 ↔ a.num < 0 := by
    unfold val
    rw [Rat.div_lt_iff h1]
    have : (0 : Rat) * (a.den : Rat) = ((0 : Int) : Rat) := by rw [Rat.zero_mul]; rfl
    rw [this, Rat.intCast_lt_intCast]
  by_cases h : a.num < 0
  · rw [if_pos (e.mpr h), ← val_neg]
    unfold absOf negated
    congr 2
    omega
  · rw [if_neg (fun z => h (e.mp z))]
    unfold absOf
    congr 1
    cases a
    simp only at h ⊢
    congr 1
    omega
theorem pos_plus {a b : Frac} (ha : 0 < a.den) (hb : 0 < b.den) : 0 < (plus a b).den := (norm_plus ha hb).pos
theorem pos_minus {a b : Frac} (ha : 0 < a.den) (hb : 0 < b.den) : 0 < (minus a b).den := (norm_minus ha hb).pos
theorem pos_times {a b : Frac} (ha : 0 < a.den) (hb : 0 < b.den) : 0 < (times a b).den := (norm_times ha hb).pos
/-- twice a bound, both ways of saying it -/
theorem twice {d : Frac} (hd : 0 < d.den) : times d (frac 2 1) = plus d d := by
  have p2 : 0 < (frac 2 1).den := (norm_frac Nat.one_pos).pos
  refine val_inj (norm_times hd p2) (norm_plus hd hd) ?_
  rw [val_times hd p2, val_plus hd hd, val_frac Nat.one_pos]
  rw [show ((2 : Int) : Rat) = 2 from rfl, show ((1 : Nat) : Rat) = 1 from rfl]
  grind
theorem val_least {a b : Frac} (ha : 0 < a.den) (hb : 0 < b.den) : (val (least a b) = val a ∧ ¬ val b < val a) ∨ (val (least a b) = val b ∧ val b < val a) := by
  unfold least
  by_cases h : less b a = true
  · rw [if_pos h]; exact .inr ⟨rfl, (less_iff hb ha).mp h⟩
  · rw [if_neg h]; exact .inl ⟨rfl, fun z => h ((less_iff hb ha).mpr z)⟩
theorem val_greatest {a b : Frac} (ha : 0 < a.den) (hb : 0 < b.den) : (val (greatest a b) = val a ∧ ¬ val a < val b) ∨ (val (greatest a b) = val b ∧ val a < val b) := by
  unfold greatest
  by_cases h : less a b = true
  · rw [if_pos h]; exact .inr ⟨rfl, (less_iff ha hb).mp h⟩
  · rw [if_neg h]; exact .inl ⟨rfl, fun z => h ((less_iff ha hb).mpr z)⟩
theorem less_val {a b c d : Frac} (ha : 0 < a.den) (hb : 0 < b.den) (hc : 0 < c.den) (hd : 0 < d.den) (h : val a < val b ↔ val c < val d) : less a b = less c d := by
  rw [Bool.eq_iff_iff, less_iff ha hb, less_iff hc hd]
  exact h
end Fp

set_option linter.all false
/-! Steps. -/
namespace Fp
open VatmsBase
open Vatmse (Spot spotAt Seg stepsBy steps apartOf middle)
def segV (l : List Spot) (a k : Nat) : List Frac := ((l.take (k + 1)).drop (a + 1)).map (·.v)
def loS (l : List Spot) (a k : Nat) : Frac := (segV l a k).foldl least (spotAt l a).v
def hiS (l : List Spot) (a k : Nat) : Frac := (segV l a k).foldl greatest (spotAt l a).v
theorem segV_self (l : List Spot) (a : Nat) : segV l a a = [] := by
  unfold segV
  rw [List.drop_eq_nil_of_le (by rw [List.length_take]; omega)]; rfl
theorem segV_succ {l : List Spot} {a k : Nat} (h : a ≤ k) (hk : k + 1 < l.length) : segV l a (k + 1) = segV l a k ++ [(spotAt l (k + 1)).v] := by
  unfold segV
  rw [List.take_add_one, spot_some hk, List.drop_append_of_le_length (by rw [List.length_take]; omega), List.map_append]
  rfl
theorem loS_self (l : List Spot) (a : Nat) : loS l a a = (spotAt l a).v := by unfold loS; rw [segV_self]; rfl
theorem hiS_self (l : List Spot) (a : Nat) : hiS l a a = (spotAt l a).v := by unfold hiS; rw [segV_self]; rfl
theorem loS_succ {l : List Spot} {a k : Nat} (h : a ≤ k) (hk : k + 1 < l.length) : loS l a (k + 1) = least (loS l a k) (spotAt l (k + 1)).v := by
  unfold loS; rw [segV_succ h hk, List.foldl_append]; rfl
theorem hiS_succ {l : List Spot} {a k : Nat} (h : a ≤ k) (hk : k + 1 < l.length) : hiS l a (k + 1) = greatest (hiS l a k) (spotAt l (k + 1)).v := by
  unfold hiS; rw [segV_succ h hk, List.foldl_append]; rfl
theorem cut_seg {l : List Spot} {a k : Nat} (h : a ≤ k) (hk : k < l.length) : (l.take (k + 1)).drop a = spotAt l a :: (l.take (k + 1)).drop (a + 1) := by
  rw [spot_at (Nat.lt_of_le_of_lt h hk), List.drop_eq_getElem_cons (by rw [List.length_take]; omega)]
  rw [List.getElem_take]
theorem loS_mem {l : List Spot} : ∀ {k a : Nat}, a ≤ k → k < l.length → ∃ i, a ≤ i ∧ i ≤ k ∧ loS l a k = (spotAt l i).v := by
  intro k
  induction k with
  | zero => intro a h hk; have : a = 0 := by omega
            subst this; exact ⟨0, Nat.le_refl _, Nat.le_refl _, loS_self l 0⟩
  | succ k ih =>
    intro a h hk
    by_cases e : a = k + 1
    · subst e; exact ⟨_, Nat.le_refl _, Nat.le_refl _, loS_self l _⟩
    · rw [loS_succ (by omega) hk]
      obtain ⟨i, h1, h2, h3⟩ := ih (a := a) (by omega) (by omega)
      unfold least
      split
      · exact ⟨k + 1, by omega, Nat.le_refl _, rfl⟩
      · exact ⟨i, h1, by omega, h3⟩
theorem hiS_mem {l : List Spot} : ∀ {k a : Nat}, a ≤ k → k < l.length → ∃ i, a ≤ i ∧ i ≤ k ∧ hiS l a k = (spotAt l i).v := by
  intro k
  induction k with
  | zero => intro a h hk; have : a = 0 := by omega
            subst this; exact ⟨0, Nat.le_refl _, Nat.le_refl _, hiS_self l 0⟩
  | succ k ih =>
    intro a h hk
    by_cases e : a = k + 1
    · subst e; exact ⟨_, Nat.le_refl _, Nat.le_refl _, hiS_self l _⟩
    · rw [hiS_succ (by omega) hk]
      obtain ⟨i, h1, h2, h3⟩ := ih (a := a) (by omega) (by omega)
      unfold greatest
      split
      · exact ⟨k + 1, by omega, Nat.le_refl _, rfl⟩
      · exact ⟨i, h1, by omega, h3⟩
/-- the steps from the k-th point on, the running one from a -/
def stepsAt (l : List Spot) (d : Frac) (a k : Nat) : List Seg := stepsBy d ((l.drop k).zipIdx k) (some ⟨a, k - 1, loS l a (k - 1), hiS l a (k - 1)⟩)
theorem steps_at {l : List Spot} {d : Frac} (h : 0 < l.length) : steps l d = stepsAt l d 0 1 := by
  unfold steps stepsAt
  cases l with
  | nil => cases h
  | cons p r =>
    show stepsBy d ((p :: r).zipIdx 0) none = _
    rw [List.zipIdx_cons]
    show stepsBy d (r.zipIdx 1) (some ⟨0, 0, p.v, p.v⟩) = stepsBy d (r.zipIdx 1) (some ⟨0, 0, loS (p :: r) 0 0, hiS (p :: r) 0 0⟩)
    rw [loS_self, hiS_self]; rfl
theorem stepsAt_end {l : List Spot} {d : Frac} {a : Nat} : stepsAt l d a l.length = [⟨a, l.length - 1, loS l a (l.length - 1), hiS l a (l.length - 1)⟩] := by
  unfold stepsAt
  rw [List.drop_length]; rfl
theorem stepsAt_step {l : List Spot} {d : Frac} {a k : Nat} (ha : a < k) (hk : k < l.length) : stepsAt l d a k =
    if less (plus d d) (minus (hiS l a k) (loS l a k)) = true then ⟨a, k - 1, loS l a (k - 1), hiS l a (k - 1)⟩ :: stepsAt l d k (k + 1) else stepsAt l d a (k + 1) := by
  have e : (l.drop k).zipIdx k = (spotAt l k, k) :: (l.drop (k + 1)).zipIdx (k + 1) := by
    rw [List.drop_eq_getElem_cons hk, List.zipIdx_cons, spot_at hk]
  have h1 := loS_succ (l := l) (a := a) (k := k - 1) (by omega) (by omega)
  have h2 := hiS_succ (l := l) (a := a) (k := k - 1) (by omega) (by omega)
  rw [show k - 1 + 1 = k by omega] at h1 h2
  unfold stepsAt
  rw [e]
  show (if less (plus d d) (minus (greatest (hiS l a (k - 1)) (spotAt l k).v) (least (loS l a (k - 1)) (spotAt l k).v)) = true then
      _ :: stepsBy d ((l.drop (k + 1)).zipIdx (k + 1)) (some ⟨k, k, (spotAt l k).v, (spotAt l k).v⟩) else stepsBy d ((l.drop (k + 1)).zipIdx (k + 1)) (some ⟨a, k, least (loS l a (k - 1)) (spotAt l k).v, greatest (hiS l a (k - 1)) (spotAt l k).v⟩)) = _
  rw [← h1, ← h2, Nat.add_sub_cancel, loS_self, hiS_self]
/-- what a step is known to be -/
structure SegOk (l : List Spot) (d : Frac) (s : Seg) : Prop where
  le : s.a ≤ s.b
  lt : s.b < l.length
  lo : s.lo = loS l s.a s.b
  hi : s.hi = hiS l s.a s.b
  fit : less (plus d d) (minus s.hi s.lo) = false
/-- two steps, one behind the other -/
structure SegNext (l : List Spot) (d : Frac) (s t : Seg) : Prop where
  a : t.a = s.b + 1
  far : less (plus d d) (minus (hiS l s.a (s.b + 1)) (loS l s.a (s.b + 1))) = true
inductive Segs (l : List Spot) (d : Frac) : List Seg → Prop
  | one {s : Seg} : SegOk l d s → Segs l d [s]
  | cons {s t : Seg} {r : List Seg} : SegOk l d s → SegNext l d s t → Segs l d (t :: r) → Segs l d (s :: t :: r)
theorem stepsAt_ok {l : List Spot} {d : Frac} : ∀ (m k a : Nat), m + k = l.length → a < k → less (plus d d) (minus (hiS l a (k - 1)) (loS l a (k - 1))) = false → (∀ i, i < l.length → less (plus d d) (minus (hiS l i i) (loS l i i)) = false) →
    Segs l d (stepsAt l d a k) ∧ (stepsAt l d a k).head?.map (·.a) = some a
  | 0, k, a, h, ha, hf, h0 => by
    have e : k = l.length := by omega
    subst e
    rw [stepsAt_end]
    exact ⟨.one ⟨by show a ≤ l.length - 1; omega, by show l.length - 1 < l.length; omega, rfl, rfl, hf⟩, rfl⟩
  | m + 1, k, a, h, ha, hf, h0 => by
    rw [stepsAt_step ha (by omega)]
    by_cases c : less (plus d d) (minus (hiS l a k) (loS l a k)) = true
    · rw [if_pos c]
      obtain ⟨s1, s2⟩ := stepsAt_ok (l := l) (d := d) m (k + 1) k (by omega) (Nat.lt_succ_self k) (by rw [Nat.add_sub_cancel]; exact h0 k (by omega)) h0
      refine ⟨?_, rfl⟩
      cases e : stepsAt l d k (k + 1) with
      | nil => rw [e] at s2; cases s2
      | cons t r =>
        rw [e] at s1 s2
        have s2 : t.a = k := Option.some.inj s2
        refine .cons ⟨by show a ≤ k - 1; omega, by show k - 1 < l.length; omega, rfl, rfl, hf⟩ ⟨by show t.a = k - 1 + 1; omega, ?_⟩ s1
        show less (plus d d) (minus (hiS l a (k - 1 + 1)) (loS l a (k - 1 + 1))) = true
        rw [show k - 1 + 1 = k by omega]; exact c
    · rw [if_neg c]
      exact stepsAt_ok (l := l) (d := d) m (k + 1) a (by omega) (by omega) (by rw [Nat.add_sub_cancel]; exact Bool.eq_false_iff.mpr c) h0
theorem val_nonneg {d : Frac} (hd : 0 < d.den) (h0 : 0 ≤ d.num) : 0 ≤ val d := by
  have h1 := denR hd
  unfold val
  have : ((0 : Int) : Rat) ≤ (d.num : Rat) := Rat.intCast_le_intCast.mpr h0
  have this : (0 : Rat) ≤ (d.num : Rat) := this
  generalize (d.num : Rat) = x at *
  generalize (d.den : Rat) = y at *
  apply Classical.byContradiction
  intro z
  have z : x / y < 0 := by grind
  rw [Rat.div_lt_iff h1] at z
  grind
theorem self_fit {l : List Spot} {d : Frac} (hd : 0 < d.den) (h0 : 0 ≤ d.num) (hp : ∀ i, i < l.length → 0 < (spotAt l i).v.den) (i : Nat) (hi : i < l.length) : less (plus d d) (minus (hiS l i i) (loS l i i)) = false := by
  rw [hiS_self, loS_self]
  have p := hp i hi
  refine Bool.eq_false_iff.mpr fun z => ?_
  rw [less_iff (pos_plus hd hd) (pos_minus p p), val_plus hd hd, val_minus p p] at z
  have := val_nonneg hd h0
  grind
theorem steps_ok {l : List Spot} {d : Frac} (h : 0 < l.length) (hd : 0 < d.den) (h0 : 0 ≤ d.num) (hp : ∀ i, i < l.length → 0 < (spotAt l i).v.den) : Segs l d (steps l d) := by
  rw [steps_at h]
  exact (stepsAt_ok (l.length - 1) 1 0 (by omega) Nat.one_pos (self_fit hd h0 hp 0 h) (self_fit hd h0 hp)).1
/-- the greater less the lesser of two is how far they are apart -/
theorem two_apart {x y d : Frac} (hd : 0 < d.den) (hx : 0 < x.den) (hy : 0 < y.den) : less d (minus (greatest x y) (least x y)) = less d (absOf (minus x y)) := by
  have pg : 0 < (greatest x y).den := by unfold greatest; split <;> assumption
  have pl : 0 < (least x y).den := by unfold least; split <;> assumption
  have pm := pos_minus hx hy
  refine less_val hd (pos_minus pg pl) hd (show 0 < (absOf (minus x y)).den from pm) ?_
  rw [val_minus pg pl, val_abs pm, val_minus hx hy]
  rcases val_least hx hy with ⟨h1, h2⟩ | ⟨h1, h2⟩ <;> rcases val_greatest hx hy with ⟨h3, h4⟩ | ⟨h3, h4⟩ <;> rw [h1, h3] <;> by_cases c : val x - val y < 0
  all_goals first
    | rw [if_pos c]
    | rw [if_neg c]
  all_goals first
    | (exfalso; grind)
    | (have e : val x = val y := by grind
       rw [e])
    | (apply Iff.of_eq; congr 1; grind)
/-- one of a step's points is too far from the next one's first -/
theorem some_far {l : List Spot} {d : Frac} {s t : Seg} (hd : 0 < d.den) (h0 : 0 ≤ d.num) (hp : ∀ i, i < l.length → 0 < (spotAt l i).v.den) (hs : SegOk l d s) (hn : SegNext l d s t) (ht : t.a < l.length) :
    ∃ k, s.a ≤ k ∧ k ≤ s.b ∧ less (plus d d) (absOf (minus (spotAt l k).v (spotAt l t.a).v)) = true := by
  obtain ⟨i, i1, i2, i3⟩ := loS_mem hs.le hs.lt
  obtain ⟨j, j1, j2, j3⟩ := hiS_mem hs.le hs.lt
  have hb : s.b + 1 < l.length := by have := hn.a; omega
  have far := hn.far
  have fit := hs.fit
  rw [hs.lo, hs.hi] at fit
  rw [loS_succ hs.le hb, hiS_succ hs.le hb] at far
  rw [i3, j3] at far fit
  have ea := hn.a
  rw [← ea] at far
  have pi := hp i (by omega)
  have pj := hp j (by omega)
  have pt := hp t.a ht
  have pg : 0 < (greatest (spotAt l j).v (spotAt l t.a).v).den := by unfold greatest; split <;> assumption
  have pl : 0 < (least (spotAt l i).v (spotAt l t.a).v).den := by unfold least; split <;> assumption
  have p2 := pos_plus hd hd
  rw [less_iff p2 (pos_minus pg pl), val_plus hd hd, val_minus pg pl] at far
  have fit : ¬ val (plus d d) < val (minus (spotAt l j).v (spotAt l i).v) := fun z => by rw [(less_iff p2 (pos_minus pj pi)).mpr z] at fit; cases fit
  rw [val_plus hd hd, val_minus pj pi] at fit
  have d0 := val_nonneg hd h0
  have go : ∀ {k : Nat}, k < l.length → (val d + val d < val (spotAt l k).v - val (spotAt l t.a).v ∨ val d + val d < val (spotAt l t.a).v - val (spotAt l k).v) → less (plus d d) (absOf (minus (spotAt l k).v (spotAt l t.a).v)) = true := fun {k} hk h => by
    have pk := hp k hk
    have pm := pos_minus pk pt
    rw [less_iff p2 (show 0 < (absOf _).den from pm), val_abs pm, val_plus hd hd, val_minus pk pt]
    split <;> grind
  rcases val_least pi pt with ⟨h1, h2⟩ | ⟨h1, h2⟩ <;> rcases val_greatest pj pt with ⟨h3, h4⟩ | ⟨h3, h4⟩ <;> rw [h1, h3] at far
  · exact absurd far fit
  · exact ⟨i, i1, i2, go (by omega) (by grind)⟩
  · exact ⟨j, j1, j2, go (by omega) (by grind)⟩
  · exfalso; grind
end Fp

set_option linter.all false
namespace Fp
open VatmsBase
open Vatmse (Spot spotAt Seg stepsBy steps apartOf middle)
def prS (s : Seg) : Nat × Nat := (s.a, s.b)
theorem Segs.all {l : List Spot} {d : Frac} {ss : List Seg} (h : Segs l d ss) : ∀ s ∈ ss, SegOk l d s := by
  induction h with
  | one h => intro s hs; have := List.mem_singleton.mp hs; subst this; exact h
  | cons h1 h2 h3 ih =>
    intro s hs
    rcases List.mem_cons.mp hs with e | hs
    · subst e; exact h1
    · exact ih s hs
theorem Segs.next {l : List Spot} {d : Frac} {ss : List Seg} (h : Segs l d ss) : ∀ x ∈ ss.zip (ss.drop 1), SegOk l d x.1 ∧ SegOk l d x.2 ∧ SegNext l d x.1 x.2 := by
  induction h with
  | one h => intro x hx; simp at hx
  | cons h1 h2 h3 ih =>
    intro x hx
    simp only [List.drop_succ_cons, List.drop_zero, List.zip_cons_cons] at hx
    rcases List.mem_cons.mp hx with e | hx
    · subst e
      cases h3 with
      | one h => exact ⟨h1, h, h2⟩
      | cons h _ _ => exact ⟨h1, h, h2⟩
    · exact ih x hx
theorem Segs.len {l : List Spot} {d : Frac} {ss : List Seg} (h : Segs l d ss) : ∀ s ∈ ss.head?, ss.length + s.a ≤ l.length := by
  induction h with
  | one h => intro s hs; cases hs; have := h.le; have := h.lt; simp; omega
  | cons h1 h2 h3 ih =>
    intro s hs
    cases hs
    have := ih _ (by simp; rfl)
    have := h2.a
    have := h1.le
    simp only [List.length_cons] at *
    omega
/-- the first of a step's points that is too far from a value -/
theorem far_find {l : List Spot} {a b : Nat} (hab : a ≤ b) (hb : b < l.length) (p : Nat → Bool) : ((List.range' a (b + 1 - a)).filter p).head? = (List.range l.length).find? fun k => decide (a ≤ k ∧ k ≤ b) && p k := by
  have e : (List.range' a (b + 1 - a)) = (List.range l.length).filter fun k => decide (a ≤ k ∧ k ≤ b) := by
    have e1 : List.range l.length = List.range' 0 a ++ (List.range' a (b + 1 - a) ++ List.range' (b + 1) (l.length - (b + 1))) := by
      rw [List.range_eq_range']
      have h1 : List.range' a (b + 1 - a) ++ List.range' (b + 1) (l.length - (b + 1)) = List.range' a (l.length - a) := by
        have := @List.range'_append a (b + 1 - a) (l.length - (b + 1)) 1
        rw [show a + 1 * (b + 1 - a) = b + 1 by omega] at this
        rw [this]; congr 1; omega
      have h2 : List.range' 0 a ++ List.range' a (l.length - a) = List.range' 0 l.length := by
        have := @List.range'_append 0 a (l.length - a) 1
        rw [show 0 + 1 * a = a by omega] at this
        rw [this]; congr 1; omega
      rw [h1, h2]
    rw [e1, List.filter_append, List.filter_append]
    have z1 : (List.range' 0 a).filter (fun k => decide (a ≤ k ∧ k ≤ b)) = [] := by
      rw [List.filter_eq_nil_iff]; intro k hk; have := List.mem_range'_1.mp hk; simp; omega
    have z2 : (List.range' a (b + 1 - a)).filter (fun k => decide (a ≤ k ∧ k ≤ b)) = List.range' a (b + 1 - a) := by
      rw [List.filter_eq_self]; intro k hk; have := List.mem_range'_1.mp hk; simp; omega
    have z3 : (List.range' (b + 1) (l.length - (b + 1))).filter (fun k => decide (a ≤ k ∧ k ≤ b)) = [] := by
      rw [List.filter_eq_nil_iff]; intro k hk; have := List.mem_range'_1.mp hk; simp; omega
    rw [z1, z2, z3, List.nil_append, List.append_nil]
  rw [e, List.filter_filter, List.head?_filter]
  congr 1
  funext k
  exact Bool.and_comm _ _
end Fp

set_option linter.all false
/-! Stores. -/
namespace Fp
open VatmsBase
open Vatmse (Spot Run Store runsBy storeOf endOf askBy askStore Totals runSum totalsBy totals)
theorem frac_one (n : Int) : frac n 1 = whole n := by
  rw [frac_eq Nat.one_pos, Nat.gcd_one_right]
  show Frac.mk _ _ = Frac.mk _ _
  rw [Int.natCast_one, Int.ediv_one]
/-- points, each so much later and so much more than the one before -/
inductive Chain (dt : Int) (dv : Frac) : Spot → List Spot → Spot → Prop
  | nil {s : Spot} : Chain dt dv s [] s
  | snoc {s p q : Spot} {l : List Spot} : Chain dt dv s l p → q.t - p.t = dt → minus q.v p.v = dv → Chain dt dv s (l ++ [q]) q
/-- a row behind a point, by its runs -/
inductive Unp : Spot → List Run → List Spot → Prop
  | nil {s : Spot} : Unp s [] []
  | cons {s e : Spot} {r : Run} {rs : List Run} {l1 l2 : List Spot} : Chain r.dt r.dv s l1 e → l1.length = r.n → 0 < r.n → Unp e rs l2 → Unp s (r :: rs) (l1 ++ l2)
theorem runs_some : ∀ (l : List Spot) (s p : Spot) (r : Run) (pre : List Spot), Chain r.dt r.dv s pre p → pre.length = r.n → 0 < r.n → Unp s (runsBy p (some r) l) (pre ++ l)
  | [], s, p, r, pre, c, h1, h2 => by
    show Unp s [r] (pre ++ [])
    exact .cons c h1 h2 .nil
  | q :: l, s, p, r, pre, c, h1, h2 => by
    show Unp s (if r.dt = q.t - p.t ∧ r.dv = minus q.v p.v then runsBy q (some { r with n := r.n + 1 }) l else r :: runsBy q (some ⟨q.t - p.t, minus q.v p.v, 1⟩) l) _
    by_cases e : r.dt = q.t - p.t ∧ r.dv = minus q.v p.v
    · rw [if_pos e]
      have := runs_some l s q { r with n := r.n + 1 } (pre ++ [q]) (.snoc c e.1.symm e.2.symm) (by rw [List.length_append, h1]; rfl) (Nat.succ_pos _)
      rw [List.append_assoc] at this
      exact this
    · rw [if_neg e]
      exact .cons c h1 h2 (runs_some l p q ⟨q.t - p.t, minus q.v p.v, 1⟩ [q] (.snoc (l := []) .nil rfl rfl) rfl Nat.one_pos)
theorem runs_none (p : Spot) (l : List Spot) : Unp p (runsBy p none l) l := by
  cases l with
  | nil => exact .nil
  | cons q l => exact runs_some l p q ⟨q.t - p.t, minus q.v p.v, 1⟩ [q] (.snoc (l := []) .nil rfl rfl) rfl Nat.one_pos
theorem Chain.mem {dt : Int} {dv : Frac} {s e : Spot} {l : List Spot} (c : Chain dt dv s l e) : e ∈ s :: l := by
  cases c with
  | nil => exact List.mem_cons_self
  | snoc _ _ _ => simp
theorem Chain.t {dt : Int} {dv : Frac} {s e : Spot} {l : List Spot} (c : Chain dt dv s l e) : e.t = s.t + dt * (l.length : Int) := by
  induction c with
  | nil => simp
  | snoc c h1 h2 ih =>
    rw [List.length_append]
    show _ = _ + _ * (((_ + 1 : Nat) : Nat) : Int)
    rw [Int.natCast_add, Int.mul_add]
    simp
    omega
theorem Chain.v {dt : Int} {dv : Frac} {s e : Spot} {l : List Spot} (c : Chain dt dv s l e) (hp : ∀ p ∈ s :: l, 0 < p.v.den) : val e.v = val s.v + val dv * (l.length : Rat) := by
  induction c with
  | nil =>
    show _ = _ + _ * ((0 : Nat) : Rat)
    rw [show ((0 : Nat) : Rat) = 0 from rfl]
    grind
  | @snoc p q l c h1 h2 ih =>
    have ih := ih fun x hx => hp x (by
      rcases List.mem_cons.mp hx with e | h
      · subst e; exact List.mem_cons_self
      · exact List.mem_cons_of_mem _ (List.mem_append_left _ h))
    have pq := hp q (List.mem_cons_of_mem _ (List.mem_append_right _ List.mem_cons_self))
    have pp : 0 < p.v.den := hp p (by
      rcases List.mem_cons.mp c.mem with e | h
      · rw [e]; exact List.mem_cons_self
      · exact List.mem_cons_of_mem _ (List.mem_append_left _ h))
    have e := congrArg val h2
    rw [val_minus pq pp] at e
    rw [List.length_append]
    show _ = _ + _ * ((l.length + 1 : Nat) : Rat)
    rw [Rat.natCast_add, show ((1 : Nat) : Rat) = 1 from rfl]
    grind
theorem Chain.dvp {dt : Int} {dv : Frac} {s e : Spot} {l : List Spot} (c : Chain dt dv s l e) (hp : ∀ p ∈ s :: l, 0 < p.v.den) (hl : 0 < l.length) : 0 < dv.den := by
  cases c with
  | nil => cases hl
  | @snoc p q l c h1 h2 =>
    have pq := hp e (List.mem_cons_of_mem _ (List.mem_append_right _ List.mem_cons_self))
    have pp : 0 < p.v.den := hp p (by
      rcases List.mem_cons.mp c.mem with e | h
      · rw [e]; exact List.mem_cons_self
      · exact List.mem_cons_of_mem _ (List.mem_append_left _ h))
    rw [← h2]
    exact pos_minus pq pp
/-- where a run ends: at a point of the row -/
theorem chain_end {r : Run} {s e : Spot} {l : List Spot} (c : Chain r.dt r.dv s l e) (hl : l.length = r.n) (h0 : 0 < r.n) (hn : ∀ p ∈ s :: l, Norm p.v) : endOf s r = e := by
  have hp : ∀ p ∈ s :: l, 0 < p.v.den := fun p h => (hn p h).pos
  have dp := c.dvp hp (by omega)
  have t := c.t
  have v := c.v hp
  rw [hl] at t v
  have ne := hn e c.mem
  have ps := hp s List.mem_cons_self
  have pw : 0 < (times r.dv (whole (r.n : Int))).den := pos_times dp Nat.one_pos
  unfold endOf
  rw [← t]
  congr 1
  refine val_inj (norm_plus ps pw) ne ?_
  rw [val_plus ps pw, val_times dp Nat.one_pos, val_whole, v, Rat.intCast_natCast]
/-- what is asked of a store's runs -/
inductive RunsOk : Spot → List Run → Prop
  | nil {s : Spot} : s.t.natAbs < 2 ^ 38 → Bd 90 s.v → RunsOk s []
  | cons {s : Spot} {r : Run} {rs : List Run} : s.t.natAbs < 2 ^ 38 → Bd 90 s.v → 0 < r.dt → r.dt.natAbs < 2 ^ 40 → Bd 181 r.dv → r.n ≤ 60 → RunsOk (endOf s r) rs → RunsOk s (r :: rs)
theorem Chain.pq {dt : Int} {dv : Frac} {s e : Spot} {l : List Spot} (c : Chain dt dv s l e) (hl : 0 < l.length) : ∃ p q, p ∈ s :: l ∧ q ∈ s :: l ∧ q.t - p.t = dt ∧ minus q.v p.v = dv ∧ ((s :: l).Pairwise (fun p q => p.t < q.t) → p.t < q.t) := by
  cases c with
  | nil => cases hl
  | @snoc p q l c h1 h2 =>
    refine ⟨p, e, ?_, by simp, h1, h2, fun h5 => ?_⟩
    · rcases List.mem_cons.mp c.mem with z | h
      · rw [z]; exact List.mem_cons_self
      · exact List.mem_cons_of_mem _ (List.mem_append_left _ h)
    · rw [← List.cons_append, List.pairwise_append] at h5
      exact h5.2.2 p c.mem e (List.mem_singleton.mpr rfl)
theorem unp_ok {s : Spot} {rs : List Run} {l : List Spot} (u : Unp s rs l) (ht : ∀ p ∈ s :: l, p.t.natAbs < 2 ^ 38) (hb : ∀ p ∈ s :: l, Bd 90 p.v) (hn : ∀ p ∈ s :: l, Norm p.v) (hu : (s :: l).Pairwise (fun p q => p.t < q.t)) (hl : l.length ≤ 60) : RunsOk s rs := by
  induction u with
  | nil => exact .nil (ht _ List.mem_cons_self) (hb _ List.mem_cons_self)
  | @cons s e r rs l1 l2 c h1 h2 u ih =>
    have sub1 : ∀ p ∈ s :: l1, p ∈ s :: (l1 ++ l2) := fun p hp => by
      rcases List.mem_cons.mp hp with z | h
      · rw [z]; exact List.mem_cons_self
      · exact List.mem_cons_of_mem _ (List.mem_append_left _ h)
    have hu1 : (s :: l1).Pairwise (fun p q => p.t < q.t) := by
      rw [← List.cons_append, List.pairwise_append] at hu; exact hu.1
    have sub2 : ∀ p ∈ e :: l2, p ∈ s :: (l1 ++ l2) := fun p hp => by
      rcases List.mem_cons.mp hp with z | h
      · rw [z]; exact sub1 e c.mem
      · exact List.mem_cons_of_mem _ (List.mem_append_right _ h)
    obtain ⟨p, q, p1, q1, e1, e2, lt⟩ := c.pq (by omega)
    have lt := lt hu1
    have tp := ht p (sub1 p p1)
    have tq := ht q (sub1 q q1)
    rw [List.length_append] at hl
    refine .cons (ht s List.mem_cons_self) (hb s List.mem_cons_self) (by omega) (by omega) ?_ (by omega) ?_
    · rw [← e2]; exact minus_bd (hb q (sub1 q q1)) (hb p (sub1 p p1))
    · rw [chain_end c h1 h2 fun p hp => hn p (sub1 p hp)]
      refine ih (fun p hp => ht p (sub2 p hp)) (fun p hp => hb p (sub2 p hp)) (fun p hp => hn p (sub2 p hp)) ?_ (by omega)
      rw [← List.cons_append, List.pairwise_append] at hu
      rw [List.pairwise_cons]
      exact ⟨fun x hx => hu.2.2 e c.mem x hx, hu.2.1⟩
end Fp

set_option linter.all false
/-! Totals by a store. -/
namespace Fp
open VatmsBase
open Vatmse (Spot Run Store runsBy storeOf endOf askBy askStore Totals runSum totalsBy totals)
theorem tri (n : Nat) : 2 * (n * (n + 1) / 2) = n * (n + 1) := by
  have : n * (n + 1) % 2 = 0 := by
    rcases Nat.mod_two_eq_zero_or_one n with h | h
    · rw [Nat.mul_mod, h, Nat.zero_mul]
    · rw [Nat.mul_mod, show (n + 1) % 2 = 0 by omega, Nat.mul_zero]
  omega
theorem triR (n : Nat) : ((n * (n + 1) / 2 : Nat) : Rat) = (n : Rat) * ((n : Rat) + 1) / 2 := by
  have h := congrArg (fun m : Nat => (m : Rat)) (tri n)
  simp only [Rat.natCast_mul, Rat.natCast_add] at h
  rw [show ((2 : Nat) : Rat) = 2 from rfl, show ((1 : Nat) : Rat) = 1 from rfl] at h
  grind
theorem sub_chain {s : Spot} {l m : List Spot} {P : Spot → Prop} (h : ∀ p ∈ s :: (l ++ m), P p) : ∀ p ∈ s :: l, P p := fun p hp => h p (by
  rcases List.mem_cons.mp hp with z | h
  · rw [z]; exact List.mem_cons_self
  · exact List.mem_cons_of_mem _ (List.mem_append_left _ h))
theorem fold_pos : ∀ (l : List Frac) (A : Frac), 0 < A.den → (∀ x ∈ l, 0 < x.den) → 0 < (l.foldl plus A).den
  | [], _, h, _ => h
  | x :: r, A, h, hl => fold_pos r _ (pos_plus h (hl x List.mem_cons_self)) fun y hy => hl y (List.mem_cons_of_mem x hy)
theorem fold_norm : ∀ (l : List Frac) (A : Frac), Norm A → (∀ x ∈ l, 0 < x.den) → Norm (l.foldl plus A)
  | [], _, h, _ => h
  | x :: r, A, h, hl => fold_norm r _ (norm_plus h.pos (hl x List.mem_cons_self)) fun y hy => hl y (List.mem_cons_of_mem x hy)
theorem chain_sum {dt : Int} {dv : Frac} {s e : Spot} {l : List Spot} (c : Chain dt dv s l e) (hp : ∀ p ∈ s :: l, 0 < p.v.den) (A : Frac) (hA : 0 < A.den) :
    val ((l.map (·.v)).foldl plus A) = val A + val s.v * (l.length : Rat) + val dv * ((l.length : Rat) * ((l.length : Rat) + 1) / 2) := by
  induction c with
  | nil =>
    show val A = val A + _ * ((0 : Nat) : Rat) + _ * (((0 : Nat) : Rat) * (((0 : Nat) : Rat) + 1) / 2)
    rw [show ((0 : Nat) : Rat) = 0 from rfl]
    grind
  | @snoc p q l c h1 h2 ih =>
    have hp1 := sub_chain hp
    have ih := ih hp1
    have pq := hp q (by simp)
    have cq := (Chain.snoc c h1 h2).v hp
    have pf : 0 < ((l.map (·.v)).foldl plus A).den := fold_pos _ A hA fun x hx => by
      obtain ⟨y, hy, rfl⟩ := List.mem_map.mp hx
      exact hp1 y (List.mem_cons_of_mem _ hy)
    rw [List.map_append, List.foldl_append]
    show val (plus _ q.v) = _
    rw [val_plus pf pq, ih, cq, List.length_append, List.length_singleton, Rat.natCast_add, show ((1 : Nat) : Rat) = 1 from rfl]
    generalize (l.length : Rat) = n
    grind
theorem chain_mid {dt : Int} {dv : Frac} {s e : Spot} {l : List Spot} (c : Chain dt dv s l e) (hp : ∀ p ∈ s :: l, 0 < p.v.den) : ∀ q ∈ l, (0 ≤ val dv → val s.v ≤ val q.v ∧ val q.v ≤ val e.v) ∧ (val dv ≤ 0 → val e.v ≤ val q.v ∧ val q.v ≤ val s.v) := by
  induction c with
  | nil => intro q hq; cases hq
  | @snoc p q l c h1 h2 ih =>
    have hp1 := sub_chain hp
    have ih := ih hp1
    have pq := hp q (by simp)
    have pp := hp1 p c.mem
    have e := congrArg val h2
    rw [val_minus pq pp] at e
    have hps : (0 ≤ val dv → val s.v ≤ val p.v) ∧ (val dv ≤ 0 → val p.v ≤ val s.v) := by
      rcases List.mem_cons.mp c.mem with z | h
      · rw [z]; grind
      · have := ih p h; grind
    intro x hx
    rcases List.mem_append.mp hx with hx | hx
    · have := ih x hx; grind
    · have := List.mem_singleton.mp hx
      subst this; grind
theorem fold_least_spec : ∀ (l : List Frac) (a : Frac), 0 < a.den → (∀ x ∈ l, 0 < x.den) → val (l.foldl least a) ≤ val a ∧ (∀ x ∈ l, val (l.foldl least a) ≤ val x) ∧ (l.foldl least a = a ∨ l.foldl least a ∈ l)
  | [], a, h, _ => ⟨Rat.le_refl, fun _ h => absurd h List.not_mem_nil, Or.inl rfl⟩
  | x :: r, a, h, hl => by
    have hx := hl x List.mem_cons_self
    have pl : 0 < (least a x).den := by unfold least; split <;> assumption
    obtain ⟨h1, h2, h3⟩ := fold_least_spec r (least a x) pl fun y hy => hl y (List.mem_cons_of_mem x hy)
    rw [List.foldl_cons]
    have vl := val_least h hx
    refine ⟨by grind, fun y hy => ?_, ?_⟩
    · rcases List.mem_cons.mp hy with e | hy
      · subst e; grind
      · exact h2 y hy
    · rcases h3 with h3 | h3
      · rw [h3]; unfold least; split
        · exact .inr List.mem_cons_self
        · exact .inl rfl
      · exact .inr (List.mem_cons_of_mem x h3)
theorem fold_greatest_spec : ∀ (l : List Frac) (a : Frac), 0 < a.den → (∀ x ∈ l, 0 < x.den) → val a ≤ val (l.foldl greatest a) ∧ (∀ x ∈ l, val x ≤ val (l.foldl greatest a)) ∧ (l.foldl greatest a = a ∨ l.foldl greatest a ∈ l)
  | [], a, h, _ => ⟨Rat.le_refl, fun _ h => absurd h List.not_mem_nil, Or.inl rfl⟩
  | x :: r, a, h, hl => by
    have hx := hl x List.mem_cons_self
    have pl : 0 < (greatest a x).den := by unfold greatest; split <;> assumption
    obtain ⟨h1, h2, h3⟩ := fold_greatest_spec r (greatest a x) pl fun y hy => hl y (List.mem_cons_of_mem x hy)
    rw [List.foldl_cons]
    have vl := val_greatest h hx
    refine ⟨by grind, fun y hy => ?_, ?_⟩
    · rcases List.mem_cons.mp hy with e | hy
      · subst e; grind
      · exact h2 y hy
    · rcases h3 with h3 | h3
      · rw [h3]; unfold greatest; split
        · exact .inr List.mem_cons_self
        · exact .inl rfl
      · exact .inr (List.mem_cons_of_mem x h3)
/-- the least over a chain: at one of its ends -/
theorem chain_least {dt : Int} {dv : Frac} {s e : Spot} {l : List Spot} (c : Chain dt dv s l e) (hn : ∀ p ∈ s :: l, Norm p.v) (hl : 0 < l.length) {A : Frac} (hA : Norm A) (hs : val A ≤ val s.v) : (l.map (·.v)).foldl least A = least A e.v := by
  have hp : ∀ p ∈ s :: l, 0 < p.v.den := fun p h => (hn p h).pos
  have mid := chain_mid c hp
  have pos : ∀ x ∈ l.map (·.v), 0 < x.den := fun x hx => by
    obtain ⟨y, hy, rfl⟩ := List.mem_map.mp hx
    exact hp y (List.mem_cons_of_mem _ hy)
  obtain ⟨h1, h2, h3⟩ := fold_least_spec (l.map (·.v)) A hA.pos pos
  have he : e ∈ l := by
    cases c with
    | nil => cases hl
    | snoc _ _ _ => simp
  have ne := hn e (List.mem_cons_of_mem _ he)
  have he2 := h2 e.v (List.mem_map.mpr ⟨e, he, rfl⟩)
  have vl := val_least hA.pos ne.pos
  have nl : Norm (least A e.v) := by unfold least; split <;> assumption
  have nm : Norm ((l.map (·.v)).foldl least A) := by
    rcases h3 with h3 | h3
    · rw [h3]; exact hA
    · obtain ⟨y, hy, ey⟩ := List.mem_map.mp h3
      rw [← ey]; exact hn y (List.mem_cons_of_mem _ hy)
  refine val_inj nm nl ?_
  rcases h3 with h3 | h3
  · rw [h3] at h1 he2 ⊢; grind
  · obtain ⟨y, hy, ey⟩ := List.mem_map.mp h3
    have m := mid y hy
    have ey : y.v = (l.map (·.v)).foldl least A := ey
    rw [← ey] at h1 he2 ⊢
    rcases (show 0 ≤ val dv ∨ val dv ≤ 0 by grind) with z | z <;> grind
theorem chain_greatest {dt : Int} {dv : Frac} {s e : Spot} {l : List Spot} (c : Chain dt dv s l e) (hn : ∀ p ∈ s :: l, Norm p.v) (hl : 0 < l.length) {A : Frac} (hA : Norm A) (hs : val s.v ≤ val A) : (l.map (·.v)).foldl greatest A = greatest A e.v := by
  have hp : ∀ p ∈ s :: l, 0 < p.v.den := fun p h => (hn p h).pos
  have mid := chain_mid c hp
  have pos : ∀ x ∈ l.map (·.v), 0 < x.den := fun x hx => by
    obtain ⟨y, hy, rfl⟩ := List.mem_map.mp hx
    exact hp y (List.mem_cons_of_mem _ hy)
  obtain ⟨h1, h2, h3⟩ := fold_greatest_spec (l.map (·.v)) A hA.pos pos
  have he : e ∈ l := by
    cases c with
    | nil => cases hl
    | snoc _ _ _ => simp
  have ne := hn e (List.mem_cons_of_mem _ he)
  have he2 := h2 e.v (List.mem_map.mpr ⟨e, he, rfl⟩)
  have vl := val_greatest hA.pos ne.pos
  have nl : Norm (greatest A e.v) := by unfold greatest; split <;> assumption
  have nm : Norm ((l.map (·.v)).foldl greatest A) := by
    rcases h3 with h3 | h3
    · rw [h3]; exact hA
    · obtain ⟨y, hy, ey⟩ := List.mem_map.mp h3
      rw [← ey]; exact hn y (List.mem_cons_of_mem _ hy)
  refine val_inj nm nl ?_
  rcases h3 with h3 | h3
  · rw [h3] at h1 he2 ⊢; grind
  · obtain ⟨y, hy, ey⟩ := List.mem_map.mp h3
    have m := mid y hy
    have ey : y.v = (l.map (·.v)).foldl greatest A := ey
    rw [← ey] at h1 he2 ⊢
    rcases (show 0 ≤ val dv ∨ val dv ≤ 0 by grind) with z | z <;> grind
theorem totals_by {s : Spot} {rs : List Run} {l : List Spot} (u : Unp s rs l) (hn : ∀ p ∈ s :: l, Norm p.v) : ∀ T : Totals, Norm T.sum → Norm T.lo → Norm T.hi → val T.lo ≤ val s.v → val s.v ≤ val T.hi →
    totalsBy T s rs = ⟨T.n + l.length, (l.map (·.v)).foldl plus T.sum, (l.map (·.v)).foldl least T.lo, (l.map (·.v)).foldl greatest T.hi⟩ := by
  induction u with
  | nil => intro T _ _ _ _ _; rfl
  | @cons s e r rs l1 l2 c h1 h2 u ih =>
    intro T t1 t2 t3 t4 t5
    have hn1 := sub_chain hn
    have hp1 : ∀ p ∈ s :: l1, 0 < p.v.den := fun p h => (hn1 p h).pos
    have ce := chain_end c h1 h2 hn1
    have hn2 : ∀ p ∈ e :: l2, Norm p.v := fun p hp => by
      rcases List.mem_cons.mp hp with z | h
      · rw [z]; exact hn1 e c.mem
      · exact hn p (List.mem_cons_of_mem _ (List.mem_append_right _ h))
    have he := hn1 e c.mem
    have dp := c.dvp hp1 (by omega)
    have ps := hp1 s List.mem_cons_self
    have pos1 : ∀ x ∈ l1.map (·.v), 0 < x.den := fun x hx => by
      obtain ⟨y, hy, rfl⟩ := List.mem_map.mp hx
      exact hp1 y (List.mem_cons_of_mem _ hy)
    have esum : plus T.sum (runSum s r) = (l1.map (·.v)).foldl plus T.sum := by
      have p1 : 0 < (times s.v (whole (r.n : Int))).den := pos_times ps Nat.one_pos
      have p2 : 0 < (times r.dv (whole ((r.n * (r.n + 1) / 2 : Nat) : Int))).den := pos_times dp Nat.one_pos
      refine val_inj (norm_plus t1.pos (pos_plus p1 p2)) (fold_norm _ _ t1 pos1) ?_
      unfold runSum
      rw [val_plus t1.pos (pos_plus p1 p2), val_plus p1 p2, val_times ps Nat.one_pos, val_times dp Nat.one_pos, val_whole, val_whole, chain_sum c hp1 _ t1.pos, Rat.intCast_natCast, Rat.intCast_natCast, triR, h1]
      grind
    have elo := chain_least c hn1 (by omega) t2 t4
    have ehi := chain_greatest c hn1 (by omega) t3 t5
    have vl := val_least t2.pos he.pos
    have vg := val_greatest t3.pos he.pos
    show totalsBy ⟨T.n + r.n, plus T.sum (runSum s r), least T.lo (endOf s r).v, greatest T.hi (endOf s r).v⟩ (endOf s r) rs = _
    rw [ce, ih hn2 _ (by rw [esum]; exact fold_norm _ _ t1 pos1) (by show Norm (least _ _); unfold least; split <;> assumption) (by show Norm (greatest _ _); unfold greatest; split <;> assumption) (by show val (least _ _) ≤ _; grind) (by show _ ≤ val (greatest _ _); grind)]
    rw [List.map_append, List.foldl_append, List.foldl_append, List.foldl_append, esum, elo, ehi, List.length_append, h1, Nat.add_assoc]
theorem totals_eq {p : Spot} {l : List Spot} (hn : ∀ q ∈ p :: l, Norm q.v) : totals ⟨p, runsBy p none l⟩ = ⟨l.length + 1, ((p :: l).map (·.v)).foldl plus (whole 0), (l.map (·.v)).foldl least p.v, (l.map (·.v)).foldl greatest p.v⟩ := by
  have np := hn p List.mem_cons_self
  show totalsBy ⟨1, p.v, p.v, p.v⟩ p _ = _
  rw [totals_by (runs_none p l) hn _ np np np Rat.le_refl Rat.le_refl]
  have e : plus (whole 0) p.v = p.v := by
    refine val_inj (norm_plus Nat.one_pos np.pos) np ?_
    rw [val_plus Nat.one_pos np.pos, val_whole]
    rw [show ((0 : Int) : Rat) = 0 from rfl]
    grind
  rw [List.map_cons, List.foldl_cons, e, Nat.add_comm]
end Fp

set_option Elab.async false
set_option linter.all false
set_option maxRecDepth 100000
set_option maxHeartbeats 2000000
namespace Fp
open PySem PySem.Spec PyProof.Rows L2 Dl
open VatmsBase (Frac frac whole)
theorem pass {X : Cx} {E : XK} : Passes CX0 X E := fun _ _ _ _ _ _ _ h => h.elim
/-- a fraction as data -/
abbrev Fd (f : Frac) : D := .tup [.int f.num, .int (f.den : Nat)]
section
variable {P : Program} {w : World} {K : PySem.W.Frag} {mg : Str → Option Value} {base : Heap}
/-! ### fraction -/
abbrev s_fraction : Stmt := top 4
abbrev n_fraction : List Str := ["numerator", "denominator", "shared"]
theorem sc_fraction : FnScope n_fraction ["numerator", "denominator"] (defScope s_fraction) := ⟨rfl, rfl, rfl, by decide +kernel, rfl, by decide +kernel, by decide +kernel⟩
def p_fraction : List D → D → Prop := fun ds d => ∃ (n : Int) (m : Nat), ds = [.int n, .int m] ∧ 0 < m ∧ m < 2 ^ 9000 ∧ d = Fd (frac n m)
theorem abs_eq (i : Int) : (if i < 0 then -i else i) = (i.natAbs : Int) := by split <;> omega
theorem f_fraction (F : Fa K mg "fraction" s_fraction) (hcommon : Fv P w K mg base CX0 1 "common" ["one", "other"] (PureP pCommon)) (nabs : mg "abs" = none) : Fv P w K mg base CX0 2 "fraction" ["numerator", "denominator"] (PureP p_fraction) := by
  refine fa_fv F (fun _ _ _ _ _ _ us hl => match us, hl with | [_, _], _ => rfl) fun f fd F => fn0 F sc_fraction (fun Γ r ⟨ds, d, e, _, n, m, e2, _⟩ => by subst e; subst e2; rfl) ?_
  have nd := sc_fraction.nd
  rintro cdv A outer s H E _ _ hr ⟨_, _, rfl, rfl, n, m, rfl, h0, h9, rfl⟩
  have g0 : 0 < Nat.gcd n.natAbs m := Nat.gcd_pos_of_pos_right _ h0
  have g9 : Nat.gcd n.natAbs m < 2 ^ 9000 := Nat.lt_of_le_of_lt (Nat.le_of_dvd h0 (Nat.gcd_dvd_right _ _)) h9
  have dv : ∀ i : Int, CDivW i (Nat.gcd n.natAbs m : Nat) := fun i => wide_div (by omega) (b := 9000) (by rw [Int.natAbs_natCast]; exact g9) (by decide) (by decide)
  refine ss_cons (ss 2 nd (w_callP hcommon (hr.mono (by decide)) rfl pass (d_cons (w_callB rfl nabs boot_abs (d_cons (wv 0 rfl (d_nil ⟨_, c_abs, (d_cons (w_callB rfl nabs boot_abs (d_cons (wv 1 rfl (d_nil ⟨_, c_abs, (d_nil ⟨_, ⟨n.natAbs, m, by rw [abs_eq, abs_eq, Int.natAbs_natCast], rfl⟩, ?_⟩)⟩)))))⟩)))))))
  refine ss_cons (s_if (t_cmp (wv 1 rfl (w_int ⟨_, o_lt, ⟨fun hT => absurd (of_decide_eq_true hT) (by omega), fun hF => ss_nil ?_⟩⟩))))
  refine ss_one (s_ret (w_tup (d_cons (w_bin (wv 0 rfl (wv 2 rfl ⟨_, (o_divI (dv _)), (d_cons (w_bin (wv 1 rfl (wv 2 rfl ⟨_, (o_divI (dv _)), (d_nil ⟨len_le, ?_⟩)⟩))))⟩))))))
  rw [frac_eq h0]
  exact fin_pure
/-! ### plus, less, times, is_below, far -/
abbrev s_plus : Stmt := top 5
abbrev nOO : List Str := ["one", "other"]
theorem sc_plus : FnScope nOO ["one", "other"] (defScope s_plus) := ⟨rfl, rfl, rfl, by decide +kernel, rfl, by decide +kernel, by decide +kernel⟩
/-- two fractions of together less than 9000 bits -/
def p2 (g : Frac → Frac → D) : List D → D → Prop := fun ds d => ∃ (a b : Frac) (m n : Nat), ds = [Fd a, Fd b] ∧ Bd m a ∧ Bd n b ∧ m + n ≤ 9000 ∧ 0 < m ∧ 0 < n ∧ d = g a b
def pF (g : Frac → Frac → Frac) : List D → D → Prop := p2 fun a b => Fd (g a b)
abbrev FvFraction (P : Program) (w : World) (K : PySem.W.Frag) (mg : Str → Option Value) (base : Heap) : Prop := Fv P w K mg base CX0 2 "fraction" ["numerator", "denominator"] (PureP p_fraction)
theorem mulW {i j : Int} {a b : Nat} (ha : i.natAbs < 2 ^ a) (hb : j.natAbs < 2 ^ b) (h0 : 0 < a) (h1 : 0 < b) (h : a + b ≤ 9000) : CMulW i j := wide_mul ha hb h0 h1 (by omega)
theorem f_plus (F : Fa K mg "plus" s_plus) (hfraction : FvFraction P w K mg base) : Fv P w K mg base CX0 3 "plus" ["one", "other"] (PureP (pF VatmsBase.plus)) := by
  refine fa_fv F (fun _ _ _ _ _ _ us hl => match us, hl with | [_, _], _ => rfl) fun f fd F => fn0 F sc_plus (fun Γ r ⟨ds, d, e, _, a, b, m, n, e2, _⟩ => by subst e; subst e2; rfl) ?_
  rintro cdv A outer s H E _ _ hr ⟨_, _, rfl, rfl, a, b, m, n, rfl, ha, hb, h9, m0, n0, rfl⟩
  refine ss_one (s_ret (w_callP hfraction (hr.mono (by decide)) rfl pass (d_cons (w_bin (w_bin (w_ix (wv 0 rfl (w_int ⟨_, (ix2_tup rfl), (w_ix (wv 1 rfl (w_int ⟨_, (ix2_tup rfl), ⟨_, (o_mulI (mulW ha.num (cast_lt hb.den) m0 n0 h9)), (w_bin (w_ix (wv 1 rfl (w_int ⟨_, (ix2_tup rfl), (w_ix (wv 0 rfl (w_int ⟨_, (ix2_tup rfl), ⟨_, (o_mulI (mulW hb.num (cast_lt ha.den) n0 m0 (by omega))), ⟨_, o_addI, (d_cons (w_bin (w_ix (wv 0 rfl (w_int ⟨_, (ix2_tup rfl), (w_ix (wv 1 rfl (w_int ⟨_, (ix2_tup rfl), ⟨_, (o_mulI (mulW (cast_lt ha.den) (cast_lt hb.den) m0 n0 h9)), (d_nil ⟨_, ⟨_, a.den * b.den, rfl, Nat.mul_pos ha.pos hb.pos, Nat.lt_of_lt_of_le (den_lt ha hb) (Nat.pow_le_pow_right (by decide) h9), rfl⟩, ?_⟩)⟩⟩)))⟩)))))⟩⟩⟩)))⟩))))⟩⟩)))⟩))))))))
  exact fin_pure
abbrev s_less : Stmt := top 6
theorem sc_less : FnScope nOO ["one", "other"] (defScope s_less) := ⟨rfl, rfl, rfl, by decide +kernel, rfl, by decide +kernel, by decide +kernel⟩
theorem f_less (F : Fa K mg "less" s_less) (hfraction : FvFraction P w K mg base) : Fv P w K mg base CX0 3 "less" ["one", "other"] (PureP (pF VatmsBase.minus)) := by
  refine fa_fv F (fun _ _ _ _ _ _ us hl => match us, hl with | [_, _], _ => rfl) fun f fd F => fn0 F sc_less (fun Γ r ⟨ds, d, e, _, a, b, m, n, e2, _⟩ => by subst e; subst e2; rfl) ?_
  rintro cdv A outer s H E _ _ hr ⟨_, _, rfl, rfl, a, b, m, n, rfl, ha, hb, h9, m0, n0, rfl⟩
  refine ss_one (s_ret (w_callP hfraction (hr.mono (by decide)) rfl pass (d_cons (w_bin (w_bin (w_ix (wv 0 rfl (w_int ⟨_, (ix2_tup rfl), (w_ix (wv 1 rfl (w_int ⟨_, (ix2_tup rfl), ⟨_, (o_mulI (mulW ha.num (cast_lt hb.den) m0 n0 h9)), (w_bin (w_ix (wv 1 rfl (w_int ⟨_, (ix2_tup rfl), (w_ix (wv 0 rfl (w_int ⟨_, (ix2_tup rfl), ⟨_, (o_mulI (mulW hb.num (cast_lt ha.den) n0 m0 (by omega))), ⟨_, o_subI, (d_cons (w_bin (w_ix (wv 0 rfl (w_int ⟨_, (ix2_tup rfl), (w_ix (wv 1 rfl (w_int ⟨_, (ix2_tup rfl), ⟨_, (o_mulI (mulW (cast_lt ha.den) (cast_lt hb.den) m0 n0 h9)), (d_nil ⟨_, ⟨_, a.den * b.den, rfl, Nat.mul_pos ha.pos hb.pos, Nat.lt_of_lt_of_le (den_lt ha hb) (Nat.pow_le_pow_right (by decide) h9), rfl⟩, ?_⟩)⟩⟩)))⟩)))))⟩⟩⟩)))⟩))))⟩⟩)))⟩))))))))
  exact fin_eq (congrArg Fd (minus_eq a b).symm)
abbrev s_times : Stmt := top 7
theorem sc_times : FnScope nOO ["one", "other"] (defScope s_times) := ⟨rfl, rfl, rfl, by decide +kernel, rfl, by decide +kernel, by decide +kernel⟩
theorem f_times (F : Fa K mg "times" s_times) (hfraction : FvFraction P w K mg base) : Fv P w K mg base CX0 3 "times" ["one", "other"] (PureP (pF VatmsBase.times)) := by
  refine fa_fv F (fun _ _ _ _ _ _ us hl => match us, hl with | [_, _], _ => rfl) fun f fd F => fn0 F sc_times (fun Γ r ⟨ds, d, e, _, a, b, m, n, e2, _⟩ => by subst e; subst e2; rfl) ?_
  rintro cdv A outer s H E _ _ hr ⟨_, _, rfl, rfl, a, b, m, n, rfl, ha, hb, h9, m0, n0, rfl⟩
  refine ss_one (s_ret (w_callP hfraction (hr.mono (by decide)) rfl pass (d_cons (w_bin (w_ix (wv 0 rfl (w_int ⟨_, (ix2_tup rfl), (w_ix (wv 1 rfl (w_int ⟨_, (ix2_tup rfl), ⟨_, (o_mulI (mulW ha.num hb.num m0 n0 h9)), (d_cons (w_bin (w_ix (wv 0 rfl (w_int ⟨_, (ix2_tup rfl), (w_ix (wv 1 rfl (w_int ⟨_, (ix2_tup rfl), ⟨_, (o_mulI (mulW (cast_lt ha.den) (cast_lt hb.den) m0 n0 h9)), (d_nil ⟨_, ⟨_, a.den * b.den, rfl, Nat.mul_pos ha.pos hb.pos, Nat.lt_of_lt_of_le (den_lt ha hb) (Nat.pow_le_pow_right (by decide) h9), rfl⟩, ?_⟩)⟩⟩)))⟩)))))⟩⟩)))⟩)))))))
  exact fin_pure
abbrev s_is_below : Stmt := top 8
theorem sc_is_below : FnScope nOO ["one", "other"] (defScope s_is_below) := ⟨rfl, rfl, rfl, by decide +kernel, rfl, by decide +kernel, by decide +kernel⟩
theorem f_is_below (F : Fa K mg "is_below" s_is_below) : Fv P w K mg base CX0 1 "is_below" ["one", "other"] (PureP (p2 fun a b => .bl (VatmsBase.less a b))) := by
  refine fa_fv F (fun _ _ _ _ _ _ us hl => match us, hl with | [_, _], _ => rfl) fun f fd F => fn0 F sc_is_below (fun Γ r ⟨ds, d, e, _, a, b, m, n, e2, _⟩ => by subst e; subst e2; rfl) ?_
  rintro cdv A outer s H E _ _ hr ⟨_, _, rfl, rfl, a, b, m, n, rfl, ha, hb, h9, m0, n0, rfl⟩
  refine ss_one (s_ret (w_cmp (w_bin (w_ix (wv 0 rfl (w_int ⟨_, (ix2_tup rfl), (w_ix (wv 1 rfl (w_int ⟨_, (ix2_tup rfl), ⟨_, (o_mulI (mulW ha.num (cast_lt hb.den) m0 n0 h9)), (w_bin (w_ix (wv 1 rfl (w_int ⟨_, (ix2_tup rfl), (w_ix (wv 0 rfl (w_int ⟨_, (ix2_tup rfl), ⟨_, (o_mulI (mulW hb.num (cast_lt ha.den) n0 m0 (by omega))), ⟨_, o_lt, ?_⟩⟩⟩)))⟩))))⟩⟩)))⟩))))))
  exact fin_pure
abbrev s_far : Stmt := top 9
abbrev n_far : List Str := ["one", "other", "found"]
theorem sc_far : FnScope n_far ["one", "other"] (defScope s_far) := ⟨rfl, rfl, rfl, by decide +kernel, rfl, by decide +kernel, by decide +kernel⟩
theorem f_far (F : Fa K mg "far" s_far) (hless : Fv P w K mg base CX0 3 "less" ["one", "other"] (PureP (pF VatmsBase.minus))) (nabs : mg "abs" = none) : Fv P w K mg base CX0 4 "far" ["one", "other"] (PureP (pF fun a b => VatmsBase.absOf (VatmsBase.minus a b))) := by
  refine fa_fv F (fun _ _ _ _ _ _ us hl => match us, hl with | [_, _], _ => rfl) fun f fd F => fn0 F sc_far (fun Γ r ⟨ds, d, e, _, a, b, m, n, e2, _⟩ => by subst e; subst e2; rfl) ?_
  have nd := sc_far.nd
  rintro cdv A outer s H E _ _ hr ⟨_, _, rfl, rfl, a, b, m, n, rfl, ha, hb, h9, m0, n0, rfl⟩
  refine ss_cons (ss 2 nd (w_callP hless (hr.mono (by decide)) rfl pass (d_cons (wv 0 rfl (d_cons (wv 1 rfl (d_nil ⟨_, ⟨a, b, m, n, rfl, ha, hb, h9, m0, n0, rfl⟩, ?_⟩)))))))
  refine ss_one (s_ret (w_tup (d_cons (w_callB rfl nabs boot_abs (d_cons (w_ix (wv 2 rfl (w_int ⟨_, (ix2_tup rfl), (d_nil ⟨_, c_abs, (d_cons (w_ix (wv 2 rfl (w_int ⟨_, (ix2_tup rfl), (d_nil ⟨len_le, ?_⟩)⟩))))⟩)⟩))))))))
  exact fin_eq (by rw [abs_eq]; rfl)
end
end Fp

set_option Elab.async false
set_option linter.all false
set_option maxRecDepth 100000
set_option maxHeartbeats 2000000
namespace Fp
open PySem PySem.Spec PyProof.Rows L2 Dl
open VatmsBase (Frac frac whole)
section
variable {P : Program} {w : World} {K : PySem.W.Frag} {mg : Str → Option Value} {base : Heap}
abbrev FvPlus (P : Program) (w : World) (K : PySem.W.Frag) (mg : Str → Option Value) (base : Heap) : Prop := Fv P w K mg base CX0 3 "plus" ["one", "other"] (PureP (pF VatmsBase.plus))
abbrev FvLess (P : Program) (w : World) (K : PySem.W.Frag) (mg : Str → Option Value) (base : Heap) : Prop := Fv P w K mg base CX0 3 "less" ["one", "other"] (PureP (pF VatmsBase.minus))
abbrev FvTimes (P : Program) (w : World) (K : PySem.W.Frag) (mg : Str → Option Value) (base : Heap) : Prop := Fv P w K mg base CX0 3 "times" ["one", "other"] (PureP (pF VatmsBase.times))
abbrev FvBelow (P : Program) (w : World) (K : PySem.W.Frag) (mg : Str → Option Value) (base : Heap) : Prop := Fv P w K mg base CX0 1 "is_below" ["one", "other"] (PureP (p2 fun a b => .bl (VatmsBase.less a b)))
abbrev s_sum_of : Stmt := top 10
abbrev n_sum_of : List Str := ["some", "total", "one"]
theorem sc_sum_of : FnScope n_sum_of ["some"] (defScope s_sum_of) := ⟨rfl, rfl, rfl, by decide +kernel, rfl, by decide +kernel, by decide +kernel⟩
/-- at most 80 fractions below 2 ^ 90 -/
def p_sum_of : List D → D → Prop := fun ds d => ∃ l : List Frac, ds = [.lst (l.map Fd)] ∧ l.length ≤ 80 ∧ (∀ x ∈ l, Bd 90 x) ∧ d = Fd (l.foldl VatmsBase.plus (whole 0))
theorem f_sum_of (F : Fa K mg "sum_of" s_sum_of) (hplus : FvPlus P w K mg base) (gN : Glo K mg "NOUGHT" (Fd (whole 0))) : Fv P w K mg base CX0 4 "sum_of" ["some"] (PureP p_sum_of) := by
  refine fa_fv F (fun _ _ _ _ _ _ us hl => match us, hl with | [_], _ => rfl) fun f fd F => fn0 F sc_sum_of (fun Γ r ⟨ds, d, e, _, l, e2, _⟩ => by subst e; subst e2; rfl) ?_
  have nd := sc_sum_of.nd
  rintro cdv A outer s H E _ _ hr ⟨_, _, rfl, rfl, l, rfl, hl, hb, rfl⟩
  refine ss_cons (ss 1 nd (w_glob gN rfl ?_))
  refine ss_cons (s_for (js := [2]) .never rfl (i_list (wv 0 rfl ⟨_, rfl, ?_⟩)))
  refine for_ind Fd (fun (t : Frac × Sl) => [.im (.lst (l.map Fd)), .im (Fd t.1), t.2]) (fun t rest => rest.length ≤ 80 ∧ (∀ x ∈ rest, Bd 90 x) ∧ Bd (1 + 91 * (80 - rest.length)) t.1 ∧ rest.foldl VatmsBase.plus t.1 = l.foldl VatmsBase.plus (whole 0)) ?_ ?_ l (whole 0, .un) ⟨hl, hb, ?_, rfl⟩
  · rintro ⟨a, sl⟩ x rest ⟨h1, h2, h3, h4⟩ nx hn
    refine gn 2 nd ?_
    have hx := h2 x List.mem_cons_self
    simp only [List.length_cons] at h1 h3
    refine ss_one (ss 1 nd (w_callP hplus (hr.mono (by decide)) rfl pass (d_cons (wv 1 rfl (d_cons (wv 2 rfl (d_nil ⟨_, ⟨a, x, _, 90, rfl, h3, hx, by omega, by omega, by decide, rfl⟩, ?_⟩)))))))
    exact hn (VatmsBase.plus a x, .im (Fd x)) ⟨by omega, fun y hy => h2 y (List.mem_cons_of_mem x hy), (plus_bd h3 hx).mono (by show _ ≤ 1 + 91 * (80 - rest.length); omega), h4⟩
  · rintro ⟨a, sl⟩ ⟨_, _, _, h4⟩
    refine ss_one (s_ret (wv 1 rfl ?_))
    exact fin_eq (congrArg Fd h4)
  · exact (whole_bd (m := 1) (by decide) (by decide)).mono (by omega)
abbrev s_least_of : Stmt := top 11
abbrev n_best : List Str := ["some", "found", "one"]
theorem sc_least_of : FnScope n_best ["some"] (defScope s_least_of) := ⟨rfl, rfl, rfl, by decide +kernel, rfl, by decide +kernel, by decide +kernel⟩
def p_best (g : Frac → Frac → Frac) : List D → D → Prop := fun ds d => ∃ (a : Frac) (l : List Frac) (m : Nat), ds = [.lst ((a :: l).map Fd)] ∧ Bd m a ∧ (∀ x ∈ l, Bd m x) ∧ 0 < m ∧ m + m ≤ 9000 ∧ d = Fd (l.foldl g a)
theorem cut1 {α : Type} (a : α) (l : List α) : cutL (a :: l) (some 1) none = l := by
  unfold cutL
  rw [show HT.sIx (a :: l).length 0 (some 1) = 1 by rw [show (1 : Int) = ((1 : Nat) : Int) from rfl, HT.sIx_nat]; simp, HT.sIx_none]
  simp
theorem f_least_of (F : Fa K mg "least_of" s_least_of) (hbelow : FvBelow P w K mg base) : Fv P w K mg base CX0 2 "least_of" ["some"] (PureP (p_best VatmsBase.least)) := by
  refine fa_fv F (fun _ _ _ _ _ _ us hl => match us, hl with | [_], _ => rfl) fun f fd F => fn0 F sc_least_of (fun Γ r ⟨ds, d, e, _, a, l, m, e2, _⟩ => by subst e; subst e2; rfl) ?_
  have nd := sc_least_of.nd
  rintro cdv A outer s H E _ _ hr ⟨_, _, rfl, rfl, a, l, m, rfl, ha, hb, m0, m9, rfl⟩
  refine ss_cons (ss 1 nd (w_ix (wv 0 rfl (w_int ⟨_, (ix2_lst at0), ?_⟩))))
  refine ss_cons (s_for (js := [2]) .never rfl (i_list (w_slice (wv 0 rfl (w_int ⟨_, rfl, ⟨_, sl2_lst, ⟨_, rfl, ?_⟩⟩⟩)))))
  rw [show cutL ((a :: l).map Fd) (some 1) none = l.map Fd from cut1 _ _]
  refine for_ind Fd (fun (t : Frac × Sl) => [.im (.lst ((a :: l).map Fd)), .im (Fd t.1), t.2]) (fun t rest => (∀ x ∈ rest, Bd m x) ∧ Bd m t.1 ∧ rest.foldl VatmsBase.least t.1 = l.foldl VatmsBase.least a) ?_ ?_ l (a, .un) ⟨hb, ha, rfl⟩
  · rintro ⟨c, sl⟩ x rest ⟨h2, h3, h4⟩ nx hn
    refine gn 2 nd ?_
    have hx := h2 x List.mem_cons_self
    have e : VatmsBase.least c x = if VatmsBase.less x c = true then x else c := rfl
    have go := hn (VatmsBase.least c x, .im (Fd x)) ⟨fun y hy => h2 y (List.mem_cons_of_mem x hy), least_bd h3 hx, h4⟩
    refine ss_one (s_if (t_val (w_callP hbelow (hr.mono (by decide)) rfl pass (d_cons (wv 2 rfl (d_cons (wv 1 rfl (d_nil ⟨_, ⟨x, c, m, m, rfl, hx, h3, m9, m0, m0, rfl⟩, ⟨_, rfl, ⟨fun hT => ?_, fun hF => ?_⟩⟩⟩))))))))
    · refine ss_one (ss 1 nd (wv 2 rfl ?_))
      rw [e, if_pos hT] at go
      exact go
    · refine ss_nil ?_
      rw [e, if_neg (by rw [hF]; decide)] at go
      exact go
  · rintro ⟨c, sl⟩ ⟨_, _, h4⟩
    refine ss_one (s_ret (wv 1 rfl ?_))
    exact fin_eq (congrArg Fd h4)
abbrev s_greatest_of : Stmt := top 12
theorem sc_greatest_of : FnScope n_best ["some"] (defScope s_greatest_of) := ⟨rfl, rfl, rfl, by decide +kernel, rfl, by decide +kernel, by decide +kernel⟩
theorem f_greatest_of (F : Fa K mg "greatest_of" s_greatest_of) (hbelow : FvBelow P w K mg base) : Fv P w K mg base CX0 2 "greatest_of" ["some"] (PureP (p_best VatmsBase.greatest)) := by
  refine fa_fv F (fun _ _ _ _ _ _ us hl => match us, hl with | [_], _ => rfl) fun f fd F => fn0 F sc_greatest_of (fun Γ r ⟨ds, d, e, _, a, l, m, e2, _⟩ => by subst e; subst e2; rfl) ?_
  have nd := sc_greatest_of.nd
  rintro cdv A outer s H E _ _ hr ⟨_, _, rfl, rfl, a, l, m, rfl, ha, hb, m0, m9, rfl⟩
  refine ss_cons (ss 1 nd (w_ix (wv 0 rfl (w_int ⟨_, (ix2_lst at0), ?_⟩))))
  refine ss_cons (s_for (js := [2]) .never rfl (i_list (w_slice (wv 0 rfl (w_int ⟨_, rfl, ⟨_, sl2_lst, ⟨_, rfl, ?_⟩⟩⟩)))))
  rw [show cutL ((a :: l).map Fd) (some 1) none = l.map Fd from cut1 _ _]
  refine for_ind Fd (fun (t : Frac × Sl) => [.im (.lst ((a :: l).map Fd)), .im (Fd t.1), t.2]) (fun t rest => (∀ x ∈ rest, Bd m x) ∧ Bd m t.1 ∧ rest.foldl VatmsBase.greatest t.1 = l.foldl VatmsBase.greatest a) ?_ ?_ l (a, .un) ⟨hb, ha, rfl⟩
  · rintro ⟨c, sl⟩ x rest ⟨h2, h3, h4⟩ nx hn
    refine gn 2 nd ?_
    have hx := h2 x List.mem_cons_self
    have e : VatmsBase.greatest c x = if VatmsBase.less c x = true then x else c := rfl
    have go := hn (VatmsBase.greatest c x, .im (Fd x)) ⟨fun y hy => h2 y (List.mem_cons_of_mem x hy), greatest_bd h3 hx, h4⟩
    refine ss_one (s_if (t_val (w_callP hbelow (hr.mono (by decide)) rfl pass (d_cons (wv 1 rfl (d_cons (wv 2 rfl (d_nil ⟨_, ⟨c, x, m, m, rfl, h3, hx, m9, m0, m0, rfl⟩, ⟨_, rfl, ⟨fun hT => ?_, fun hF => ?_⟩⟩⟩))))))))
    · refine ss_one (ss 1 nd (wv 2 rfl ?_))
      rw [e, if_pos hT] at go
      exact go
    · refine ss_nil ?_
      rw [e, if_neg (by rw [hF]; decide)] at go
      exact go
  · rintro ⟨c, sl⟩ ⟨_, _, h4⟩
    refine ss_one (s_ret (wv 1 rfl ?_))
    exact fin_eq (congrArg Fd h4)
/-! ### on_line -/
abbrev s_on_line : Stmt := top 13
abbrev n_on_line : List Str := ["first", "last", "time", "share"]
theorem sc_on_line : FnScope n_on_line ["first", "last", "time"] (defScope s_on_line) := ⟨rfl, rfl, rfl, by decide +kernel, rfl, by decide +kernel, by decide +kernel⟩
/-- a point with a value, as data -/
abbrev Qd (t : Int) (v : Frac) : D := .tup [.int t, Fd v]
def onL (t1 : Int) (v1 : Frac) (t2 : Int) (v2 : Frac) (t : Int) : Frac := VatmsBase.plus v1 (VatmsBase.times (VatmsBase.minus v2 v1) (frac (t - t1) (t2 - t1).toNat))
theorem onL_bd {t1 t2 t : Int} {v1 v2 : Frac} (h : t1 < t2) (h1 : (t - t1).natAbs < 2 ^ 40) (h2 : (t2 - t1).natAbs < 2 ^ 40) (b1 : Bd 90 v1) (b2 : Bd 90 v2) : Bd 400 (onL t1 v1 t2 v2 t) :=
  (plus_bd b1 (times_bd (minus_bd b2 b1) (frac_bd (n := 40) (by omega) h1 (by omega)))).mono (by decide)
def p_on_line : List D → D → Prop := fun ds d => ∃ (t1 : Int) (v1 : Frac) (t2 : Int) (v2 : Frac) (t : Int), ds = [Qd t1 v1, Qd t2 v2, .int t] ∧ t1 < t2 ∧ (t - t1).natAbs < 2 ^ 40 ∧ (t2 - t1).natAbs < 2 ^ 40 ∧ Bd 90 v1 ∧ Bd 90 v2 ∧ d = Fd (onL t1 v1 t2 v2 t)
theorem f_on_line (F : Fa K mg "on_line" s_on_line) (hfraction : FvFraction P w K mg base) (hplus : FvPlus P w K mg base) (hless : FvLess P w K mg base) (htimes : FvTimes P w K mg base) : Fv P w K mg base CX0 4 "on_line" ["first", "last", "time"] (PureP p_on_line) := by
  refine fa_fv F (fun _ _ _ _ _ _ us hl => match us, hl with | [_, _, _], _ => rfl) fun f fd F => fn0 F sc_on_line (fun Γ r ⟨ds, d, e, _, t1, v1, t2, v2, t, e2, _⟩ => by subst e; subst e2; rfl) ?_
  have nd := sc_on_line.nd
  rintro cdv A outer s H E _ _ hr ⟨_, _, rfl, rfl, t1, v1, t2, v2, t, rfl, ht, h1, h2, b1, b2, rfl⟩
  have e : ((t2 - t1).toNat : Int) = t2 - t1 := by omega
  refine ss_cons (ss 3 nd (w_callP hfraction (hr.mono (by decide)) rfl pass (d_cons (w_bin (wv 2 rfl (w_ix (wv 0 rfl (w_int ⟨_, (ix2_tup rfl), ⟨_, o_subI, (d_cons (w_bin (w_ix (wv 1 rfl (w_int ⟨_, (ix2_tup rfl), (w_ix (wv 0 rfl (w_int ⟨_, (ix2_tup rfl), ⟨_, o_subI, (d_nil ⟨_, ⟨t - t1, (t2 - t1).toNat, by rw [e], by omega, Nat.lt_of_lt_of_le (show (t2 - t1).toNat < 2 ^ 40 by omega) (Nat.pow_le_pow_right (by decide) (by decide)), rfl⟩, ?_⟩)⟩⟩)))⟩)))))⟩⟩))))))))
  have b3 := minus_bd b2 b1
  have b4 := frac_bd (n := 40) (a := t - t1) (b := (t2 - t1).toNat) (by omega) h1 (by omega)
  refine ss_one (s_ret (w_callP hplus (hr.mono (by decide)) rfl pass (d_cons (w_ix (wv 0 rfl (w_int ⟨_, (ix2_tup rfl), (d_cons (w_callP htimes (hr.mono (by decide)) rfl pass (d_cons (w_callP hless (hr.mono (by decide)) rfl pass (d_cons (w_ix (wv 1 rfl (w_int ⟨_, (ix2_tup rfl), (d_cons (w_ix (wv 0 rfl (w_int ⟨_, (ix2_tup rfl), (d_nil ⟨_, ⟨v2, v1, 90, 90, rfl, b2, b1, by decide, by decide, by decide, rfl⟩, (d_cons (wv 3 rfl (d_nil ⟨_, ⟨_, _, _, _, rfl, b3, b4, by decide, by decide, by decide, rfl⟩, (d_nil ⟨_, ⟨_, _, _, _, rfl, b1, times_bd b3 b4, by decide, by decide, by decide, rfl⟩, ?_⟩)⟩)))⟩)⟩))))⟩))))))))⟩))))))
  exact fin_pure
end
end Fp

set_option Elab.async false
set_option linter.all false
set_option maxRecDepth 100000
set_option maxHeartbeats 2000000
namespace Fp
open PySem PySem.Spec PyProof.Rows L2 Dl
open VatmsBase (Frac frac whole)
open Vatmse (Spot spotAt edge)
/-- a point with a value, as data; a list of them; ints -/
abbrev Sd (p : Spot) : D := Qd p.t p.v
abbrev Ld (l : List Spot) : D := .lst (l.map Sd)
abbrev Nd (n : Nat) : D := .int (n : Nat)
theorem rng_nat (a n : Nat) : rngD (a : Int) n = (List.range n).map fun k => Nd (a + k) := rfl
theorem rng0 (n : Nat) : rngD 0 n = (List.range n).map Nd := by
  have h := rng_nat 0 n
  simp only [Nat.zero_add] at h
  exact h
theorem ld_at {l : List Spot} {i : Nat} (h : i < l.length) : atI (l.map Sd) (i : Nat) = some (Sd (spotAt l i)) := atI_nat (by rw [List.getElem?_map, spot_some h]; rfl)
section
variable {P : Program} {w : World} {K : PySem.W.Frag} {mg : Str → Option Value} {base : Heap}
abbrev FvFar (P : Program) (w : World) (K : PySem.W.Frag) (mg : Str → Option Value) (base : Heap) : Prop := Fv P w K mg base CX0 4 "far" ["one", "other"] (PureP (pF fun a b => VatmsBase.absOf (VatmsBase.minus a b)))
abbrev FvOnLine (P : Program) (w : World) (K : PySem.W.Frag) (mg : Str → Option Value) (base : Heap) : Prop := Fv P w K mg base CX0 4 "on_line" ["first", "last", "time"] (PureP p_on_line)
abbrev s_is_line : Stmt := top 15
abbrev n_is_line : List Str := ["points", "i", "j", "bound", "k"]
theorem sc_is_line : FnScope n_is_line ["points", "i", "j", "bound"] (defScope s_is_line) := ⟨rfl, rfl, rfl, by decide +kernel, rfl, by decide +kernel, by decide +kernel⟩
def p_is_line : List D → D → Prop := fun ds d => ∃ (l : List Spot) (i j : Nat) (b : Frac), ds = [Ld l, Nd i, Nd j, Fd b] ∧ Good l ∧ i < j ∧ j < l.length ∧ Bd 90 b ∧ d = .bl (edge l b i j)
theorem f_is_line (F : Fa K mg "is_line" s_is_line) (hbelow : FvBelow P w K mg base) (hfar : FvFar P w K mg base) (hon_line : FvOnLine P w K mg base) (nrange : mg "range" = none) : Fv P w K mg base CX0 5 "is_line" ["points", "i", "j", "bound"] (PureP p_is_line) := by
  refine fa_fv F (fun _ _ _ _ _ _ us hl => match us, hl with | [_, _, _, _], _ => rfl) fun f fd F => fn0 F sc_is_line (fun Γ r ⟨ds, d, e, _, l, i, j, b, e2, _⟩ => by subst e; subst e2; rfl) ?_
  have nd := sc_is_line.nd
  rintro cdv A outer s H E _ _ hr ⟨_, _, rfl, rfl, l, i, j, b, rfl, g, hij, hj, hb, rfl⟩
  have hlen := g.len
  refine ss_cons (s_for (js := [4]) .never rfl (i_range2 rfl nrange (d_cons (w_bin (wv 1 rfl (w_int ⟨_, o_addI, (d_cons (wv 2 rfl (d_nil ⟨_, _, rfl, by omega, ?_⟩)))⟩))))))
  have en : ((j : Int) - ((i : Int) + 1)).toNat = j - (i + 1) := by omega
  rw [en]
  refine for_ind (fun k : Nat => Nd (i + 1 + k)) (fun sl => [.im (Ld l), .im (Nd i), .im (Nd j), .im (Fd b), sl]) (fun _ rest => (∀ k ∈ rest, k < j - (i + 1)) ∧ (rest.all fun k => near l b i j (i + 1 + k)) = edge l b i j) ?_ ?_ (List.range (j - (i + 1))) .un ⟨fun k hk => List.mem_range.mp hk, (edge_range hij hj).symm⟩
  · rintro sl k rest ⟨h1, h2⟩ nx hn
    refine gn 4 nd ?_
    have hk := h1 k List.mem_cons_self
    have hkl : i + 1 + k < l.length := by omega
    have gi := g.mem (show i < l.length by omega)
    have gj := g.mem hj
    have gk := g.mem hkl
    have l1 := g.lt hj hij
    have l2 := g.lt hkl (show i < i + 1 + k by omega)
    have bo := onL_bd (t := (spotAt l (i + 1 + k)).t) l1 (by omega) (by omega) gi.2 gj.2
    refine ss_one (s_if (t_val (w_callP hbelow (hr.mono (by decide)) rfl pass (d_cons (wv 3 rfl (d_cons (w_callP hfar (hr.mono (by decide)) rfl pass (d_cons (w_ix (w_ix (wv 0 rfl (wv 4 rfl ⟨_, (ix2_lst (ld_at hkl)), (w_int ⟨_, (ix2_tup rfl), (d_cons (w_callP hon_line (hr.mono (by decide)) rfl pass (d_cons (w_ix (wv 0 rfl (wv 1 rfl ⟨_, (ix2_lst (ld_at (by omega))), (d_cons (w_ix (wv 0 rfl (wv 2 rfl ⟨_, (ix2_lst (ld_at hj)), (d_cons (w_ix (w_ix (wv 0 rfl (wv 4 rfl ⟨_, (ix2_lst (ld_at hkl)), (w_int ⟨_, (ix2_tup rfl), (d_nil ⟨_, ⟨_, _, _, _, _, rfl, l1, by omega, by omega, gi.2, gj.2, rfl⟩, (d_nil ⟨_, ⟨_, _, _, _, rfl, gk.2, bo, by decide, by decide, by decide, rfl⟩, (d_nil ⟨_, ⟨_, _, _, _, rfl, hb, abs_bd (minus_bd gk.2 bo), by decide, by decide, by decide, rfl⟩, ⟨_, rfl, ⟨fun hT => ?_, fun hF => ?_⟩⟩⟩)⟩)⟩)⟩)⟩)))))⟩))))⟩))))))⟩)⟩))))))))))))
    · refine ss_one (s_ret (w_bool (fin_eq (congrArg D.bl ?_))))
      rw [← h2, List.all_cons]
      have : near l b i j (i + 1 + k) = false := by
        show (!VatmsBase.less b (VatmsBase.absOf (VatmsBase.minus (onL _ _ _ _ _) _))) = false
        rw [abs_minus_comm gk.2.pos bo.pos, hT]; rfl
      rw [this]; rfl
    · refine ss_nil (hn _ ⟨fun k' hk' => h1 k' (List.mem_cons_of_mem k hk'), ?_⟩)
      rw [← h2, List.all_cons]
      have : near l b i j (i + 1 + k) = true := by
        show (!VatmsBase.less b (VatmsBase.absOf (VatmsBase.minus (onL _ _ _ _ _) _))) = true
        rw [abs_minus_comm gk.2.pos bo.pos, hF]; rfl
      rw [this, Bool.true_and]
  · rintro sl ⟨_, h2⟩
    exact ss_one (s_ret (w_bool (fin_eq (congrArg D.bl h2))))
/-! ### lines -/
abbrev s_lines : Stmt := top 16
abbrev n_lines : List Str := ["points", "bound", "many", "i", "j"]
theorem sc_lines : FnScope n_lines ["points", "bound"] (defScope s_lines) := ⟨rfl, rfl, rfl, by decide +kernel, rfl, by decide +kernel, by decide +kernel⟩
abbrev NLd (r : List Nat) : D := .lst (r.map Nd)
abbrev leadsD (l : List Spot) (b : Frac) : D := .lst ((List.range l.length).map fun i => NLd (leads l b i))
def p_lines : List D → D → Prop := fun ds d => ∃ (l : List Spot) (b : Frac), ds = [Ld l, Fd b] ∧ Good l ∧ Bd 90 b ∧ d = leadsD l b
theorem f_lines (F : Fa K mg "lines" s_lines) (hline : Fv P w K mg base CX0 5 "is_line" ["points", "i", "j", "bound"] (PureP p_is_line)) (nlen : mg "len" = none) (nrange : mg "range" = none) : Fv P w K mg base CX0 6 "lines" ["points", "bound"] (PureP p_lines) := by
  refine fa_fv F (fun _ _ _ _ _ _ us hl => match us, hl with | [_, _], _ => rfl) fun f fd F => fn0 F sc_lines (fun Γ r ⟨ds, d, e, _, l, b, e2, _⟩ => by subst e; subst e2; rfl) ?_
  have nd := sc_lines.nd
  rintro cdv A outer s H E _ _ hr ⟨_, _, rfl, rfl, l, b, rfl, g, hb, rfl⟩
  have hlen := g.len
  refine ss_cons (ss 2 nd (w_callB rfl nlen boot_len (d_cons (wv 0 rfl (d_nil ⟨_, c_lenL, ?_⟩)))))
  rw [List.length_map]
  refine ss_one (s_ret (w_new (w_lc [("i", 3)] [3] Nd (fun _ => true) (fun i => NLd (leads l b i)) rfl nd (blkOk_by (by show blkC n_lines (defScope s_lines) _ _ = true; decide +kernel)) (by decide) (by decide)
    (i_range1 rfl nrange (d_cons (wv 2 rfl (d_nil ⟨_, rfl, by omega, by omega, List.range l.length, rng0 _, ?_, ?_, ?_⟩)))))))
  · rw [List.length_range]
    exact Nat.lt_of_le_of_lt hlen (by decide)
  · rw [List.filter_eq_self.mpr (fun _ _ => rfl)]
    exact fin_pure
  · intro i hi
    have hi := List.mem_range.mp hi
    refine ⟨_, fun s H0 C cl fp => gn 3 nd rfl, fun s H0 C cl fp => ⟨rfl, rfl⟩, fun _ s H0 C cl fp => ?_⟩
    refine w_new (w_lc [("j", 4)] [4] (fun k : Nat => Nd (i + 1 + k)) (fun k => edge l b i (i + 1 + k)) (fun k => Nd (i + 1 + k)) rfl nd (blkOk_by (by show blkC n_lines (relS _ (defScope s_lines)) _ _ = true; decide +kernel)) (by decide) (by decide)
      (i_range2 rfl nrange (d_cons (w_bin (wv 3 rfl (w_int ⟨_, o_addI, (d_cons (wv 2 rfl (d_nil ⟨_, _, rfl, by omega, List.range (l.length - (i + 1)), ?_, ?_, ?_, ?_⟩)))⟩))))))
    · rw [show ((l.length : Int) - ((i : Int) + 1)).toNat = l.length - (i + 1) by omega]; rfl
    · rw [List.length_range]
      exact Nat.lt_of_le_of_lt (show l.length - (i + 1) ≤ 60 from by omega) (by decide)
    · show D.lst _ = D.lst _
      unfold leads
      rw [List.filter_map, List.map_map]
      rfl
    · intro k hk
      have hk := List.mem_range.mp hk
      refine ⟨_, fun s H0 C cl fp => gn 4 nd rfl, fun s H0 C cl fp => ?_, fun _ s H0 C cl fp => ?_⟩
      · exact t_val (w_callP hline (hr.mono (by decide)) rfl pass (d_cons (wv 0 rfl (d_cons (wv 3 rfl (d_cons (wv 4 rfl (d_cons (wv 1 rfl (d_nil ⟨_, ⟨l, i, i + 1 + k, b, rfl, g, by omega, by omega, hb, rfl⟩, _, rfl, rfl, rfl⟩))))))))))
      · exact wv 4 rfl rfl
end
end Fp

set_option Elab.async false
set_option linter.all false
set_option maxRecDepth 100000
set_option maxHeartbeats 2000000
namespace Fp
open PySem PySem.Spec PyProof.Rows L2 Dl
open VatmsBase (Frac frac whole)
open Vatmse (Spot spotAt edge)
section
variable {P : Program} {w : World} {K : PySem.W.Frag} {mg : Str → Option Value} {base : Heap}
abbrev s_depths : Stmt := top 17
abbrev n_depths : List Str := ["leads", "found", "i", "j"]
theorem sc_depths : FnScope n_depths ["leads"] (defScope s_depths) := ⟨rfl, rfl, rfl, by decide +kernel, rfl, by decide +kernel, by decide +kernel⟩
def p_depths : List D → D → Prop := fun ds d => ∃ (l : List Spot) (b : Frac), ds = [leadsD l b] ∧ Good l ∧ 0 < l.length ∧ d = NLd (Vatmse.depths l b)
theorem rngC_down (n : Nat) : rngC ((n : Int) - 1) (-1) n = ((List.range n).reverse).map Nd := by
  unfold rngC
  apply List.ext_getElem?
  intro i
  rw [List.getElem?_map, List.getElem?_map]
  by_cases h : i < n
  · rw [List.getElem?_range h, List.getElem?_reverse (by rw [List.length_range]; exact h), List.length_range, List.getElem?_range (by omega)]
    show some (D.int ((n : Int) - 1 + (i : Nat) * -1)) = some (D.int ((n - 1 - i : Nat) : Int))
    congr 2
    omega
  · rw [List.getElem?_eq_none (by rw [List.length_range]; omega), List.getElem?_eq_none (by rw [List.length_reverse, List.length_range]; omega)]
    rfl
theorem f_depths (F : Fa K mg "depths" s_depths) (nlen : mg "len" = none) (nrange : mg "range" = none) (nmin : mg "min" = none) : Fv P w K mg base CX0 1 "depths" ["leads"] (PureP p_depths) := by
  refine fa_fv F (fun _ _ _ _ _ _ us hl => match us, hl with | [_], _ => rfl) fun f fd F => fn0 F sc_depths (fun Γ r ⟨ds, d, e, _, l, b, e2, _⟩ => by subst e; subst e2; rfl) ?_
  have nd := sc_depths.nd
  rintro cdv A outer s H E _ _ hr ⟨_, _, rfl, rfl, l, b, rfl, g, h0, rfl⟩
  have hlen := g.len
  have hz : sizeLine = 16777216 := sizeLine_eq
  refine ss_cons (ssN 1 nd (w_binN (w_new (w_lst (d_cons (w_int (d_nil ⟨len_le, (w_callB rfl nlen boot_len (d_cons (wv 0 rfl (d_nil ⟨_, c_lenL, ⟨_, o_rep1 ?_, fun p => ?_⟩⟩))))⟩)))))))
  · rw [List.length_map, List.length_range]; omega
  rw [show ((List.range l.length).map fun i => NLd (leads l b i)).length = l.length by rw [List.length_map, List.length_range]]
  refine ss_cons (s_for (js := [2]) .never rfl (i_range3 rfl nrange (d_cons (w_bin (w_callB rfl nlen boot_len (d_cons (wv 0 rfl (d_nil ⟨_, c_lenL, (w_int ⟨_, o_subI, (d_cons (w_neg (w_int ⟨_, rfl, (d_cons (w_neg (w_int ⟨_, rfl, (d_nil ⟨_, _, _, _, rfl, RgC.neg (by omega) (by rw [List.length_map, List.length_range]; omega) (by omega) (by omega), ?_⟩)⟩)))⟩)))⟩)⟩))))))))
  rw [show ((List.range l.length).map fun i => NLd (leads l b i)).length = l.length by rw [List.length_map, List.length_range]]
  rw [show ((l.length : Int) - 2 - -1).toNat = l.length - 1 by omega, show ((l.length : Int) - 2) = ((l.length - 1 : Nat) : Int) - 1 by omega, rngC_down]
  have e0 : (List.replicate l.length (D.int 0)) = (List.replicate (l.length - 1) 0 ++ [0]).map Nd := by
    rw [List.map_append, List.map_replicate]
    show _ = List.replicate (l.length - 1) (D.int 0) ++ [D.int 0]
    rw [← List.replicate_succ', show l.length - 1 + 1 = l.length by omega]
  rw [e0]
  refine for_ind Nd (fun (t : Nat × List Nat × Sl) => [.im (leadsD l b), .own p (.lst ((List.replicate t.1 0 ++ t.2.1).map Nd)), t.2.2, .un]) (fun t rest => rest = (List.range t.1).reverse ∧ t.1 + t.2.1.length = l.length ∧ 0 < t.2.1.length ∧ (∀ x ∈ t.2.1, x < t.2.1.length) ∧ Vatmse.depthsBy l b t.1 t.2.1 = Vatmse.depths l b) ?_ ?_ _ (l.length - 1, [0], .un) ?_
  · rintro ⟨r, ds, sl⟩ x rest ⟨h1, h2, h3, h4, h5⟩ nx hn
    cases r with
    | zero => cases h1
    | succ r =>
      rw [List.range_succ, List.reverse_append] at h1
      have h1 : x :: rest = r :: (List.range r).reverse := h1
      obtain ⟨rfl, rfl⟩ := List.cons.inj h1
      have h2 : x + 1 + ds.length = l.length := h2
      obtain ⟨m, m1, m2, m3, m4⟩ := best_min (l := l) (d := b) (i := x) (ds := ds) h2 h3 h4
      refine gn 2 nd ?_
      have lx : atI ((List.range l.length).map fun i => NLd (leads l b i)) (x : Nat) = some (NLd (leads l b x)) := atI_nat (by rw [List.getElem?_map, List.getElem?_range (by omega)]; rfl)
      have at' : ∀ j ∈ leads l b x, (List.replicate (x + 1) 0 ++ ds)[j]? = some (ds[j - (x + 1)]?.getD 0) := fun j hj => by
        obtain ⟨j1, j2, j3⟩ := mem_leads.mp hj
        rw [List.getElem?_append_right (by rw [List.length_replicate]; omega), List.length_replicate, List.getElem?_eq_getElem (by omega)]; rfl
      refine ss_one (s_setL 1 rfl (.inr (.inl rfl)) (w_see 1 rfl (w_bin (w_int (w_callB rfl nmin boot_min (d_cons (w_new (w_lc [("j", 3)] [3] Nd (fun _ => true) (fun j => Nd (ds[j - (x + 1)]?.getD 0)) rfl nd (blkOk_by (by show blkC n_depths (defScope s_depths) _ _ = true; decide +kernel)) (by decide) (by decide)
        (i_list (w_ix (wv 0 rfl (wv 2 rfl ⟨_, ix2_lst lx, _, rfl, leads l b x, rfl, ?_, d_nil ⟨.int (m : Nat), ?_, _, o_addI, .int _, _, rfl, wv 2 rfl ⟨_, _, x, rfl, rfl, ?_, ?_⟩⟩, ?_⟩))))))))))))
      · refine Nat.lt_of_le_of_lt (Nat.le_trans (List.length_filter_le _ _) (by rw [List.length_map, List.length_range]; exact Nat.sub_le _ _)) (by omega)
      · have e : ((leads l b x).filter fun _ => true).map (fun j => Nd (ds[j - (x + 1)]?.getD 0)) = (((leads l b x).map fun j => ds[j - (x + 1)]?.getD 0).map fun n : Nat => (n : Int)).map D.int := by
          rw [List.filter_eq_self.mpr (fun _ _ => rfl), List.map_map, List.map_map]; rfl
        show Cl _ _ [D.lst _] _
        rw [e]
        exact c_min rfl (List.mem_map.mpr ⟨m, m1, rfl⟩) fun y hy => by
          obtain ⟨y', hy', rfl⟩ := List.mem_map.mp hy
          exact Int.ofNat_le.mpr (m2 y' hy')
      · unfold ixN
        rw [if_pos (by omega), if_pos (by rw [List.length_map, List.length_append, List.length_replicate]; omega)]; rfl
      · have e : ((List.replicate (x + 1) 0 ++ ds).map Nd).set x (D.int (1 + (m : Nat))) = (List.replicate x 0 ++ (best l b x ds :: ds)).map Nd := by
          rw [List.replicate_succ', List.append_assoc, List.map_append, List.map_append, List.set_append_right _ _ (by rw [List.length_map, List.length_replicate]; exact Nat.le_refl _), List.length_map, List.length_replicate, Nat.sub_self, m3]
          rw [List.map_append]
          exact congrArg (fun z => List.map Nd (List.replicate x 0) ++ D.int z :: List.map Nd ds) (show (1 : Int) + (m : Int) = ((1 + m : Nat) : Int) by omega)
        rw [e]
        refine hn (x, best l b x ds :: ds, .im (Nd x)) ⟨rfl, by show x + (ds.length + 1) = _; omega, Nat.succ_pos _, fun y hy => ?_, h5⟩
        show y < ds.length + 1
        rcases List.mem_cons.mp hy with e | hy
        · omega
        · have := h4 y hy
          have h4 : y < ds.length := this
          omega
      · intro j hj
        refine ⟨_, fun s H0 C cl fp => gn 3 nd rfl, fun s H0 C cl fp => ⟨rfl, rfl⟩, fun _ s H0 C cl fp => ?_⟩
        exact w_ix (wv 1 rfl (wv 3 rfl ⟨_, ix2_lst (atI_nat (by rw [List.getElem?_map, at' j hj]; rfl)), rfl⟩))
  · rintro ⟨r, ds, sl⟩ ⟨h1, h2, h3, h4, h5⟩
    cases r with
    | zero =>
      refine ss_one (s_ret (wg 1 rfl ?_))
      refine fin_eq ?_
      show D.lst (List.map Nd ds) = D.lst (List.map Nd _)
      rw [← h5]; rfl
    | succ r =>
      rw [List.range_succ, List.reverse_append] at h1
      cases h1
  · exact ⟨rfl, by show l.length - 1 + 1 = _; omega, Nat.one_pos, fun x hx => by have := List.mem_singleton.mp hx; subst this; exact Nat.one_pos, by
      unfold Vatmse.depths
      cases l with
      | nil => cases h0
      | cons a r => rfl⟩
end
end Fp

set_option Elab.async false
set_option linter.all false
set_option maxRecDepth 100000
set_option maxHeartbeats 2000000
namespace Fp
open PySem PySem.Spec PyProof.Rows L2 Dl
open VatmsBase (Frac frac whole)
open Vatmse (Spot spotAt edge)
section
variable {P : Program} {w : World} {K : PySem.W.Frag} {mg : Str → Option Value} {base : Heap}
abbrev FvLines (P : Program) (w : World) (K : PySem.W.Frag) (mg : Str → Option Value) (base : Heap) : Prop := Fv P w K mg base CX0 6 "lines" ["points", "bound"] (PureP p_lines)
abbrev FvIsLine (P : Program) (w : World) (K : PySem.W.Frag) (mg : Str → Option Value) (base : Heap) : Prop := Fv P w K mg base CX0 5 "is_line" ["points", "i", "j", "bound"] (PureP p_is_line)
abbrev FvDepths (P : Program) (w : World) (K : PySem.W.Frag) (mg : Str → Option Value) (base : Heap) : Prop := Fv P w K mg base CX0 1 "depths" ["leads"] (PureP p_depths)
abbrev s_chart : Stmt := top 18
abbrev n_chart : List Str := ["points", "bound", "leads", "deep", "found", "here", "j"]
theorem sc_chart : FnScope n_chart ["points", "bound"] (defScope s_chart) := ⟨rfl, rfl, rfl, by decide +kernel, rfl, by decide +kernel, by decide +kernel⟩
def p_chart : List D → D → Prop := fun ds d => ∃ (l : List Spot) (b : Frac), ds = [Ld l, Fd b] ∧ Good l ∧ 0 < l.length ∧ Bd 90 b ∧ d = NLd (Vatmse.chart l b)
theorem f_chart (F : Fa K mg "chart" s_chart) (hlines : FvLines P w K mg base) (hdepths : FvDepths P w K mg base) (nlen : mg "len" = none) : Fv P w K mg base CX0 7 "chart" ["points", "bound"] (PureP p_chart) := by
  refine fa_fv F (fun _ _ _ _ _ _ us hl => match us, hl with | [_, _], _ => rfl) fun f fd F => fn0 F sc_chart (fun Γ r ⟨ds, d, e, _, l, b, e2, _⟩ => by subst e; subst e2; rfl) ?_
  have nd := sc_chart.nd
  rintro cdv A outer s H E _ _ hr ⟨_, _, rfl, rfl, l, b, rfl, g, h0, hb, rfl⟩
  have hlen := g.len
  have hz : sizeLine = 16777216 := sizeLine_eq
  have DD := deep_depths (d := b) h0
  generalize hdp : Vatmse.depths l b = dp at DD
  refine ss_cons (ss 2 nd (w_callP hlines (hr.mono (by decide)) rfl pass (d_cons (wv 0 rfl (d_cons (wv 1 rfl (d_nil ⟨_, ⟨l, b, rfl, g, hb, rfl⟩, ?_⟩)))))))
  refine ss_cons (ss 3 nd (w_callP hdepths (hr.mono (by decide)) rfl pass (d_cons (wv 2 rfl (d_nil ⟨_, ⟨l, b, rfl, g, h0, rfl⟩, ?_⟩)))))
  rw [hdp]
  refine ss_cons (ssN 4 nd (w_lst (d_cons (w_int (d_nil ⟨len_le, fun p => ?_⟩)))))
  have ech : Vatmse.chart l b = Vatmse.walk l b dp l.length 0 := by
    unfold Vatmse.chart
    rw [hdp]
    cases l with
    | nil => cases h0
    | cons a r => rfl
  refine ss_cons (s_while _ .never (while_m (fun (t : List Nat × Nat × Sl) => [.im (Ld l), .im (Fd b), .im (leadsD l b), .im (NLd dp), .own p (.lst ((t.1 ++ [t.2.1]).map Nd)), t.2.2, .un]) (fun t => l.length - t.2.1)
    (fun t => t.2.1 < l.length ∧ t.1.length ≤ t.2.1 ∧ ∃ fu, l.length ≤ fu + t.2.1 ∧ t.1 ++ Vatmse.walk l b dp fu t.2.1 = Vatmse.chart l b) ?_ ([], 0, .un) ⟨h0, Nat.le_refl _, l.length, by show l.length ≤ l.length + 0; omega, by rw [ech]; rfl⟩))
  rintro ⟨acc, cur, sl⟩ n ⟨h1, h2, fu, h3, h4⟩ ih
  have h1 : cur < l.length := h1
  have h2 : acc.length ≤ cur := h2
  have h3 : l.length ≤ fu + cur := h3
  have h4 : acc ++ Vatmse.walk l b dp fu cur = Vatmse.chart l b := h4
  have lastD : atI ((acc ++ [cur]).map Nd) (-1) = some (Nd cur) := by rw [List.map_append]; exact atI_last _ _
  refine t_see 4 rfl (t_cmp (w_ix (wv 4 rfl (w_neg (w_int ⟨_, rfl, ⟨_, (ix2_lst lastD), (w_bin (w_callB rfl nlen boot_len (d_cons (wv 0 rfl (d_nil ⟨_, c_lenL, (w_int ⟨_, o_subI, ⟨_, o_lt, ⟨fun hF => ?_, fun hT => ?_⟩⟩⟩)⟩)))))⟩⟩)))))
  · have hc : cur + 1 = l.length := by
      have := of_decide_eq_false hF
      rw [List.length_map] at this
      omega
    rw [walk_last DD hc] at h4
    refine ss_one (s_ret (wg 4 rfl (fin_eq ?_)))
    rw [← h4]; rfl
  · have hc : cur + 1 < l.length := by
      have := of_decide_eq_true hT
      rw [List.length_map] at this
      omega
    obtain ⟨j, e1, j1, j2⟩ := DD.step hc
    refine ss_cons (ss 5 nd (w_see 4 rfl (w_ix (wv 4 rfl (w_neg (w_int ⟨_, rfl, ⟨_, (ix2_lst lastD), .int _, ?_⟩⟩))))))
    have lx : atI ((List.range l.length).map fun i => NLd (leads l b i)) (cur : Nat) = some (NLd (leads l b cur)) := atI_nat (by rw [List.getElem?_map, List.getElem?_range (by omega)]; rfl)
    refine ss_one (s_append 4 rfl (.inl rfl) rfl (w_ix (w_new (w_lc [("j", 6)] [6] Nd (fun j => dp[j]?.getD 0 + 1 == dp[cur]?.getD 0) Nd rfl nd (blkOk_by (by show blkC n_chart (defScope s_chart) _ _ = true; decide +kernel)) (by decide) (by decide)
      (i_list (w_ix (wv 2 rfl (wv 5 rfl ⟨_, ix2_lst lx, _, rfl, leads l b cur, rfl, ?_, (w_int ⟨Nd j, ix2_lst ?_, _, rfl, ?_, ?_⟩), ?_⟩))))))))
    · refine Nat.lt_of_le_of_lt (Nat.le_trans (List.length_filter_le _ _) (by rw [List.length_map, List.length_range]; exact Nat.sub_le _ _)) (by omega)
    · refine atI_nat (j := 0) ?_
      rw [List.getElem?_map, ← List.head?_eq_getElem?, e1]; rfl
    · rw [List.length_map, List.length_append]
      show acc.length + 1 < sizeLine
      omega
    · have := ih (acc ++ [cur], j, .im (Nd cur)) ⟨j2, by show (acc ++ [cur]).length ≤ j; rw [List.length_append]; show acc.length + 1 ≤ j; omega, ?_⟩ (by show l.length - j < l.length - cur; omega)
      · show WhileD _ _ _ _ _ _ _ [.im (Ld l), .im (Fd b), .im (leadsD l b), .im (NLd dp), .own p (.lst ((acc ++ [cur]).map Nd ++ [Nd j])), .im (Nd cur), .un]
        rw [show (acc ++ [cur]).map Nd ++ [Nd j] = ((acc ++ [cur]) ++ [j]).map Nd by rw [List.map_append (l₁ := acc ++ [cur])]; rfl]
        exact this
      · cases fu with
        | zero => omega
        | succ fu =>
          refine ⟨fu, by show l.length ≤ fu + j; omega, ?_⟩
          rw [walk_step DD hc e1] at h4
          rw [← h4]
          show (acc ++ [cur]) ++ _ = acc ++ (cur :: _)
          rw [List.append_assoc]; rfl
    · intro k hk
      obtain ⟨k1, k2, _⟩ := mem_leads.mp hk
      have kd : dp[k]? = some (dp[k]?.getD 0) := by rw [List.getElem?_eq_getElem (by rw [DD.len]; exact k2)]; rfl
      have cd : dp[cur]? = some (dp[cur]?.getD 0) := by rw [List.getElem?_eq_getElem (by rw [DD.len]; exact h1)]; rfl
      refine ⟨_, fun s H0 C cl fp => gn 6 nd rfl, fun s H0 C cl fp => ?_, fun _ s H0 C cl fp => wv 6 rfl rfl⟩
      refine t_cmp (w_ix (wv 3 rfl (wv 6 rfl ⟨_, ix2_lst (atI_nat (by rw [List.getElem?_map, kd]; rfl)), w_bin (w_ix (wv 3 rfl (wv 5 rfl ⟨_, ix2_lst (atI_nat (by rw [List.getElem?_map, cd]; rfl)), w_int ⟨_, o_subI, _, o_eqI, ?_, rfl⟩⟩)))⟩)))
      by_cases h : dp[k]?.getD 0 + 1 = dp[cur]?.getD 0
      · rw [decide_eq_true (show ((dp[k]?.getD 0 : Nat) : Int) = ((dp[cur]?.getD 0 : Nat) : Int) - 1 by omega)]
        exact (beq_iff_eq.mpr h).symm
      · rw [decide_eq_false (show ¬ ((dp[k]?.getD 0 : Nat) : Int) = ((dp[cur]?.getD 0 : Nat) : Int) - 1 by omega)]
        exact (beq_eq_false_iff_ne.mpr h).symm
end
end Fp

set_option Elab.async false
set_option linter.all false
set_option maxRecDepth 100000
set_option maxHeartbeats 2000000
namespace Fp
open PySem PySem.Spec PyProof.Rows L2 Dl
open VatmsBase (Frac frac whole)
open Vatmse (Spot spotAt edge Seg)
section
variable {P : Program} {w : World} {K : PySem.W.Frag} {mg : Str → Option Value} {base : Heap}
/-! ### first_without_line, first_fall -/
abbrev s_first_without_line : Stmt := top 19
abbrev n_first_without_line : List Str := ["points", "numbers", "bound", "i", "j"]
theorem sc_first_without_line : FnScope n_first_without_line ["points", "numbers", "bound"] (defScope s_first_without_line) := ⟨rfl, rfl, rfl, by decide +kernel, rfl, by decide +kernel, by decide +kernel⟩
def pairD (x : Nat × Nat) : D := .tup [Nd x.1, Nd x.2]
def optP : Option (Nat × Nat) → D
  | some x => pairD x
  | none => .non
def p_first_without_line : List D → D → Prop := fun ds d => ∃ (l : List Spot) (c : List Nat) (b : Frac), ds = [Ld l, NLd c, Fd b] ∧ Good l ∧ Bd 90 b ∧ (∀ x ∈ c.zip (c.drop 1), x.1 < x.2 ∧ x.2 < l.length) ∧ d = optP (Vatmse.chartOff l b c)
theorem zip_nd (c e : List Nat) : zipD (c.map Nd) (e.map Nd) = (c.zip e).map pairD := by
  unfold zipD
  rw [List.zip_map, List.map_map]; rfl
theorem f_first_without_line (F : Fa K mg "first_without_line" s_first_without_line) (hline : FvIsLine P w K mg base) (nzip : mg "zip" = none) : Fv P w K mg base CX0 6 "first_without_line" ["points", "numbers", "bound"] (PureP p_first_without_line) := by
  refine fa_fv F (fun _ _ _ _ _ _ us hl => match us, hl with | [_, _, _], _ => rfl) fun f fd F => fn0 F sc_first_without_line (fun Γ r ⟨ds, d, e, _, l, c, b, e2, _⟩ => by subst e; subst e2; rfl) ?_
  have nd := sc_first_without_line.nd
  rintro cdv A outer s H E _ _ hr ⟨_, _, rfl, rfl, l, c, b, rfl, g, hb, hc, rfl⟩
  refine ss_cons (s_for (js := [3, 4]) .never rfl (i_zip rfl nzip (d_cons (wv 1 rfl (d_cons (w_slice (wv 1 rfl (w_int ⟨_, rfl, ⟨_, sl2_lst, (d_nil ⟨_, _, rfl, ?_⟩)⟩⟩))))))))
  rw [cut_drop, ← List.map_drop, zip_nd]
  refine for_ind pairD (fun (t : Sl × Sl) => [.im (Ld l), .im (NLd c), .im (Fd b), t.1, t.2]) (fun _ rest => (∀ x ∈ rest, x.1 < x.2 ∧ x.2 < l.length) ∧ (rest.find? fun x => !edge l b x.1 x.2) = Vatmse.chartOff l b c) ?_ ?_ _ (.un, .un) ⟨hc, rfl⟩
  · rintro ⟨s1, s2⟩ x rest ⟨h1, h2⟩ nx hn
    have hx := h1 x List.mem_cons_self
    refine (g1_tup rfl (gs_cons (gn 3 nd (gs_cons (gn 4 nd (gs_nil ?_))))))
    refine ss_one (s_if (t_not (t_val (w_callP hline (hr.mono (by decide)) rfl pass (d_cons (wv 0 rfl (d_cons (wv 3 rfl (d_cons (wv 4 rfl (d_cons (wv 2 rfl (d_nil ⟨_, ⟨l, x.1, x.2, b, rfl, g, hx.1, hx.2, hb, rfl⟩, ⟨_, rfl, ⟨fun hT => ?_, fun hF => ?_⟩⟩⟩)))))))))))))
    · refine ss_one (s_ret (w_tup (d_cons (wv 3 rfl (d_cons (wv 4 rfl (d_nil ⟨len_le, ?_⟩)))))))
      refine fin_eq ?_
      rw [← h2, List.find?_cons, hT]; rfl
    · refine ss_nil (hn (_, _) ⟨fun y hy => h1 y (List.mem_cons_of_mem x hy), ?_⟩)
      rw [← h2, List.find?_cons, hF]
  · rintro ⟨s1, s2⟩ ⟨_, h2⟩
    refine ss_one (s_ret (w_none (fin_eq ?_)))
    rw [← h2]; rfl
abbrev s_first_fall : Stmt := top 20
abbrev n_first_fall : List Str := ["points", "numbers", "bound", "i", "behind", "j"]
theorem sc_first_fall : FnScope n_first_fall ["points", "numbers", "bound"] (defScope s_first_fall) := ⟨rfl, rfl, rfl, by decide +kernel, rfl, by decide +kernel, by decide +kernel⟩
def p_first_fall : List D → D → Prop := fun ds d => ∃ (l : List Spot) (c : List Nat) (b : Frac), ds = [Ld l, NLd c, Fd b] ∧ Good l ∧ Bd 90 b ∧ c.length = l.length ∧ d = optP (Vatmse.depthOff l b c)
theorem enum_leads (l : List Spot) (b : Frac) : enumD ((List.range l.length).map fun i => NLd (leads l b i)) = (List.range l.length).map fun i => D.tup [Nd i, NLd (leads l b i)] := by
  unfold enumD
  apply List.ext_getElem?
  intro i
  rw [List.getElem?_map, List.getElem?_zipIdx, List.getElem?_map, List.getElem?_map]
  by_cases h : i < l.length
  · rw [List.getElem?_range h]
    show some (D.tup [.int ((0 + i : Nat) : Int), _]) = _
    rw [Nat.zero_add]; rfl
  · rw [List.getElem?_eq_none (by rw [List.length_range]; omega)]; rfl
theorem f_first_fall (F : Fa K mg "first_fall" s_first_fall) (hlines : FvLines P w K mg base) (nenumerate : mg "enumerate" = none) : Fv P w K mg base CX0 7 "first_fall" ["points", "numbers", "bound"] (PureP p_first_fall) := by
  refine fa_fv F (fun _ _ _ _ _ _ us hl => match us, hl with | [_, _, _], _ => rfl) fun f fd F => fn0 F sc_first_fall (fun Γ r ⟨ds, d, e, _, l, c, b, e2, _⟩ => by subst e; subst e2; rfl) ?_
  have nd := sc_first_fall.nd
  rintro cdv A outer s H E _ _ hr ⟨_, _, rfl, rfl, l, c, b, rfl, g, hb, hc, rfl⟩
  refine ss_cons (s_for (js := [3, 4]) .never rfl (i_enum rfl nenumerate (d_cons (w_callP hlines (hr.mono (by decide)) rfl pass (d_cons (wv 0 rfl (d_cons (wv 2 rfl (d_nil ⟨_, ⟨l, b, rfl, g, hb, rfl⟩, (d_nil ⟨_, rfl, ?_⟩)⟩)))))))))
  rw [enum_leads]
  let q := fun i => ((List.range l.length).find? fun j => edge l b i j && decide (c[j]?.getD 0 + 1 < c[i]?.getD 0)).map fun j => (i, j)
  have cat : ∀ {k : Nat}, k < l.length → atI (c.map Nd) (k : Nat) = some (Nd (c[k]?.getD 0)) := fun {k} hk => atI_nat (by rw [List.getElem?_map, List.getElem?_eq_getElem (by rw [hc]; exact hk)]; rfl)
  refine for_ind (fun i => D.tup [Nd i, NLd (leads l b i)]) (fun (t : Sl × Sl × Sl) => [.im (Ld l), .im (NLd c), .im (Fd b), t.1, t.2.1, t.2.2]) (fun _ rest => (∀ x ∈ rest, x < l.length) ∧ rest.findSome? q = Vatmse.depthOff l b c) ?_ ?_ _ (.un, .un, .un) ⟨fun x hx => List.mem_range.mp hx, rfl⟩
  · rintro ⟨s1, s2, s3⟩ i rest ⟨h1, h2⟩ nx hn
    have hi := h1 i List.mem_cons_self
    refine (g1_tup rfl (gs_cons (gn 3 nd (gs_cons (gn 4 nd (gs_nil ?_))))))
    refine ss_one (s_for (js := [5]) .never rfl (i_list (wv 4 rfl ⟨_, rfl, ?_⟩)))
    refine for_ind Nd (fun (t : Sl) => [.im (Ld l), .im (NLd c), .im (Fd b), .im (Nd i), .im (NLd (leads l b i)), t]) (fun _ rest => (∀ x ∈ rest, x < l.length) ∧ (rest.find? fun j => decide (c[j]?.getD 0 + 1 < c[i]?.getD 0)) = ((leads l b i).filter fun j => decide (c[j]?.getD 0 + 1 < c[i]?.getD 0)).head?) ?_ ?_ _ s3 ⟨fun x hx => (mem_leads.mp hx).2.1, by rw [List.head?_filter]⟩
    · rintro s3 j rest2 ⟨k1, k2⟩ nx2 hn2
      have hj := k1 j List.mem_cons_self
      refine (gn 5 nd ?_)
      refine ss_one (s_if (t_cmp (w_ix (wv 1 rfl (wv 5 rfl ⟨_, (ix2_lst (cat hj)), (w_bin (w_ix (wv 1 rfl (wv 3 rfl ⟨_, (ix2_lst (cat hi)), (w_int ⟨_, o_subI, ⟨_, o_lt, ⟨fun hT => ?_, fun hF => ?_⟩⟩⟩)⟩))))⟩)))))
      · have hT := of_decide_eq_true hT
        have e : decide (c[j]?.getD 0 + 1 < c[i]?.getD 0) = true := decide_eq_true (by omega)
        refine ss_one (s_ret (w_tup (d_cons (wv 3 rfl (d_cons (wv 5 rfl (d_nil ⟨len_le, ?_⟩)))))))
        refine fin_eq ?_
        rw [List.find?_cons, e, leads_find hi] at k2
        rw [← h2, List.findSome?_cons, show q i = some (i, j) by show Option.map _ _ = _; rw [← k2]; rfl]
        rfl
      · have hF := of_decide_eq_false hF
        have e : decide (c[j]?.getD 0 + 1 < c[i]?.getD 0) = false := decide_eq_false (by omega)
        rw [List.find?_cons, e] at k2
        exact ss_nil (hn2 _ ⟨fun y hy => k1 y (List.mem_cons_of_mem j hy), k2⟩)
    · rintro s3 ⟨_, k2⟩
      refine hn (_, _, _) ⟨fun y hy => h1 y (List.mem_cons_of_mem i hy), ?_⟩
      rw [leads_find hi] at k2
      rw [← h2, List.findSome?_cons, show q i = none by show Option.map _ _ = _; rw [← k2]; rfl]
  · rintro ⟨s1, s2, s3⟩ ⟨_, h2⟩
    refine ss_one (s_ret (w_none (fin_eq ?_)))
    rw [← h2]; rfl
/-! ### fits -/
abbrev FvBest (P : Program) (w : World) (K : PySem.W.Frag) (mg : Str → Option Value) (base : Heap) (x : Str) (g : Frac → Frac → Frac) : Prop := Fv P w K mg base CX0 2 x ["some"] (PureP (p_best g))
abbrev s_fits : Stmt := top 21
abbrev n_fits : List Str := ["values", "bound"]
theorem sc_fits : FnScope n_fits ["values", "bound"] (defScope s_fits) := ⟨rfl, rfl, rfl, by decide +kernel, rfl, by decide +kernel, by decide +kernel⟩
def fitsB (b a : Frac) (r : List Frac) : Bool := !VatmsBase.less (VatmsBase.plus b b) (VatmsBase.minus (r.foldl VatmsBase.greatest a) (r.foldl VatmsBase.least a))
def p_fits : List D → D → Prop := fun ds d => ∃ (a : Frac) (r : List Frac) (b : Frac), ds = [.lst ((a :: r).map Fd), Fd b] ∧ (∀ x ∈ a :: r, Bd 90 x) ∧ Bd 90 b ∧ d = .bl (fitsB b a r)
theorem f_fits (F : Fa K mg "fits" s_fits) (hfraction : FvFraction P w K mg base) (htimes : FvTimes P w K mg base) (hless : FvLess P w K mg base) (hbelow : FvBelow P w K mg base) (hleast_of : FvBest P w K mg base "least_of" VatmsBase.least) (hgreatest_of : FvBest P w K mg base "greatest_of" VatmsBase.greatest) : Fv P w K mg base CX0 4 "fits" ["values", "bound"] (PureP p_fits) := by
  refine fa_fv F (fun _ _ _ _ _ _ us hl => match us, hl with | [_, _], _ => rfl) fun f fd F => fn0 F sc_fits (fun Γ r ⟨ds, d, e, _, a, r', b, e2, _⟩ => by subst e; subst e2; rfl) ?_
  rintro cdv A outer s H E _ _ hr ⟨_, _, rfl, rfl, a, r, b, rfl, hx, hb, rfl⟩
  have ha := hx a List.mem_cons_self
  have hr' : ∀ x ∈ r, Bd 90 x := fun x h => hx x (List.mem_cons_of_mem a h)
  have bg := foldl_greatest_bd r a ha hr'
  have bl := foldl_least_bd r a ha hr'
  have b2 : Bd 2 (frac 2 1) := ⟨by decide, by decide, by decide⟩
  refine ss_one (s_ret (w_not (w_callP hbelow (hr.mono (by decide)) rfl pass (d_cons (w_callP htimes (hr.mono (by decide)) rfl pass (d_cons (wv 1 rfl (d_cons (w_callP hfraction (hr.mono (by decide)) rfl pass (d_cons (w_int (d_cons (w_int (d_nil ⟨_, ⟨2, 1, rfl, by decide, Nat.one_lt_two_pow (by decide), rfl⟩, (d_nil ⟨_, ⟨b, frac 2 1, 90, 2, rfl, hb, b2, by decide, by decide, by decide, rfl⟩, (d_cons (w_callP hless (hr.mono (by decide)) rfl pass (d_cons (w_callP hgreatest_of (hr.mono (by decide)) rfl pass (d_cons (wv 0 rfl (d_nil ⟨_, ⟨a, r, 90, rfl, ha, hr', by decide, by decide, rfl⟩, (d_cons (w_callP hleast_of (hr.mono (by decide)) rfl pass (d_cons (wv 0 rfl (d_nil ⟨_, ⟨a, r, 90, rfl, ha, hr', by decide, by decide, rfl⟩, (d_nil ⟨_, ⟨_, _, 90, 90, rfl, bg, bl, by decide, by decide, by decide, rfl⟩, (d_nil ⟨_, ⟨_, _, 92, 181, rfl, times_bd hb b2, minus_bd bg bl, by decide, by decide, by decide, rfl⟩, _, rfl, ?_⟩)⟩)⟩)))))⟩)))))))⟩)⟩))))))))))))))
  refine fin_eq (congrArg D.bl ?_)
  unfold fitsB
  rw [twice hb.pos]
end
end Fp

set_option Elab.async false
set_option linter.all false
set_option maxRecDepth 100000
set_option maxHeartbeats 2000000
namespace Fp
open PySem PySem.Spec PyProof.Rows L2 Dl
open VatmsBase (Frac frac whole)
open Vatmse (Spot spotAt edge Seg)
theorem fl_F {f : Frac} : Fl (Fd f) := .tup (.cons (.int _) (.cons (.int _) .nil))
theorem fl_pair {i j : Int} : Fl (.tup [.int i, .int j]) := .tup (.cons (.int _) (.cons (.int _) .nil))
theorem rng_up (a m : Nat) : rngD (a : Int) m = (List.range' a m).map Nd := by
  unfold rngD
  rw [List.range'_eq_map_range, List.map_map]
  apply List.map_congr_left
  intro k _
  rfl
theorem rng_up1 (m : Nat) : rngD 1 m = (List.range' 1 m).map Nd := rng_up 1 m
theorem Good.pos {l : List Spot} (g : Good l) (i : Nat) (h : i < l.length) : 0 < (spotAt l i).v.den := (g.mem h).2.pos
theorem segV_mem {l : List Spot} (g : Good l) (a k : Nat) : ∀ x ∈ segV l a k, Bd 90 x := fun x hx => by
  unfold segV at hx
  obtain ⟨p, hp, rfl⟩ := List.mem_map.mp hx
  exact g.bd p (List.mem_of_mem_take (List.mem_of_mem_drop hp))
section
variable {P : Program} {w : World} {K : PySem.W.Frag} {mg : Str → Option Value} {base : Heap}
abbrev FvFits (P : Program) (w : World) (K : PySem.W.Frag) (mg : Str → Option Value) (base : Heap) : Prop := Fv P w K mg base CX0 4 "fits" ["values", "bound"] (PureP p_fits)
abbrev s_steps : Stmt := top 22
abbrev n_steps : List Str := ["points", "bound", "found", "begin", "k", "time", "value"]
theorem sc_steps : FnScope n_steps ["points", "bound"] (defScope s_steps) := ⟨rfl, rfl, rfl, by decide +kernel, rfl, by decide +kernel, by decide +kernel⟩
abbrev segsD (l : List Seg) : D := .lst (l.map fun s => pairD (prS s))
def p_steps : List D → D → Prop := fun ds d => ∃ (l : List Spot) (b : Frac), ds = [Ld l, Fd b] ∧ Good l ∧ 0 < l.length ∧ Bd 90 b ∧ d = segsD (Vatmse.steps l b)
theorem f_steps (F : Fa K mg "steps" s_steps) (hfits : FvFits P w K mg base) (nlen : mg "len" = none) (nrange : mg "range" = none) : Fv P w K mg base CX0 5 "steps" ["points", "bound"] (PureP p_steps) := by
  refine fa_fv F (fun _ _ _ _ _ _ us hl => match us, hl with | [_, _], _ => rfl) fun f fd F => fn0 F sc_steps (fun Γ r ⟨ds, d, e, _, l, b, e2, _⟩ => by subst e; subst e2; rfl) ?_
  have nd := sc_steps.nd
  rintro cdv A outer s H E _ _ hr ⟨_, _, rfl, rfl, l, b, rfl, g, h0, hb, rfl⟩
  have hlen := g.len
  have hz : sizeLine = 16777216 := sizeLine_eq
  refine ss_cons (ssN 2 nd (w_lst (d_nil ⟨len_le, fun pfound => ?_⟩)))
  refine ss_cons (ss 3 nd (w_int ?_))
  refine ss_cons (s_for (js := [4]) .never rfl (i_range2 rfl nrange (d_cons (w_int (d_cons (w_callB rfl nlen boot_len (d_cons (wv 0 rfl (d_nil ⟨_, c_lenL, (d_nil ⟨_, _, rfl, by rw [List.length_map]; omega, ?_⟩)⟩)))))))))
  rw [show (((l.map Sd).length : Int) - 1).toNat = l.length - 1 by rw [List.length_map]; omega, rng_up1]
  refine for_ind Nd (fun (t : List (Nat × Nat) × Nat × Sl) => [.im (Ld l), .im (Fd b), .own pfound (.lst (t.1.map pairD)), .im (Nd t.2.1), t.2.2, .un, .un])
    (fun t rest => ∃ k, rest = List.range' k (l.length - k) ∧ t.2.1 < k ∧ k ≤ l.length ∧ t.1.length ≤ t.2.1 ∧ t.1 ++ (stepsAt l b t.2.1 k).map prS = (Vatmse.steps l b).map prS) ?_ ?_ _ ([], 0, .un) ⟨1, rfl, Nat.one_pos, h0, Nat.le_refl _, by rw [steps_at h0]; rfl⟩
  · rintro ⟨acc, a, sl⟩ x rest ⟨k, e1, h1, h2, h3, h4⟩ nx hn
    have h1 : a < k := h1
    have h3 : acc.length ≤ a := h3
    have h4 : acc ++ (stepsAt l b a k).map prS = (Vatmse.steps l b).map prS := h4
    obtain ⟨m, hm⟩ : ∃ m, l.length - k = m + 1 := ⟨l.length - k - 1, by
      have : (List.range' k (l.length - k)).length = l.length - k := List.length_range'
      rw [← e1] at this; simp at this; omega⟩
    rw [hm, List.range'_succ] at e1
    obtain ⟨rfl, rfl⟩ := List.cons.inj e1
    have hx : x < l.length := by omega
    have cut : cutL (l.map Sd) (some (a : Nat)) (some ((x : Int) + 1)) = ((l.take (x + 1)).drop a).map Sd := by
      rw [show (x : Int) + 1 = ((x + 1 : Nat) : Int) by omega, cut_nat _ (by omega) (by rw [List.length_map]; omega), ← List.map_take, ← List.map_drop]
    refine (gn 4 nd ?_)
    refine ss_one (s_if (t_not (t_val (w_callP hfits (hr.mono (by decide)) rfl pass (d_cons (w_new (w_lc [("time", 5), ("value", 6)] [5, 6] Sd (fun _ => true) (fun p => Fd p.v) rfl nd (blkOk_by (by show blkC n_steps (defScope s_steps) _ _ = true; decide +kernel)) (by decide) (by decide)
      (i_list (w_slice (wv 0 rfl (wv 3 rfl ⟨_, rfl, (w_bin (wv 4 rfl (w_int ⟨_, o_addI, _, rfl, _, sl2_lst, _, rfl, (l.take (x + 1)).drop a, cut, ?_, (d_cons (wv 1 rfl (d_nil ⟨.bl (fitsB b (spotAt l a).v (segV l a x)), ?_, ⟨_, rfl, ⟨fun hT => ?_, fun hF => ?_⟩⟩⟩))), ?_⟩)))⟩)))))))))))
    · exact Nat.lt_of_le_of_lt (by rw [List.length_drop, List.length_take]; omega : _ ≤ 60) (by omega)
    · refine ⟨(spotAt l a).v, segV l a x, b, ?_, fun y hy => ?_, hb, rfl⟩
      · rw [List.filter_eq_self.mpr (fun _ _ => rfl), cut_seg (by omega) hx]
        show [D.lst (Fd _ :: List.map _ _), _] = [D.lst (Fd _ :: List.map Fd (segV l a x)), _]
        unfold segV
        rw [List.map_map]; rfl
      · rcases List.mem_cons.mp hy with e | hy
        · subst e; exact (g.mem (by omega)).2
        · exact segV_mem g a x y hy
    · have c : VatmsBase.less (VatmsBase.plus b b) (VatmsBase.minus (hiS l a x) (loS l a x)) = true := by
        have : (!(!VatmsBase.less (VatmsBase.plus b b) (VatmsBase.minus (hiS l a x) (loS l a x)))) = true := hT
        rw [Bool.not_not] at this; exact this
      rw [stepsAt_step h1 hx, if_pos c] at h4
      refine ss_cons (s_append 2 rfl (.inl rfl) rfl (w_tup (d_cons (wv 3 rfl (d_cons (w_bin (wv 4 rfl (w_int ⟨_, o_subI, (d_nil ⟨len_le, ⟨_, rfl, by rw [List.length_map]; omega, ?_⟩⟩)⟩))))))))
      refine ss_one (ss 3 nd (wv 4 rfl ?_))
      have := hn (acc ++ [(a, x - 1)], x, .im (Nd x)) ⟨x + 1, by rw [show l.length - (x + 1) = m by omega], Nat.lt_succ_self x, by omega, by rw [List.length_append]; show acc.length + 1 ≤ x; omega, ?_⟩
      · show nx [_, _, .own pfound (.lst (acc.map pairD ++ [.tup [Nd a, .int ((x : Int) - 1)]])), _, _, _, _]
        rw [show (x : Int) - 1 = ((x - 1 : Nat) : Int) by omega]
        rw [List.map_append] at this
        exact this
      · rw [← h4]
        show (acc ++ [(a, x - 1)]) ++ _ = acc ++ ((a, x - 1) :: _)
        rw [List.append_assoc]; rfl
    · have c : ¬ VatmsBase.less (VatmsBase.plus b b) (VatmsBase.minus (hiS l a x) (loS l a x)) = true := by
        have : (!(!VatmsBase.less (VatmsBase.plus b b) (VatmsBase.minus (hiS l a x) (loS l a x)))) = false := hF
        rw [Bool.not_not] at this; rw [this]; decide
      rw [stepsAt_step h1 hx, if_neg c] at h4
      exact ss_nil (hn (acc, a, .im (Nd x)) ⟨x + 1, by rw [show l.length - (x + 1) = m by omega], by show a < x + 1; omega, by omega, h3, h4⟩)
    · intro p hp
      exact ⟨_, fun s H0 C cl fp => g1_tup rfl (gs_cons (gn 5 nd (gs_cons (gn 6 nd (gs_nil rfl))))), fun s H0 C cl fp => ⟨rfl, rfl⟩, fun _ s H0 C cl fp => wv 6 rfl rfl⟩
  · rintro ⟨acc, a, sl⟩ ⟨k, e1, h1, h2, h3, h4⟩
    have h1 : a < k := h1
    have h3 : acc.length ≤ a := h3
    have hk : k = l.length := by
      have : (List.range' k (l.length - k)).length = l.length - k := List.length_range'
      rw [← e1] at this; simp at this; omega
    subst hk
    rw [stepsAt_end] at h4
    refine ss_one (s_ret (w_new (w_binN (wg 2 rfl (w_new (w_lst (d_cons (w_tup (d_cons (wv 3 rfl (d_cons (w_bin (w_callB rfl nlen boot_len (d_cons (wv 0 rfl (d_nil ⟨_, c_lenL, (w_int ⟨_, o_subI, (d_nil ⟨len_le, (d_nil ⟨len_le, ⟨_, o_catL (by rw [List.length_map]; show acc.length + 1 ≤ _; omega), ?_⟩⟩)⟩)⟩)⟩))))))))))))))))
    refine fin_eq ?_
    show D.lst (acc.map pairD ++ [.tup [Nd a, .int (((l.map Sd).length : Int) - 1)]]) = D.lst _
    rw [show (Vatmse.steps l b).map (fun s => pairD (prS s)) = ((Vatmse.steps l b).map prS).map pairD by rw [List.map_map]; rfl, ← h4, List.map_append, List.length_map, show (l.length : Int) - 1 = ((l.length - 1 : Nat) : Int) by omega]
    rfl
/-! ### step_value -/
abbrev s_step_value : Stmt := top 23
abbrev n_step_value : List Str := ["points", "step", "values", "time", "value"]
theorem sc_step_value : FnScope n_step_value ["points", "step"] (defScope s_step_value) := ⟨rfl, rfl, rfl, by decide +kernel, rfl, by decide +kernel, by decide +kernel⟩
def p_step_value : List D → D → Prop := fun ds d => ∃ (l : List Spot) (a k : Nat), ds = [Ld l, pairD (a, k)] ∧ Good l ∧ a ≤ k ∧ k < l.length ∧ d = Fd (VatmsBase.times (VatmsBase.plus (loS l a k) (hiS l a k)) (frac 1 2))
theorem f_step_value (F : Fa K mg "step_value" s_step_value) (hfraction : FvFraction P w K mg base) (hplus : FvPlus P w K mg base) (htimes : FvTimes P w K mg base) (hleast_of : FvBest P w K mg base "least_of" VatmsBase.least) (hgreatest_of : FvBest P w K mg base "greatest_of" VatmsBase.greatest) : Fv P w K mg base CX0 4 "step_value" ["points", "step"] (PureP p_step_value) := by
  refine fa_fv F (fun _ _ _ _ _ _ us hl => match us, hl with | [_, _], _ => rfl) fun f fd F => fn0 F sc_step_value (fun Γ r ⟨ds, d, e, _, l, a, k, e2, _⟩ => by subst e; subst e2; rfl) ?_
  have nd := sc_step_value.nd
  rintro cdv A outer s H E _ _ hr ⟨_, _, rfl, rfl, l, a, x, rfl, g, h1, hx, rfl⟩
  have hlen := g.len
  have hz : sizeLine = 16777216 := sizeLine_eq
  have cut : cutL (l.map Sd) (some (a : Nat)) (some ((x : Int) + 1)) = ((l.take (x + 1)).drop a).map Sd := by
    rw [show (x : Int) + 1 = ((x + 1 : Nat) : Int) by omega, cut_nat _ (by omega) (by rw [List.length_map]; omega), ← List.map_take, ← List.map_drop]
  have ev : (((l.take (x + 1)).drop a).filter fun _ => true).map (fun p => Fd p.v) = ((spotAt l a).v :: segV l a x).map Fd := by
    rw [List.filter_eq_self.mpr (fun _ _ => rfl), cut_seg h1 hx]
    show Fd _ :: List.map _ _ = Fd _ :: List.map Fd (segV l a x)
    unfold segV
    rw [List.map_map]; rfl
  have ha := (g.mem (show a < l.length by omega)).2
  have hv := segV_mem g a x
  have bl := foldl_least_bd (segV l a x) _ ha hv
  have bg := foldl_greatest_bd (segV l a x) _ ha hv
  have b2 : Bd 2 (frac 1 2) := ⟨by decide, by decide, by decide⟩
  refine ss_cons (ssLc 2 [("time", 3), ("value", 4)] [3, 4] Sd (fun x => true) (fun p => Fd p.v) nd (blkOk_by (by show blkC n_step_value (defScope s_step_value) _ _ = true; decide +kernel)) (i_list (w_slice (wv 0 rfl (w_ix (wv 1 rfl (w_int ⟨_, (ix2_tup rfl), ⟨_, rfl, (w_bin (w_ix (wv 1 rfl (w_int ⟨_, (ix2_tup rfl), (w_int ⟨_, o_addI, ⟨_, rfl, ⟨_, sl2_lst, ⟨_, rfl, ⟨(l.take (x + 1)).drop a, cut, ?_, fun pvalues => ?_, ?_⟩⟩⟩⟩⟩)⟩))))⟩⟩)))))))
  · exact Nat.lt_of_le_of_lt (by rw [List.length_drop, List.length_take]; omega : _ ≤ 60) (by omega)
  · rw [ev]
    refine ss_one (s_ret (w_callP htimes (hr.mono (by decide)) rfl pass (d_cons (w_callP hplus (hr.mono (by decide)) rfl pass (d_cons (w_see 2 rfl (w_callP hleast_of (hr.mono (by decide)) rfl pass (d_cons (wv 2 rfl (d_nil ⟨_, ⟨_, _, 90, rfl, ha, hv, by decide, by decide, rfl⟩, fl_F, (d_cons (w_see 2 rfl (w_callP hgreatest_of (hr.mono (by decide)) rfl pass (d_cons (wv 2 rfl (d_nil ⟨_, ⟨_, _, 90, rfl, ha, hv, by decide, by decide, rfl⟩, fl_F, (d_nil ⟨_, ⟨_, _, 90, 90, rfl, bl, bg, by decide, by decide, by decide, rfl⟩, (d_cons (w_callP hfraction (hr.mono (by decide)) rfl pass (d_cons (w_int (d_cons (w_int (d_nil ⟨_, ⟨1, 2, rfl, by decide, Nat.lt_of_lt_of_le (show 2 < 2 ^ 2 by decide) (Nat.pow_le_pow_right (by decide) (by decide)), rfl⟩, (d_nil ⟨_, ⟨_, _, _, 2, rfl, plus_bd bl bg, b2, by decide, by decide, by decide, rfl⟩, ?_⟩)⟩)))))))⟩)⟩))))))⟩))))))))))
    exact fin_pure
  · intro p hp
    exact ⟨_, fun s H0 C cl fp => g1_tup rfl (gs_cons (gn 3 nd (gs_cons (gn 4 nd (gs_nil rfl))))), fun s H0 C cl fp => ⟨rfl, rfl⟩, fun _ s H0 C cl fp => wv 4 rfl rfl⟩
/-! ### pairs_apart -/
abbrev s_pairs_apart : Stmt := top 24
abbrev n_pairs_apart : List Str := ["points", "bound", "found", "some", "step", "behind", "first", "some_far", "k"]
theorem sc_pairs_apart : FnScope n_pairs_apart ["points", "bound"] (defScope s_pairs_apart) := ⟨rfl, rfl, rfl, by decide +kernel, rfl, by decide +kernel, by decide +kernel⟩
def p_pairs_apart : List D → D → Prop := fun ds d => ∃ (l : List Spot) (b : Frac), ds = [Ld l, Fd b] ∧ Good l ∧ 0 < l.length ∧ Bd 90 b ∧ 0 ≤ b.num ∧ d = .lst ((Vatmse.apartOf l b).map pairD)
theorem f_pairs_apart (F : Fa K mg "pairs_apart" s_pairs_apart) (hsteps : Fv P w K mg base CX0 5 "steps" ["points", "bound"] (PureP p_steps)) (hfits : FvFits P w K mg base) (nzip : mg "zip" = none) (nrange : mg "range" = none) : Fv P w K mg base CX0 6 "pairs_apart" ["points", "bound"] (PureP p_pairs_apart) := by
  refine fa_fv F (fun _ _ _ _ _ _ us hl => match us, hl with | [_, _], _ => rfl) fun f fd F => fn0 F sc_pairs_apart (fun Γ r ⟨ds, d, e, _, l, b, e2, _⟩ => by subst e; subst e2; rfl) ?_
  have nd := sc_pairs_apart.nd
  rintro cdv A outer s H E _ _ hr ⟨_, _, rfl, rfl, l, b, rfl, g, h0, hb, b0, rfl⟩
  have hlen := g.len
  have hz : sizeLine = 16777216 := sizeLine_eq
  have SS := steps_ok h0 hb.pos b0 g.pos
  have SN := SS.next
  have SL : (Vatmse.steps l b).length ≤ l.length := by
    cases e : Vatmse.steps l b with
    | nil => simp
    | cons s r =>
      have := SS.len s (by rw [e]; rfl)
      rw [e] at this; omega
  refine ss_cons (ssN 2 nd (w_lst (d_nil ⟨len_le, fun pfound => ?_⟩)))
  refine ss_cons (ss 3 nd (w_callP hsteps (hr.mono (by decide)) rfl pass (d_cons (wv 0 rfl (d_cons (wv 1 rfl (d_nil ⟨_, ⟨l, b, rfl, g, h0, hb, rfl⟩, ?_⟩)))))))
  let far := fun (x : Seg × Seg) k => VatmsBase.less (VatmsBase.plus b b) (VatmsBase.absOf (VatmsBase.minus (spotAt l k).v (spotAt l x.2.a).v))
  let q := fun (x : Seg × Seg) => (((List.range l.length).find? fun k => decide (x.1.a ≤ k ∧ k ≤ x.1.b) && far x k).getD x.1.a, x.2.a)
  refine ss_cons (s_for (js := [4, 5]) .never rfl (i_zip rfl nzip (d_cons (wv 3 rfl (d_cons (w_slice (wv 3 rfl (w_int ⟨_, rfl, ⟨_, sl2_lst, (d_nil ⟨_, _, rfl, ?_⟩)⟩⟩))))))))
  rw [cut_drop, ← List.map_drop, show zipD ((Vatmse.steps l b).map fun s => pairD (prS s)) (((Vatmse.steps l b).drop 1).map fun s => pairD (prS s)) = ((Vatmse.steps l b).zip ((Vatmse.steps l b).drop 1)).map fun x => D.tup [pairD (prS x.1), pairD (prS x.2)] by unfold zipD; rw [List.zip_map, List.map_map]; rfl]
  refine for_ind (fun (x : Seg × Seg) => D.tup [pairD (prS x.1), pairD (prS x.2)]) (fun (t : List (Nat × Nat) × Sl × Sl × Sl × Sl) => [.im (Ld l), .im (Fd b), .own pfound (.lst (t.1.map pairD)), .im (segsD (Vatmse.steps l b)), t.2.1, t.2.2.1, t.2.2.2.1, t.2.2.2.2, .un])
    (fun t rest => (∀ x ∈ rest, SegOk l b x.1 ∧ SegOk l b x.2 ∧ SegNext l b x.1 x.2) ∧ t.1.length + rest.length ≤ 60 ∧ t.1 ++ rest.map q = Vatmse.apartOf l b) ?_ ?_ _ ([], .un, .un, .un, .un) ⟨SN, by show 0 + (List.zip _ _).length ≤ 60; rw [List.length_zip, List.length_drop]; omega, rfl⟩
  · rintro ⟨acc, s1, s2, s3, s4⟩ x rest ⟨h1, h2, h3⟩ nx hn
    obtain ⟨o1, o2, nx'⟩ := h1 x List.mem_cons_self
    have h2 : acc.length + (rest.length + 1) ≤ 60 := h2
    have a2l : x.2.a < l.length := Nat.lt_of_le_of_lt o2.le o2.lt
    have b1l := o1.lt
    have hab := o1.le
    have ff := far_find hab b1l (far x)
    obtain ⟨k0, k1, k2, k3⟩ := some_far hb.pos b0 g.pos o1 nx' a2l
    obtain ⟨j, hj⟩ : ∃ j, ((List.range' x.1.a (x.1.b + 1 - x.1.a)).filter (far x)).head? = some j := by
      cases e : (List.range' x.1.a (x.1.b + 1 - x.1.a)).filter (far x) with
      | nil =>
        rw [List.filter_eq_nil_iff] at e
        exact absurd k3 (e k0 (List.mem_range'_1.mpr ⟨k1, by omega⟩))
      | cons j r => exact ⟨j, rfl⟩
    have eq : q x = (j, x.2.a) := by show (Option.getD _ _, _) = _; rw [← ff, hj]; rfl
    refine (g1_tup rfl (gs_cons (gn 4 nd (gs_cons (gn 5 nd (gs_nil ?_))))))
    refine ss_cons (ss 6 nd (w_ix (w_ix (wv 0 rfl (w_ix (wv 5 rfl (w_int ⟨_, (ix2_tup rfl), ⟨_, (ix2_lst (ld_at a2l)), (w_int ⟨_, (ix2_tup rfl), ?_⟩)⟩⟩)))))))
    refine ss_cons (ssLc 7 [("k", 8)] [8] Nd (far x) Nd nd (blkOk_by (by show blkC n_pairs_apart (defScope s_pairs_apart) _ _ = true; decide +kernel)) (i_range2 rfl nrange (d_cons (w_ix (wv 4 rfl (w_int ⟨_, (ix2_tup rfl), (d_cons (w_bin (w_ix (wv 4 rfl (w_int ⟨_, (ix2_tup rfl), (w_int ⟨_, o_addI, (d_nil ⟨_, _, rfl, ?_, ⟨List.range' x.1.a (x.1.b + 1 - x.1.a), ?_, ?_, fun psome_far => ?_, ?_⟩⟩)⟩)⟩)))))⟩))))))
    · show (-(2 ^ 62) ≤ ((x.1.a : Nat) : Int) ∧ ((x.1.a : Nat) : Int) < 2 ^ 62 ∧ -(2 ^ 62) ≤ ((x.1.b : Nat) : Int) + 1 ∧ ((x.1.b : Nat) : Int) + 1 < 2 ^ 62)
      omega
    · show rngD ((x.1.a : Nat) : Int) ((((x.1.b : Nat) : Int) + 1) - ((x.1.a : Nat) : Int)).toNat = _
      rw [show ((((x.1.b : Nat) : Int) + 1) - ((x.1.a : Nat) : Int)).toNat = x.1.b + 1 - x.1.a by omega, rng_up]
    · rw [List.length_range']; omega
    · have l0 : atI (((List.range' x.1.a (x.1.b + 1 - x.1.a)).filter (far x)).map Nd) 0 = some (Nd j) := atI_nat (j := 0) (by rw [List.getElem?_map, ← List.head?_eq_getElem?, hj]; rfl)
      refine ss_one (s_append 2 rfl (.inl rfl) rfl (w_see 7 rfl (w_tup (d_cons (w_ix (wv 7 rfl (w_int ⟨_, (ix2_lst l0), (d_cons (w_ix (wv 5 rfl (w_int ⟨_, (ix2_tup rfl), (d_nil ⟨len_le, fl_pair, ⟨_, rfl, by rw [List.length_map]; omega, ?_⟩⟩)⟩))))⟩)))))))
      have := hn (acc ++ [(j, x.2.a)], .im (pairD (prS x.1)), .im (pairD (prS x.2)), .im (Fd (spotAt l x.2.a).v), .own psome_far (.lst (((List.range' x.1.a (x.1.b + 1 - x.1.a)).filter (far x)).map Nd))) ⟨fun y hy => h1 y (List.mem_cons_of_mem x hy), by show (acc ++ [_]).length + rest.length ≤ 60; rw [List.length_append]; show acc.length + 1 + rest.length ≤ 60; omega, by
        rw [← h3, List.map_cons, eq]
        show (acc ++ [_]) ++ _ = acc ++ _ :: _
        rw [List.append_assoc]; rfl⟩
      rw [List.map_append] at this
      exact this
    · intro k hk
      have hk := List.mem_range'_1.mp hk
      have hkl : k < l.length := by omega
      have vk := (g.mem hkl).2
      have va := (g.mem a2l).2
      refine ⟨_, fun s H0 C cl fp => (gn 8 nd rfl), fun s H0 C cl fp => (t_not (t_val (w_callP hfits (hr.mono (by decide)) rfl pass (d_cons (w_new (w_lst (d_cons (w_ix (w_ix (wv 0 rfl (wv 8 rfl ⟨_, (ix2_lst (ld_at hkl)), (w_int ⟨_, (ix2_tup rfl), (d_cons (wv 6 rfl (d_nil ⟨len_le, (d_cons (wv 1 rfl (d_nil ⟨_, ⟨(spotAt l k).v, [(spotAt l x.2.a).v], b, rfl, fun y hy => ?_, hb, rfl⟩, ⟨_, rfl, ⟨?_, rfl⟩⟩⟩)))⟩)))⟩)⟩))))))))))), fun _ s H0 C cl fp => (wv 8 rfl rfl)⟩
      · rcases List.mem_cons.mp hy with e | hy
        · subst e; exact vk
        · have := List.mem_singleton.mp hy; subst this; exact va
      · show (!fitsB b (spotAt l k).v [(spotAt l x.2.a).v]) = far x k
        unfold fitsB
        rw [Bool.not_not]
        exact two_apart (pos_plus hb.pos hb.pos) vk.pos va.pos
  · rintro ⟨acc, s1, s2, s3, s4⟩ ⟨_, _, h3⟩
    refine ss_one (s_ret (wg 2 rfl (fin_eq ?_)))
    rw [← h3]
    show D.lst (acc.map pairD) = D.lst ((acc ++ []).map pairD)
    rw [List.append_nil]
end
end Fp

set_option Elab.async false
set_option linter.all false
set_option maxRecDepth 100000
set_option maxHeartbeats 2000000
namespace Fp
open PySem PySem.Spec PyProof.Rows L2 Dl
open VatmsBase (Frac frac whole)
open Vatmse (Spot spotAt Store runsBy storeOf endOf askBy askStore Totals totals)
abbrev VRun := Vatmse.Run
def runD (r : VRun) : D := .tup [.int r.dt, Fd r.dv, Nd r.n]
theorem pqF (f : Frac) : Pq 1 (Fd f) (.tuple [.int f.num, .int f.den]) := .tup (.cons (.int _ _) (.cons (.int _ _) .nil))
theorem pqRun (r : VRun) : Pq 2 (runD r) (.tuple [.int r.dt, .tuple [.int r.dv.num, .int r.dv.den], .int r.n]) := .tup (.cons (.int _ _) (.cons (pqF _) (.cons (.int _ _) .nil)))
theorem o_eqTV {X : Cx} {a b : Int} {f g : Frac} (hu : X.A.units + 64 < cLine) : Op2 X (compareOp .Eq) (.tup [.int a, Fd f]) (.tup [.int b, Fd g]) (.bl (decide (a = b ∧ f = g))) := by
  have z := o_eqD (X := X) (d := .tup [.int a, Fd f]) (e := .tup [.int b, Fd g]) hu (.tup (.cons (.int 1 _) (.cons (pqF f) .nil))) (.tup (.cons (.int 1 _) (.cons (pqF g) .nil))) (by decide) (by decide)
  have e : PyData.eqv (.tuple [.int a, .tuple [.int f.num, .int f.den]]) (.tuple [.int b, .tuple [.int g.num, .int g.den]]) = decide (a = b ∧ f = g) := by
    cases f; cases g
    rw [Bool.eq_iff_iff]
    simp [PyData.eqv, PyData.eqvAll, Int.ofNat_inj]
  rw [e] at z
  exact z
theorem fl_run {a : Int} {f : Frac} {n : Int} : Fl (.tup [.int a, Fd f, .int n]) := .tup (.cons (.int _) (.cons fl_F (.cons (.int _) .nil)))
section
variable {P : Program} {w : World} {K : PySem.W.Frag} {mg : Str → Option Value} {base : Heap}
abbrev s_runs : Stmt := top 25
abbrev n_runs : List Str := ["points", "found", "one", "other", "later", "more"]
theorem sc_runs : FnScope n_runs ["points"] (defScope s_runs) := ⟨rfl, rfl, rfl, by decide +kernel, rfl, by decide +kernel, by decide +kernel⟩
def p_runs : List D → D → Prop := fun ds d => ∃ (p : Spot) (l : List Spot), ds = [Ld (p :: l)] ∧ Good (p :: l) ∧ d = .lst ((runsBy p none l).map runD)
theorem zip_cons (p : Spot) (l : List Spot) : zipD ((p :: l).map Sd) (((p :: l).drop 1).map Sd) = ((p :: l).zip l).map fun x => D.tup [Sd x.1, Sd x.2] := by
  unfold zipD
  rw [List.zip_map, List.map_map]; rfl
theorem runs_len : ∀ (l : List Spot) (p : Spot) (o : Option VRun), (runsBy p o l).length ≤ l.length + o.toList.length
  | [], _, none => Nat.le_refl _
  | [], _, some r => Nat.le_refl _
  | q :: l, p, none => by
    show (runsBy q _ l).length ≤ _
    have := runs_len l q (some ⟨q.t - p.t, VatmsBase.minus q.v p.v, 1⟩)
    simpa using this
  | q :: l, p, some r => by
    show (if r.dt = q.t - p.t ∧ r.dv = VatmsBase.minus q.v p.v then runsBy q (some { r with n := r.n + 1 }) l else r :: runsBy q (some ⟨q.t - p.t, VatmsBase.minus q.v p.v, 1⟩) l).length ≤ _
    split
    · have := runs_len l q (some { r with n := r.n + 1 })
      simp at this ⊢; omega
    · have := runs_len l q (some ⟨q.t - p.t, VatmsBase.minus q.v p.v, 1⟩)
      simp at this ⊢; omega
theorem f_runs (F : Fa K mg "runs" s_runs) (hless : FvLess P w K mg base) (nzip : mg "zip" = none) : Fv P w K mg base CX0 4 "runs" ["points"] (PureP p_runs) := by
  refine fa_fv F (fun _ _ _ _ _ _ us hl => match us, hl with | [_], _ => rfl) fun f fd F => fn0 F sc_runs (fun Γ r ⟨ds, d, e, _, p, l, e2, _⟩ => by subst e; subst e2; rfl) ?_
  have nd := sc_runs.nd
  rintro cdv A outer s H E _ _ hr ⟨_, _, rfl, rfl, p, l, rfl, g, rfl⟩
  have hlen := g.len
  have hlen : l.length + 1 ≤ 60 := hlen
  have hz : sizeLine = 16777216 := sizeLine_eq
  refine ss_cons (ssN 1 nd (w_lst (d_nil ⟨len_le, fun pfound => ?_⟩)))
  refine ss_cons (s_for (js := [2, 3]) .never rfl (i_zip rfl nzip (d_cons (wv 0 rfl (d_cons (w_slice (wv 0 rfl (w_int ⟨_, rfl, ⟨_, sl2_lst, (d_nil ⟨_, _, rfl, ?_⟩)⟩⟩))))))))
  rw [cut_drop, ← List.map_drop, zip_cons]
  refine for_ind (fun (x : Spot × Spot) => D.tup [Sd x.1, Sd x.2]) (fun (t : List VRun × Sl × Sl × Sl × Sl) => [.im (Ld (p :: l)), .own pfound (.lst (t.1.map runD)), t.2.1, t.2.2.1, t.2.2.2.1, t.2.2.2.2])
    (fun t rest => ∃ acc o q m, (o = none → acc = []) ∧ t.1 = acc ++ Option.toList o ∧ rest = (q :: m).zip m ∧ t.1.length + m.length ≤ 60 ∧ (∀ z ∈ q :: m, z.t.natAbs < 2 ^ 38 ∧ Bd 90 z.v) ∧ acc ++ runsBy q o m = runsBy p none l) ?_ ?_ _ ([], .un, .un, .un, .un) ⟨[], none, p, l, fun _ => rfl, rfl, rfl, by show 0 + l.length ≤ 60; omega, fun z hz => ⟨g.tm z hz, g.bd z hz⟩, rfl⟩
  · rintro ⟨fnd, s1, s2, s3, s4⟩ x rest ⟨acc, o, q, m, h0, e1, e2, h1, h2, h3⟩ nx hn
    have e1 : fnd = acc ++ o.toList := e1
    have h1 : fnd.length + m.length ≤ 60 := h1
    cases m with
    | nil => cases e2
    | cons z m =>
      rw [List.zip_cons_cons] at e2
      obtain ⟨rfl, rfl⟩ := List.cons.inj e2
      have hq := h2 q List.mem_cons_self
      have hzz := h2 z (List.mem_cons_of_mem _ List.mem_cons_self)
      have h1 : fnd.length + (m.length + 1) ≤ 60 := h1
      refine (g1_tup rfl (gs_cons (gn 2 nd (gs_cons (gn 3 nd (gs_nil ?_))))))
      refine ss_cons (s_par 4 5 rfl nd rfl rfl (by decide) rfl rfl (d_cons (w_bin (w_ix (wv 3 rfl (w_int ⟨_, (ix2_tup rfl), (w_ix (wv 2 rfl (w_int ⟨_, (ix2_tup rfl), ⟨_, o_subI, (d_cons (w_callP hless (hr.mono (by decide)) rfl pass (d_cons (w_ix (wv 3 rfl (w_int ⟨_, (ix2_tup rfl), (d_cons (w_ix (wv 2 rfl (w_int ⟨_, (ix2_tup rfl), (d_nil ⟨_, ⟨z.v, q.v, 90, 90, rfl, hzz.2, hq.2, by decide, by decide, by decide, rfl⟩, (d_nil ⟨_, _, rfl, ?_⟩)⟩)⟩))))⟩))))))⟩⟩)))⟩))))))
      have next : ∀ r : VRun, fnd = acc ++ [r] → r.dt = z.t - q.t ∧ r.dv = VatmsBase.minus z.v q.v → nx [.im (Ld (p :: l)), .own pfound (.lst ((fnd.map runD).set acc.length (runD { r with n := r.n + 1 }))), .im (Sd q), .im (Sd z), .im (.int (z.t - q.t)), .im (Fd (VatmsBase.minus z.v q.v))] := fun r er c => by
        have := hn (acc ++ [{ r with n := r.n + 1 }], .im (Sd q), .im (Sd z), .im (.int (z.t - q.t)), .im (Fd (VatmsBase.minus z.v q.v))) ⟨acc, some { r with n := r.n + 1 }, z, m, (fun z => nomatch z), rfl, rfl, by show (acc ++ [_]).length + m.length ≤ 60; rw [er] at h1; simp at h1 ⊢; omega, fun y hy => h2 y (List.mem_cons_of_mem _ hy), ?_⟩
        · have e : (fnd.map runD).set acc.length (runD { r with n := r.n + 1 }) = (acc ++ [{ r with n := r.n + 1 }]).map runD := by
            rw [er, List.map_append, List.map_append]
            simp
          rw [e]; exact this
        · rw [← h3]
          cases o with
          | none => exfalso; rw [er] at e1; simp at e1
          | some r' =>
            have : r' = r := by rw [er] at e1; simp at e1; exact e1.symm
            subst this
            show _ = acc ++ (if r'.dt = z.t - q.t ∧ r'.dv = VatmsBase.minus z.v q.v then _ else _)
            rw [if_pos c]
      have fresh : (∀ r : VRun, fnd = acc ++ [r] → ¬ (r.dt = z.t - q.t ∧ r.dv = VatmsBase.minus z.v q.v)) → nx [.im (Ld (p :: l)), .own pfound (.lst (fnd.map runD ++ [.tup [.int (z.t - q.t), Fd (VatmsBase.minus z.v q.v), .int 1]])), .im (Sd q), .im (Sd z), .im (.int (z.t - q.t)), .im (Fd (VatmsBase.minus z.v q.v))] := fun c => by
        have := hn (fnd ++ [⟨z.t - q.t, VatmsBase.minus z.v q.v, 1⟩], .im (Sd q), .im (Sd z), .im (.int (z.t - q.t)), .im (Fd (VatmsBase.minus z.v q.v))) ⟨fnd, some ⟨z.t - q.t, VatmsBase.minus z.v q.v, 1⟩, z, m, (fun z => nomatch z), rfl, rfl, by show (fnd ++ [_]).length + m.length ≤ 60; simp; omega, fun y hy => h2 y (List.mem_cons_of_mem _ hy), ?_⟩
        · rw [List.map_append] at this; exact this
        · rw [← h3]
          cases o with
          | none => rw [e1]; show (acc ++ []) ++ _ = _; rw [List.append_nil]; rfl
          | some r' =>
            show _ = acc ++ (if r'.dt = z.t - q.t ∧ r'.dv = VatmsBase.minus z.v q.v then _ else _)
            rw [if_neg (c r' e1), e1]
            show (acc ++ [r']) ++ _ = _
            rw [List.append_assoc]; rfl
      have pq : PqA 2 (fnd.map runD) (fnd.map fun r => .tuple [.int r.dt, .tuple [.int r.dv.num, .int r.dv.den], .int r.n]) := PqA.map fun r _ => pqRun r
      refine ss_one (s_if (t_see 1 rfl (t_bool (tw_and (t_cmp (wv 1 rfl (w_new (w_lst (d_nil ⟨len_le, ⟨_, (o_neNil hr.units pq (by decide)), ⟨fun hF => ⟨fun hT => (Bool.false_ne_true hT).elim, fun _ => ?_⟩, fun hT => (tw_and1 (t_cmp (w_slice (w_ix (wv 1 rfl (w_neg (w_int ⟨_, rfl, ⟨runD ((fnd.getLast?).getD ⟨0, whole 0, 0⟩), ix2_lst (atL ?_), (w_int ⟨_, rfl, ⟨_, (sl2_tup (show ¬ (HT.sIx 3 0 none = 0 ∧ HT.sIx 3 3 (some 2) = 3) by decide)), (w_tup (d_cons (wv 4 rfl (d_cons (wv 5 rfl (d_nil ⟨len_le, ⟨_, o_eqTV hr.units, ⟨fun hT => ?_, fun hF => ?_⟩⟩⟩))))))⟩⟩)⟩⟩)))))))⟩⟩⟩)))))))))
      · have e0 : fnd = [] := by simpa using hF
        refine ss_one (s_append 1 rfl (.inl rfl) rfl (w_tup (d_cons (wv 4 rfl (d_cons (wv 5 rfl (d_cons (w_int (d_nil ⟨len_le, ⟨_, rfl, by rw [List.length_map]; omega, fresh fun r er => ?_⟩⟩)))))))))
        rw [e0] at er; simp at er
      · have e0 : fnd ≠ [] := by simpa using hT
        rw [List.getLast?_map, List.getLast?_eq_getLast e0]; rfl
      · rename_i hT0
        have e0 : fnd ≠ [] := by simpa using hT0
        obtain ⟨r, rfl⟩ : ∃ r, o = some r := by
          cases o with
          | none => rw [h0 rfl] at e1; exact (e0 e1).elim
          | some r => exact ⟨r, rfl⟩
        have er : fnd = acc ++ [r] := e1
        have el : fnd.getLast?.getD ⟨0, whole 0, 0⟩ = r := by rw [er]; simp
        rw [el] at hT
        have hT := of_decide_eq_true hT
        have la : atI (fnd.map runD) (-1) = some (runD r) := atL (by rw [er]; simp)
        refine ss_one (s_setL 1 rfl (.inl rfl) (w_see 1 rfl (w_tup (d_cons (wv 4 rfl (d_cons (wv 5 rfl (d_cons (w_bin (w_ix (w_ix (wv 1 rfl (w_neg (w_int ⟨_, rfl, ⟨_, (ix2_lst la), (w_int ⟨_, (ix2_tup rfl), (w_int ⟨_, o_addI, (d_nil ⟨len_le, ⟨fl_run, _, rfl, (w_neg (w_int ⟨_, rfl, ⟨_, _, acc.length, rfl, rfl, ?_, ?_⟩⟩))⟩⟩)⟩)⟩)⟩⟩))))))))))))))
        · rw [er]; simp [ixN]; omega
        · have := next r er hT
          rw [show runD { r with n := r.n + 1 } = .tup [.int (z.t - q.t), Fd (VatmsBase.minus z.v q.v), .int ((r.n : Int) + 1)] by rw [← hT.1, ← hT.2]; rfl] at this
          exact this
      · rename_i hT0
        refine ss_one (s_append 1 rfl (.inl rfl) rfl (w_tup (d_cons (wv 4 rfl (d_cons (wv 5 rfl (d_cons (w_int (d_nil ⟨len_le, ⟨_, rfl, by rw [List.length_map]; omega, fresh fun r er c => ?_⟩⟩)))))))))
        have el : fnd.getLast?.getD ⟨0, whole 0, 0⟩ = r := by rw [er]; simp
        rw [el] at hF
        exact of_decide_eq_false hF c
  · rintro ⟨fnd, s1, s2, s3, s4⟩ ⟨acc, o, q, m, h0, e1, e2, h1, h2, h3⟩
    have : m = [] := by cases m with
      | nil => rfl
      | cons z m => cases e2
    subst this
    refine ss_one (s_ret (wg 1 rfl (fin_eq ?_)))
    rw [← h3]
    show D.lst (fnd.map runD) = _
    rw [show fnd = acc ++ o.toList from e1]
    cases o <;> rfl
/-! ### asked -/
abbrev s_asked : Stmt := top 26
abbrev n_asked : List Str := ["first", "some", "time", "here", "value", "k", "later", "more", "many"]
theorem sc_asked : FnScope n_asked ["first", "some", "time"] (defScope s_asked) := ⟨rfl, rfl, rfl, by decide +kernel, rfl, by decide +kernel, by decide +kernel⟩
def optFd : Option Frac → D
  | some f => Fd f
  | none => .non
def p_asked : List D → D → Prop := fun ds d => ∃ (s : Store) (t : Int), ds = [Sd s.first, .lst (s.runs.map runD), .int t] ∧ RunsOk s.first s.runs ∧ s.runs.length ≤ 60 ∧ d = .tup [optFd (askStore s t).1, Nd (askStore s t).2]
theorem enum_runs (l : List VRun) : enumD (l.map runD) = (l.zipIdx).map fun x => D.tup [Nd x.2, runD x.1] := by
  unfold enumD
  rw [List.zipIdx_map, List.map_map]
  rfl
theorem RunsOk.fst {s : Spot} {rs : List VRun} (h : RunsOk s rs) : s.t.natAbs < 2 ^ 38 ∧ Bd 90 s.v := by
  cases h with
  | nil h1 h2 => exact ⟨h1, h2⟩
  | cons h1 h2 _ _ _ _ _ => exact ⟨h1, h2⟩
theorem small_bd {n : Int} (h : n.natAbs ≤ 60) : Bd 6 (whole n) := whole_bd (by omega) (by decide)
theorem askBy_cons (t : Int) (n : Nat) (p : Spot) (r : VRun) (rs : List VRun) : askBy t n p (r :: rs) = if (endOf p r).t < t then askBy t (n + 1) (endOf p r) rs else if r.dt ≠ 0 ∧ Int.emod (t - p.t) r.dt = 0 ∧ p.t < t then (some (VatmsBase.plus p.v (VatmsBase.times r.dv (whole (Int.fdiv (t - p.t) r.dt)))), n + 1) else (none, n + 1) := rfl
theorem f_asked (F : Fa K mg "asked" s_asked) (hfraction : FvFraction P w K mg base) (hplus : FvPlus P w K mg base) (htimes : FvTimes P w K mg base) (nenumerate : mg "enumerate" = none) (nlen : mg "len" = none) : Fv P w K mg base CX0 4 "asked" ["first", "some", "time"] (PureP p_asked) := by
  refine fa_fv F (fun _ _ _ _ _ _ us hl => match us, hl with | [_, _, _], _ => rfl) fun f fd F => fn0 F sc_asked (fun Γ r ⟨ds, d, e, _, st, t, e2, _⟩ => by subst e; subst e2; rfl) ?_
  have nd := sc_asked.nd
  rintro cdv A outer s H E _ _ hr ⟨_, _, rfl, rfl, ⟨p0, rs0⟩, t, rfl, ok, hlen, rfl⟩
  have hlen : rs0.length ≤ 60 := hlen
  have hz : sizeLine = 16777216 := sizeLine_eq
  refine ss_cons (s_if (t_cmp (wv 2 rfl (w_ix (wv 0 rfl (w_int ⟨_, (ix2_tup rfl), ⟨_, o_le, ⟨fun hT => ?_, fun hF => ?_⟩⟩⟩))))))
  · have hT := of_decide_eq_true hT
    refine ss_one (s_ret (w_tup (d_cons (w_if (t_cmp (wv 2 rfl (w_ix (wv 0 rfl (w_int ⟨_, (ix2_tup rfl), ⟨_, o_eqI, ⟨fun hT => (w_ix (wv 0 rfl (w_int ⟨_, (ix2_tup rfl), (d_cons (w_int (d_nil ⟨len_le, ?_⟩)))⟩))), fun hF => (w_none (d_cons (w_int (d_nil ⟨len_le, ?_⟩))))⟩⟩⟩)))))))))
    · refine fin_eq ?_
      show _ = D.tup [optFd (if t = p0.t then _ else _ : Option Frac × Nat).1, Nd (if t = p0.t then _ else _ : Option Frac × Nat).2]
      rw [if_pos (of_decide_eq_true hT)]; rfl
    · refine fin_eq ?_
      have hF := of_decide_eq_false hF
      have hT : t ≤ p0.t := hT
      have hF : ¬ t = p0.t := hF
      show _ = D.tup [optFd (if t = p0.t then _ else (if t < p0.t then _ else _) : Option Frac × Nat).1, Nd (if t = p0.t then _ else (if t < p0.t then _ else _) : Option Frac × Nat).2]
      rw [if_neg hF, if_pos (show t < p0.t by omega)]; rfl
  · have hF := of_decide_eq_false hF
    have hF : ¬ t ≤ p0.t := hF
    have e0 : askStore ⟨p0, rs0⟩ t = askBy t 0 p0 rs0 := by
      show (if t = p0.t then _ else (if t < p0.t then _ else _) : Option Frac × Nat) = _
      rw [if_neg (show ¬ t = p0.t by omega), if_neg (show ¬ t < p0.t by omega)]
    refine ss_nil ?_
    refine ss_cons (s_asg (js := [3, 4]) (wv 0 rfl (g1_tup rfl (gs_cons (gn 3 nd (gs_cons (gn 4 nd (gs_nil ?_))))))))
    refine ss_cons (s_for (js := [5, 6, 7, 8]) .never rfl (i_enum rfl nenumerate (d_cons (wv 1 rfl (d_nil ⟨_, rfl, ?_⟩)))))
    rw [enum_runs, e0]
    refine for_ind (fun (x : VRun × Nat) => D.tup [Nd x.2, runD x.1]) (fun (u : Spot × Sl × Sl × Sl × Sl) => [.im (Sd p0), .im (.lst (rs0.map runD)), .im (.int t), .im (.int u.1.t), .im (Fd u.1.v), u.2.1, u.2.2.1, u.2.2.2.1, u.2.2.2.2])
      (fun u rest => ∃ k rs, rest = rs.zipIdx k ∧ RunsOk u.1 rs ∧ u.1.t < t ∧ k + rs.length = rs0.length ∧ askBy t k u.1 rs = askBy t 0 p0 rs0) ?_ ?_ _ (p0, .un, .un, .un, .un) ⟨0, rs0, rfl, ok, by show p0.t < t; omega, by omega, rfl⟩
    · rintro ⟨q, s1, s2, s3, s4⟩ x rest ⟨k, rs, e1, h1, h2, h3, h4⟩ nx hn
      have h2 : q.t < t := h2
      cases rs with
      | nil => cases e1
      | cons r rs =>
        rw [List.zipIdx_cons] at e1
        obtain ⟨rfl, rfl⟩ := List.cons.inj e1
        cases h1 with
        | cons b1 b2 b3 b4 b5 b6 b7 =>
          have b1 : q.t.natAbs < 2 ^ 38 := b1
          rw [askBy_cons] at h4
          have h4 : (if q.t + r.dt * (r.n : Int) < t then askBy t (k + 1) (endOf q r) rs else if r.dt ≠ 0 ∧ Int.emod (t - q.t) r.dt = 0 ∧ q.t < t then (some (VatmsBase.plus q.v (VatmsBase.times r.dv (whole (Int.fdiv (t - q.t) r.dt)))), k + 1) else (none, k + 1)) = askBy t 0 p0 rs0 := h4
          have mw : CMulW r.dt (r.n : Nat) := mulW b4 (show ((r.n : Nat) : Int).natAbs < 2 ^ 6 by omega) (by decide) (by decide) (by decide)
          refine (g1_tup rfl (gs_cons (gn 5 nd (gs_cons (g1_tup rfl (gs_cons (gn 6 nd (gs_cons (gn 7 nd (gs_cons (gn 8 nd (gs_nil (gs_nil ?_)))))))))))))
          refine ss_cons (s_if (t_cmp (wv 2 rfl (w_bin (wv 3 rfl (w_bin (wv 6 rfl (wv 8 rfl ⟨_, (o_mulI mw), ⟨_, o_addI, ⟨_, o_le, ⟨fun hT => ?_, fun hF => ?_⟩⟩⟩⟩))))))))
          · have hT : t ≤ q.t + r.dt * (r.n : Int) := of_decide_eq_true hT
            rw [if_neg (by omega)] at h4
            refine ss_cons (s_if (t_cmp (w_bin (w_bin (wv 2 rfl (wv 3 rfl ⟨_, o_subI, (wv 6 rfl ⟨_, (o_modI b3), (w_int ⟨_, o_neI, ⟨fun hT => ?_, fun hF => ?_⟩⟩)⟩)⟩))))))
            · have hT2 : ¬ (t - q.t) % r.dt = 0 := by simpa using hT
              refine ss_one (s_ret (w_tup (d_cons (w_none (d_cons (w_bin (wv 5 rfl (w_int ⟨_, o_addI, (d_nil ⟨len_le, ?_⟩)⟩))))))))
              refine fin_eq ?_
              rw [← h4, if_neg (fun z => hT2 z.2.1)]
              rfl
            · have hF : (t - q.t) % r.dt = 0 := by simpa using hF
              have q0 : 0 ≤ (t - q.t) / r.dt := Int.ediv_nonneg (by omega) (by omega)
              have q1 : (t - q.t) / r.dt ≤ r.n := Int.ediv_le_of_le_mul b3 (by rw [Int.mul_comm]; omega)
              refine ss_nil (ss_one (s_ret (w_tup (d_cons (w_callP hplus (hr.mono (by decide)) rfl pass (d_cons (wv 4 rfl (d_cons (w_callP htimes (hr.mono (by decide)) rfl pass (d_cons (wv 7 rfl (d_cons (w_callP hfraction (hr.mono (by decide)) rfl pass (d_cons (w_bin (w_bin (wv 2 rfl (wv 3 rfl ⟨_, o_subI, (wv 6 rfl ⟨_, (o_divI ⟨b3, ?_⟩), (d_cons (w_int (d_nil ⟨_, ⟨_, 1, rfl, Nat.one_pos, Nat.one_lt_two_pow (by decide), rfl⟩, (d_nil ⟨_, ⟨r.dv, frac ((t - q.t) / r.dt) 1, 181, 6, rfl, b5, ?_, by decide, by decide, by decide, rfl⟩, (d_nil ⟨_, ⟨q.v, _, 90, 187, rfl, b2, times_bd (n := 6) b5 ?_, by decide, by decide, by decide, rfl⟩, (d_cons (w_bin (wv 5 rfl (w_int ⟨_, o_addI, (d_nil ⟨len_le, ?_⟩)⟩))))⟩)⟩)⟩)))⟩)⟩))))))))))))))))))
              · have : r.dt.natAbs.log2 < 40 := (Nat.log2_lt (by omega)).mpr b4
                exact Nat.lt_of_lt_of_le this (by decide)
              · rw [frac_one]; exact small_bd (by omega)
              · rw [frac_one]; exact small_bd (by omega)
              · refine fin_eq ?_
                rw [← h4, if_pos ⟨by omega, hF, h2⟩, frac_one, Int.fdiv_eq_ediv_of_nonneg _ (by omega : 0 ≤ r.dt)]
                rfl
          · have hF : ¬ t ≤ q.t + r.dt * (r.n : Int) := of_decide_eq_false hF
            rw [if_pos (by omega)] at h4
            refine ss_nil ?_
            refine ss_cons (ss 3 nd (w_bin (wv 3 rfl (w_bin (wv 6 rfl (wv 8 rfl ⟨_, (o_mulI mw), ⟨_, o_addI, ?_⟩⟩))))))
            refine ss_one (ss 4 nd (w_callP hplus (hr.mono (by decide)) rfl pass (d_cons (wv 4 rfl (d_cons (w_callP htimes (hr.mono (by decide)) rfl pass (d_cons (wv 7 rfl (d_cons (w_callP hfraction (hr.mono (by decide)) rfl pass (d_cons (wv 8 rfl (d_cons (w_int (d_nil ⟨_, ⟨_, 1, rfl, Nat.one_pos, Nat.one_lt_two_pow (by decide), rfl⟩, (d_nil ⟨_, ⟨r.dv, frac (r.n : Nat) 1, 181, 6, rfl, b5, ?_, by decide, by decide, by decide, rfl⟩, (d_nil ⟨_, ⟨q.v, _, 90, 187, rfl, b2, times_bd (n := 6) b5 ?_, by decide, by decide, by decide, rfl⟩, ?_⟩)⟩)⟩)))))))))))))))
            · rw [frac_one]; exact small_bd (by omega)
            · rw [frac_one]; exact small_bd (by omega)
            · have := hn (endOf q r, .im (Nd k), .im (.int r.dt), .im (Fd r.dv), .im (Nd r.n)) ⟨k + 1, rs, rfl, b7, by show q.t + r.dt * (r.n : Int) < t; omega, by rw [List.length_cons] at h3; omega, h4⟩
              rw [frac_one]
              exact this
    · rintro ⟨q, s1, s2, s3, s4⟩ ⟨k, rs, e1, h1, h2, h3, h4⟩
      have : rs = [] := by cases rs with
        | nil => rfl
        | cons r rs => cases e1
      subst this
      refine ss_one (s_ret (w_tup (d_cons (w_none (d_cons (w_callB rfl nlen boot_len (d_cons (wv 1 rfl (d_nil ⟨_, c_lenL, (d_nil ⟨len_le, ?_⟩)⟩)))))))))
      refine fin_eq ?_
      rw [← h4, List.length_map, ← h3]
      rfl
/-! ### totals -/
abbrev s_totals : Stmt := top 27
abbrev n_totals : List Str := ["points", "values", "time", "value"]
theorem sc_totals : FnScope n_totals ["points"] (defScope s_totals) := ⟨rfl, rfl, rfl, by decide +kernel, rfl, by decide +kernel, by decide +kernel⟩
def totD (T : Totals) : D := .tup [Nd T.n, Fd T.sum, Fd T.lo, Fd T.hi]
def p_totals : List D → D → Prop := fun ds d => ∃ (p : Spot) (l : List Spot), ds = [Ld (p :: l)] ∧ Good (p :: l) ∧ d = totD (totals ⟨p, runsBy p none l⟩)
theorem f_totals (F : Fa K mg "totals" s_totals) (hsum_of : Fv P w K mg base CX0 4 "sum_of" ["some"] (PureP p_sum_of)) (hleast_of : FvBest P w K mg base "least_of" VatmsBase.least) (hgreatest_of : FvBest P w K mg base "greatest_of" VatmsBase.greatest) (nlen : mg "len" = none) : Fv P w K mg base CX0 5 "totals" ["points"] (PureP p_totals) := by
  refine fa_fv F (fun _ _ _ _ _ _ us hl => match us, hl with | [_], _ => rfl) fun f fd F => fn0 F sc_totals (fun Γ r ⟨ds, d, e, _, p, l, e2, _⟩ => by subst e; subst e2; rfl) ?_
  have nd := sc_totals.nd
  rintro cdv A outer s H E _ _ hr ⟨_, _, rfl, rfl, p, l, rfl, g, rfl⟩
  have hlen : l.length + 1 ≤ 60 := g.len
  have hz : sizeLine = 16777216 := sizeLine_eq
  have ev : (((p :: l).filter fun _ => true).map fun p => Fd p.v) = (p.v :: l.map (·.v)).map Fd := by
    rw [List.filter_eq_self.mpr (fun _ _ => rfl), List.map_cons, List.map_cons, List.map_map]; rfl
  have bp : Bd 90 p.v := g.bd p List.mem_cons_self
  have bl : ∀ x ∈ l.map (·.v), Bd 90 x := fun x hx => by
    obtain ⟨q, hq, rfl⟩ := List.mem_map.mp hx
    exact g.bd q (List.mem_cons_of_mem _ hq)
  refine ss_cons (ssLc 1 [("time", 2), ("value", 3)] [2, 3] Sd (fun x => true) (fun p => Fd p.v) nd (blkOk_by (by show blkC n_totals (defScope s_totals) _ _ = true; decide +kernel)) (i_list (wv 0 rfl ⟨_, rfl, ⟨p :: l, rfl, by show l.length + 1 < _; omega, fun pvalues => ?_, ?_⟩⟩)))
  · rw [ev]
    refine ss_one (s_ret (w_tup (d_cons (w_callB rfl nlen boot_len (d_cons (wv 0 rfl (d_nil ⟨_, c_lenL, (d_cons (w_see 1 rfl (w_callP hsum_of (hr.mono (by decide)) rfl pass (d_cons (wv 1 rfl (d_nil ⟨_, ⟨p.v :: l.map (·.v), rfl, by simp; omega, fun x hx => ?_, rfl⟩, fl_F, (d_cons (w_see 1 rfl (w_callP hleast_of (hr.mono (by decide)) rfl pass (d_cons (wv 1 rfl (d_nil ⟨_, ⟨p.v, l.map (·.v), 90, rfl, bp, bl, by decide, by decide, rfl⟩, fl_F, (d_cons (w_see 1 rfl (w_callP hgreatest_of (hr.mono (by decide)) rfl pass (d_cons (wv 1 rfl (d_nil ⟨_, ⟨p.v, l.map (·.v), 90, rfl, bp, bl, by decide, by decide, rfl⟩, fl_F, (d_nil ⟨len_le, ?_⟩)⟩))))))⟩))))))⟩))))))⟩)))))))
    · rcases List.mem_cons.mp hx with z | z
      · rw [z]; exact bp
      · exact bl x z
    · refine fin_eq ?_
      rw [totals_eq fun q hq => ⟨(g.bd q hq).pos, g.nm q hq⟩, List.length_map]
      rfl
  · intro x hx
    exact ⟨_, fun s H0 C cl fp => (g1_tup rfl (gs_cons (gn 2 nd (gs_cons (gn 3 nd (gs_nil rfl)))))), fun s H0 C cl fp => ⟨rfl, rfl⟩, fun _ s H0 C cl fp => (wv 3 rfl rfl)⟩
end
end Fp

set_option Elab.async false
set_option linter.all false
set_option maxRecDepth 100000
set_option maxHeartbeats 2000000
namespace Dl
open PySem PySem.Spec PyProof.Rows L2

/-! ### data without instances; an owned instance, seen -/
mutual
inductive NI : D → Prop
  | non : NI .non
  | bl (b : Bool) : NI (.bl b)
  | int (i : Int) : NI (.int i)
  | str (s : Str) : NI (.str s)
  | tup {ds : List D} : NIA ds → NI (.tup ds)
  | lst {ds : List D} : NIA ds → NI (.lst ds)
inductive NIA : List D → Prop
  | nil : NIA []
  | cons {d : D} {ds : List D} : NI d → NIA ds → NIA (d :: ds)
end
mutual
def niB : D → Bool
  | .non => true | .bl _ => true | .int _ => true | .str _ => true
  | .lst ds => niAB ds | .tup ds => niAB ds | .dct _ => false | .ins _ _ => false | .arr _ => false
def niAB : List D → Bool
  | [] => true
  | d :: ds => niB d && niAB ds
end
mutual
theorem NI.of : ∀ {d : D}, niB d = true → NI d
  | .non, _ => .non | .bl b, _ => .bl b | .int i, _ => .int i | .str s, _ => .str s
  | .lst ds, h => .lst (NIA.of h) | .tup ds, h => .tup (NIA.of h)
  | .dct _, h => nomatch h | .ins _ _, h => nomatch h | .arr _, h => nomatch h
theorem NIA.of : ∀ {d : List D}, niAB d = true → NIA d
  | [], _ => .nil
  | d :: ds, h => .cons (NI.of (Bool.and_eq_true_iff.mp h).1) (NIA.of (Bool.and_eq_true_iff.mp h).2)
end
theorem NIA.map {α : Type} {f : α → D} : ∀ {l : List α}, (∀ x ∈ l, NI (f x)) → NIA (l.map f)
  | [], _ => .nil
  | x :: l, h => .cons (h x List.mem_cons_self) (NIA.map fun y hy => h y (List.mem_cons_of_mem x hy))
theorem NIA.app {l m : List D} (h : NIA l) (h' : NIA m) : NIA (l ++ m) := by
  induction l with
  | nil => exact h'
  | cons d l ih => cases h with | cons a b => exact .cons a (ih b)
section
variable {K : PySem.W.Frag} {I J : Hp} {p C dx : Addr} {vs : List (Str × V)}
/-- J, but for the instance at p -/
structure Sans (I J : Hp) (p : Addr) : Prop where
  at_ : ∃ C dx vs, J p = some (.ins C dx vs)
  eq : ∀ b w, J b = some w → b ≠ p → I b = some w
theorem Sans.get (e : Sans I J p) {b : Addr} {w : HO} (h : J b = some w) (n : ∀ C dx vs, w ≠ .ins C dx vs) : I b = some w := by
  refine e.eq b w h fun z => ?_
  subst z
  obtain ⟨C, dx, vs, h'⟩ := e.at_
  rw [h'] at h; cases h
  exact n C dx vs rfl
mutual
theorem Rp.ni (e : Sans I J p) : ∀ {v : V} {d : D}, NI d → Rp K J v d → Rp K I v d
  | _, _, _, .non => .non
  | _, _, _, .bl b => .bl b
  | _, _, _, .int i => .int i
  | _, _, _, .str s => .str s
  | _, _, f, .tup h r => by
    cases f with
    | tup f =>
      refine .tup ?_ (RpA.ni e f r)
      rcases h with (h | ⟨o, h⟩) | h
      · exact .inl (.inl (e.get h (by intros; intro z; cases z)))
      · exact .inl (.inr ⟨o, e.get h (by intros; intro z; cases z)⟩)
      · exact .inr h
  | _, _, f, .lst h r => by
    cases f with
    | lst f => exact .lst (e.get h (by intros; intro z; cases z)) (RpA.ni e f r)
  | _, _, f, .dct _ _ => nomatch f
  | _, _, f, .ins _ _ => nomatch f
  | _, _, f, .arr _ => nomatch f
theorem RpA.ni (e : Sans I J p) : ∀ {v : List V} {d : List D}, NIA d → RpA K J v d → RpA K I v d
  | _, _, _, .nil => .nil
  | _, _, f, .cons h r => by
    cases f with
    | cons f g => exact .cons (Rp.ni e f h) (RpA.ni e g r)
end
end
section
variable {X : Cx} {E : XK} {XE : XS} {Γ : En} {R R' : D → En → Prop} {pos : Pos}
theorem shownI {K : PySem.W.Frag} {σ : L2.St} {I H I2 H2 : Hp} {i : Nat} {p C : Addr} {fs : List (Str × D)} {u : HO} (a : At K σ I H Γ) (hg : Γ[i]? = some (.own p (.ins C fs))) (hu : H p = some u) {Γ' : En} (s : Stp (seeE Γ i (Ow.ins C fs).d) (upd I p u) H Γ' I2 H2) (v2 : Same I2 H2) :
    ∃ I3, Grow I H I3 H2 ∧ Sans I3 I2 p := by
  obtain ⟨e, n, dx, vs, h1, _⟩ := a.own hg
  rw [h1] at hu; cases hu
  have i2 : I2 p = some (.ins C dx vs) := s.sub p _ upd_same
  have e13 : Same I (fun b => if b = p then none else I2 b) := fun b w q => by
    have z : b ≠ p := ne_of_none q n
    show (if b = p then none else I2 b) = some w
    rw [if_neg z]
    exact s.sub b w (by rw [upd_ne z]; exact q)
  have e32 : Same (fun b => if b = p then none else I2 b) I2 := fun b w q => by
    have q : (if b = p then none else I2 b) = some w := q
    by_cases z : b = p
    · rw [if_pos z] at q; cases q
    · rw [if_neg z] at q; exact q
  refine ⟨fun b => if b = p then none else I2 b, ⟨fun b w h => s.same b w h seeE_no, e13, e32.trans v2, fun b w q => ?_⟩, ⟨⟨C, dx, vs, i2⟩, fun b w q z => (if_neg z).trans q⟩⟩
  have z : b ≠ p := fun z => by
    have q : (if b = p then none else I2 b) = some w := q
    rw [if_pos z] at q; cases q
  rcases s.fresh b w (e32 b w q) with r | r | r
  · rw [upd_ne z] at r; exact .inl r
  · exact .inr r
  · exact (seeE_no r).elim
theorem w_seeI {e : Expr} (i : Nat) {p C : Addr} {fs : List (Str × D)} (hg : Γ[i]? = some (.own p (.ins C fs))) (h : Wp X E XE e (seeE Γ i (.ins C fs)) fun d _ => NI d ∧ R d Γ) : Wp X E XE e Γ R := fun σ I H Q a k x => by
  obtain ⟨u, hu⟩ := (a.own hg).2.2.there
  refine h σ (upd I p u) H Q (a.show1 hg hu) (fun v I2 H2 d Γ' ⟨f, r⟩ s2 a2 r2 => ?_) fun C fs dd H' x' kp q => x C fs dd H' x' (fun b w h _ => kp b w h seeE_no) q
  obtain ⟨I3, g, t⟩ := shownI a hg hu s2 a2.sub
  exact k v I3 H2 d Γ r g.stp (a.grow g) (r2.ni t f)
/-! ### objects made -/
/-- behind a call that owned x alone -/
theorem back_one {K : PySem.W.Frag} {σ : L2.St} {I1 H1 I2 H2 : Hp} {Γ1 Γc Γc' : En} {x : Addr} (a1 : At K σ I1 H1 Γ1) (nx : ¬ Own Γ1 x) (s : Stp Γc I1 H1 Γc' I2 H2) (hc : ∀ q, Own Γc q → q = x) (v2 : Same I2 H2) : At K σ I2 H2 Γ1 where
  sub := v2
  len := a1.len
  nd := a1.nd
  sl := fun i sl h => by
    obtain ⟨y, e, q⟩ := a1.sl i sl h
    refine ⟨y, e, ?_⟩
    cases sl with
    | un => trivial
    | im d => obtain ⟨v, e, r⟩ := q; exact ⟨v, e, r.mono s.sub⟩
    | own q' o =>
      obtain ⟨e2, n2, r⟩ := q
      obtain ⟨w, hw⟩ := r.there
      have ne : q' ≠ x := fun z => by subst z; exact nx ⟨i, o, h⟩
      refine ⟨e2, ?_, r.mono s.sub ((s.same q' w hw fun z => ne (hc q' z)).trans hw.symm)⟩
      cases e3 : I2 q' with
      | none => rfl
      | some u =>
        rcases s.fresh q' u e3 with z | z | z
        · rw [n2] at z; cases z
        · rw [hw] at z; cases z
        · exact (ne (hc q' z)).elim
theorem stp_one {I H I1 H1 I2 H2 : Hp} {Γ Γ1 Γc Γc' : En} {x : Addr} (s1 : Stp Γ I H Γ1 I1 H1) (s : Stp Γc I1 H1 Γc' I2 H2) (hc : ∀ q, Own Γc q → q = x) (hx : Own Γ x ∨ H x = none) : Stp Γ I H Γ1 I2 H2 where
  same := fun b o h n => by
    refine s.same b o (s1.same b o h n) fun z => ?_
    have := hc b z
    subst this
    rcases hx with z | z
    · exact n z
    · rw [h] at z; cases z
  sub := s1.sub.trans s.sub
  fresh := fun b o h => by
    rcases s.fresh b o h with z | z | z
    · exact s1.fresh b o z
    · exact .inr (s1.was z).symm
    · have := hc b z
      subst this
      exact .inr hx.symm
  own := s1.own
theorem own_one {p q : Addr} {o : Ow} {ds : List D} (h : Own (.own p o :: ds.map Sl.im) q) : q = p := by
  obtain ⟨i, o', h⟩ := h
  cases i with
  | zero => cases h; rfl
  | succ i =>
    rw [List.getElem?_cons_succ, List.getElem?_map] at h
    cases e : ds[i]? with
    | none => rw [e] at h; cases h
    | some d => rw [e] at h; cases h
theorem at_own {K : PySem.W.Frag} {I H : Hp} {p : Addr} {o : Ow} {vs : List V} {ds : List D} (e : Same I H) (n : I p = none) (ho : OwAt K I H p o) (r : RpA K I vs ds) : At K ((V.ref p :: vs).map some) I H (.own p o :: ds.map Sl.im) := by
  refine ⟨e, by simp [r.len], fun i s h => ?_, fun i j q o1 o2 h1 h2 => ?_⟩
  · cases i with
    | zero => cases h; exact ⟨_, rfl, rfl, n, ho⟩
    | succ i =>
      rw [List.getElem?_cons_succ, List.getElem?_map] at h
      cases e0 : ds[i]? with
      | none => rw [e0] at h; cases h
      | some d =>
        rw [e0] at h; cases h
        obtain ⟨v, hv, rv⟩ := r.get e0
        exact ⟨some v, by rw [List.map_cons, List.getElem?_cons_succ, List.getElem?_map, hv] <;> rfl, v, rfl, rv⟩
  · have im : ∀ (i : Nat) (q : Addr) (o2 : Ow), (Sl.own p o :: ds.map Sl.im)[i]? = some (.own q o2) → i = 0 := fun i q o2 h => by
      cases i with
      | zero => rfl
      | succ i =>
        rw [List.getElem?_cons_succ, List.getElem?_map] at h
        cases e0 : ds[i]? with
        | none => rw [e0] at h; cases h
        | some d => rw [e0] at h; cases h
    rw [im i q o1 h1, im j q o2 h2]
/-- C(a, ..), its __init__ a def of the text -/
structure Mkv (P : Program) (w : World) (K : PySem.W.Frag) (mg : Str → Option Value) (base : Heap) (k : Nat) (x : Str) (C : Addr) (ps : List Str) (pre : En → Res → Prop) : Prop where
  ex : ∃ f fd, mg x = some (.ref C) ∧ Mk K C f ∧ Binds K fd ps [] ∧ FnOk P w K mg base CX0 k f fd ps (Cg K pre)
theorem make_go {pre : En → Res → Prop} {σ : L2.St} {I H I1 H1 : Hp} {Γ1 : En} {vs : List V} {ds : List D} {C : Addr} {fs : List (Str × D)} {R : Ow → En → Prop} {Q : VK}
    (a1 : At X.K σ I1 H1 Γ1) (s1 : Stp Γ I H Γ1 I1 H1) (r1 : RpA X.K I1 vs ds) (hp : ∀ p, pre (.own p (.ins C []) :: ds.map Sl.im) (.ok .non (.own p (.ins C fs) :: ds.map Sl.im))) (hR : R (.ins C fs) Γ1)
    (k : ∀ p I' H' o Γ', R o Γ' → Stp Γ I H Γ' I' H' → At X.K σ I' H' Γ' → I' p = none → OwAt X.K I' H' p o → ¬ Own Γ' p → (Own Γ p ∨ H p = none) → Q (.ref p) H') (x dx : Addr) (hx : H1 x = none) (hdx : H1 dx = none) (ne : dx ≠ x) :
    Cg X.K pre (.ref x :: vs) (upd (upd H1 dx (.own x)) x (.ins C dx [])) (fun v H2 => v = .non ∧ Q (.ref x) H2) E := by
  have g1 : Grow I1 H1 I1 (upd H1 dx (.own x)) := .hid a1.sub hdx
  have a2 := a1.grow g1
  have hx2 : upd H1 dx (.own x) x = none := by rw [upd_ne (Ne.symm ne)]; exact hx
  have g2 : Grow I1 (upd H1 dx (.own x)) I1 (upd (upd H1 dx (.own x)) x (.ins C dx [])) := .hid a2.sub hx2
  have a3 := a2.grow g2
  have n1 : I1 x = none := by
    cases q : I1 x with
    | none => rfl
    | some u => have z := a1.sub x u q; rw [hx] at z; cases z
  have no1 : ¬ Own Γ1 x := fun z => by
    obtain ⟨_, u, hu⟩ := a1.ownN z
    rw [hx] at hu; cases hu
  refine ⟨I1, _, .ok .non (.own x (.ins C fs) :: ds.map Sl.im), at_own (o := .ins C []) a3.sub n1 ⟨dx, [], upd_same, .nil⟩ r1, hp x, fun v I2 H2 s2 a4 r4 => ?_⟩
  cases r4
  refine ⟨rfl, ?_⟩
  obtain ⟨_, n4, w4⟩ := a4.own (i := 0) rfl
  have s13 := s1.trans ((g1.stp (Γ := Γ1)).trans g2.stp)
  exact k x I2 H2 _ Γ1 hR (stp_one s13 s2 (fun q h => own_one h) (s1.was hx)) (back_one a3 no1 s2 (fun q h => own_one h) a4.sub) n4 w4 no1 (s1.was hx)
theorem w_make {k : Nat} {ps : List Str} {pre : En → Res → Prop} {x : Str} {C : Addr} {px : Pos} {e : Expr} {es : List Expr} {R : Ow → En → Prop} (F : Mkv X.prog X.w X.K X.mg X.base k x C ps pre) (hr : Room (k + 1) X.A) (hg : Gl X x) (hx : Passes CX0 X E)
    (h : WpD X E XE (e :: es) Γ fun ds Γ1 => ∃ fs, (∀ p, pre (.own p (.ins C []) :: ds.map Sl.im) (.ok .non (.own p (.ins C fs) :: ds.map Sl.im))) ∧ R (.ins C fs) Γ1) (hdb : (x == ("__debug__" : Str)) = false := by decide) (he : starEach (e :: es) X.env = (false, eval e X.env) :: starEach es X.env := by rfl) (hpl : (backTo pos (starEach es X.env)).any (·.1) = false := by rfl) :
    WpN X E XE (.Call (.Name x px) (e :: es) [] pos) Γ R := by
  obtain ⟨f, fd, hm, M, hb, F⟩ := F.ex
  refine .of (pe_make M F hr hg hm hb .nil hx (pa_sem X _) hdb he hpl) fun σ I H Q a k x0 => h σ I H _ a (fun vs I1 H1 ds Γ1 ⟨fs, hp, hR⟩ s1 a1 r1 x dx hx hdx ne => ?_) x0
  show Cg X.K pre (.ref x :: (vs ++ [])) _ _ E
  rw [List.append_nil]
  exact make_go a1 s1 r1 hp hR k x dx hx hdx ne
theorem w_make0 {k : Nat} {ps : List Str} {pre : En → Res → Prop} {x : Str} {C : Addr} {px : Pos} {R : Ow → En → Prop} {fs : List (Str × D)} (F : Mkv X.prog X.w X.K X.mg X.base k x C ps pre) (hr : Room (k + 1) X.A) (hg : Gl X x) (hx : Passes CX0 X E)
    (hp : ∀ p, pre [.own p (.ins C [])] (.ok .non [.own p (.ins C fs)])) (hR : R (.ins C fs) Γ) (hdb : (x == ("__debug__" : Str)) = false := by decide) : WpN X E XE (.Call (.Name x px) [] [] pos) Γ R := by
  obtain ⟨f, fd, hm, M, hb, F⟩ := F.ex
  refine .of (pe_make0 M F hr hg hm hb .nil hx hdb) fun σ I H Q a k x0 => ?_
  intro x dx hx hdx ne
  exact make_go (ds := []) a .refl .nil hp hR k x dx hx hdx ne
/-! ### methods of seen instances, of new ones -/
theorem pure_go {K : PySem.W.Frag} {p : List D → Ox → Prop} {σ : L2.St} {I H I2 H2 : Hp} {Γ2 : En} {vs : List V} {ds : List D} {Q : VK} {r : Ox} (a2 : At K σ I2 H2 Γ2) (s : Stp Γ I H Γ2 I2 H2) (rv : RpA K I2 vs ds) (x0 : KX E XE Γ H)
    (k : ∀ v I' H' d Γ', R d Γ' → Stp Γ I H Γ' I' H' → At K σ I' H' Γ' → Rp K I' v d → Q v H') (hr2 : match r with
      | .ok d' => R d' Γ2
      | .ex C fs => XE C fs) (hp : p ds r) : Cg K (PureX p) vs H2 Q E := by
  have no : ∀ q, ¬ Own (ds.map Sl.im) q := fun q ⟨i, o', hs⟩ => by
    rw [List.getElem?_map] at hs
    cases e0 : ds[i]? with
    | none => rw [e0] at hs; cases hs
    | some d => rw [e0] at hs; cases hs
  have am : At K (vs.map some) I2 H2 (ds.map Sl.im) := by
    refine ⟨a2.sub, by simp [rv.len], fun i s hs => ?_, fun i j q o1 o2 hs _ => (no q ⟨i, o1, hs⟩).elim⟩
    rw [List.getElem?_map] at hs
    cases e0 : ds[i]? with
    | none => rw [e0] at hs; cases hs
    | some d =>
      rw [e0] at hs; cases hs
      obtain ⟨v, hv, rv⟩ := rv.get e0
      exact ⟨some v, by rw [List.getElem?_map, hv] <;> rfl, v, rfl, rv⟩
  cases r with
  | ok d' =>
    refine ⟨I2, _, .ok d' _, am, ⟨_, .ok d', rfl, hp, rfl⟩, fun v I3 H3 s3 a3 r3 => ?_⟩
    have g3 : Grow I2 H2 I3 H3 := ⟨fun b o hb => s3.same b o hb (no b), s3.sub, a3.sub, fun b o hb => by
      rcases s3.fresh b o hb with z | z | z
      · exact .inl z
      · exact .inr z
      · exact (no b z).elim⟩
    exact k v I3 H3 d' Γ2 hr2 (s.trans g3.stp) (a2.grow g3) r3
  | ex C' fs' =>
    refine ⟨I2, _, .ex C' fs', am, ⟨_, .ex C' fs', rfl, hp, rfl⟩, fun dd H' kp q => ?_⟩
    exact x0 C' fs' dd H' hr2 (Kp.after s fun b o hb _ => kp b o hb (no b)) q
theorem w_methD {CX : CXT} {k : Nat} {ps : List Str} {p : List D → Ox → Prop} {o : Expr} {m : Str} {apos : Pos} {e : Expr} {es : List Expr} {C : Addr} (F : Mv X.prog X.w X.K X.mg X.base CX k C m ps (PureX p)) (c : Cls X.K C) (hr : Room k X.A) (hx : Passes CX X E)
    (h : Wp X E XE o Γ fun d Γ0 => ∃ fs, d = .ins C fs ∧ fs.lookup m = none ∧ WpD X E XE (e :: es) Γ0 fun ds Γ1 => ∃ r, p (d :: ds) r ∧ match r with
      | .ok d' => R d' Γ1
      | .ex C fs => XE C fs) (hst : starEach (e :: es) X.env = (false, eval e X.env) :: starEach es X.env := by rfl) (hpl : (backTo pos (starEach es X.env)).any (·.1) = false := by rfl)
    {pl : Sem Bool} (ht : eval (.Call (.Attribute o m apos) (e :: es) [] pos) X.env = (do let ov ← eval o X.env; standAt apos.atName; let (f, first) ← holding [ov] (getMethod ov m pl); callWith pos f first (backTo pos (starEach (e :: es) X.env)) (backToKw pos (keywordEach [] X.env))) := by rfl) :
    Wp X E XE (.Call (.Attribute o m apos) (e :: es) [] pos) Γ R := by
  obtain ⟨f, fd, hm, hb, F⟩ := F.ex
  refine .of (pe_meth (pe_sem X o) c hm F hr hb .nil hx (pa_sem X _) hst hpl ht) fun σ I H Q a k x0 => h σ I H _ a (fun v I1 H1 d Γ0 ⟨fs, ed, hl, h1⟩ s1 a1 r1 => ?_) x0
  subst ed
  cases r1 with
  | @ins b _ dx fv _ hb1 rf =>
    refine ⟨b, dx, fv, rfl, a1.sub _ _ hb1, rf.getN hl, h1 σ I1 H1 _ a1 (fun vs I2 H2 ds Γ2 ⟨r, hp, hr2⟩ s2 a2 r2 => ?_) (x0.after s1)⟩
    show Cg X.K (PureX p) (.ref b :: (vs ++ [])) H2 Q E
    rw [List.append_nil]
    exact pure_go a2 (s1.trans s2) (.cons (.ins (s2.sub _ _ hb1) (rf.mono s2.sub)) r2) x0 k hr2 hp
theorem w_methD0 {CX : CXT} {k : Nat} {ps : List Str} {p : List D → Ox → Prop} {o : Expr} {m : Str} {apos : Pos} {C : Addr} (F : Mv X.prog X.w X.K X.mg X.base CX k C m ps (PureX p)) (c : Cls X.K C) (hr : Room k X.A) (hx : Passes CX X E)
    (h : Wp X E XE o Γ fun d Γ0 => ∃ fs, d = .ins C fs ∧ fs.lookup m = none ∧ ∃ r, p [d] r ∧ match r with
      | .ok d' => R d' Γ0
      | .ex C fs => XE C fs)
    {pl : Sem Bool} (ht : eval (.Call (.Attribute o m apos) [] [] pos) X.env = (do let ov ← eval o X.env; standAt apos.atName; let (f, first) ← holding [ov] (getMethod ov m pl); callWith pos f first (backTo pos (starEach [] X.env)) (backToKw pos (keywordEach [] X.env))) := by rfl) :
    Wp X E XE (.Call (.Attribute o m apos) [] [] pos) Γ R := by
  obtain ⟨f, fd, hm, hb, F⟩ := F.ex
  refine .of (pe_meth0 (pe_sem X o) c hm F hr hb .nil hx ht) fun σ I H Q a k x0 => h σ I H _ a (fun v I1 H1 d Γ0 ⟨fs, ed, hl, r, hp, hr2⟩ s1 a1 r1 => ?_) x0
  subst ed
  cases r1 with
  | @ins b _ dx fv _ hb1 rf =>
    refine ⟨b, dx, fv, rfl, a1.sub _ _ hb1, rf.getN hl, ?_⟩
    exact pure_go a1 s1 (.cons (.ins hb1 rf) .nil) x0 k hr2 hp
/-- o.m(), o a new instance, lent to the call alone -/
theorem w_methN0 {CX : CXT} {k : Nat} {ps : List Str} {pre : En → Res → Prop} {o : Expr} {m : Str} {apos : Pos} {C : Addr} (F : Mv X.prog X.w X.K X.mg X.base CX k C m ps pre) (c : Cls X.K C) (hr : Room k X.A) (hx : Passes CX X E)
    (h : WpN X E XE o Γ fun ow Γ1 => ∃ fs, ow = .ins C fs ∧ fs.lookup m = none ∧ ∀ p, ∃ r, pre [.own p (.ins C fs)] r ∧ match r with
      | .ok d' _ => R d' Γ1
      | .ex C fs => XE C fs)
    {pl : Sem Bool} (ht : eval (.Call (.Attribute o m apos) [] [] pos) X.env = (do let ov ← eval o X.env; standAt apos.atName; let (f, first) ← holding [ov] (getMethod ov m pl); callWith pos f first (backTo pos (starEach [] X.env)) (backToKw pos (keywordEach [] X.env))) := by rfl) :
    Wp X E XE (.Call (.Attribute o m apos) [] [] pos) Γ R := by
  obtain ⟨f, fd, hm, hb, F⟩ := F.ex
  refine .of (pe_meth0 (pe_sem X o) c hm F hr hb .nil hx ht) fun σ I H Q a k x0 => h σ I H _ a (fun p I1 H1 ow Γ1 ⟨fs, eo, hl, h1⟩ s1 a1 n1 w1 no was => ?_) x0
  subst eo
  obtain ⟨dx, fv, hp1, rf⟩ := w1
  refine ⟨p, dx, fv, rfl, hp1, rf.getN hl, ?_⟩
  show Cg X.K pre [.ref p] H1 Q E
  obtain ⟨r, hpre, hr2⟩ := h1 p
  have ac := at_own (ds := []) a1.sub n1 (o := .ins C fs) ⟨dx, fv, hp1, rf⟩ .nil
  cases r with
  | ok d' As' =>
    refine ⟨I1, _, .ok d' As', ac, hpre, fun v I3 H3 s3 a3 r3 => ?_⟩
    exact k v I3 H3 d' Γ1 hr2 (stp_one s1 s3 (fun q hq => own_one hq) was) (back_one a1 no s3 (fun q hq => own_one hq) a3.sub) r3
  | ex C' fs' =>
    refine ⟨I1, _, .ex C' fs', ac, hpre, fun dd H' kp q => ?_⟩
    refine x0 C' fs' dd H' hr2 (fun b o hb nb => kp b o (s1.same b o hb nb) fun z => ?_) q
    have := own_one (ds := []) z
    subst this
    rcases was with z | z
    · exact nb z
    · rw [hb] at z; cases z
end
end Dl

set_option Elab.async false
set_option linter.all false
set_option maxRecDepth 100000
set_option maxHeartbeats 2000000
namespace Dl
open PySem PySem.Spec PyProof.Rows L2
/-! ### raise -/
/-- an exception's __init__ that puts its arguments into fields -/
def spX (K : PySem.W.Frag) (C : Addr) (fn : List V → List (Str × V)) (n : Nat) : Sp := fun vs H Q _ => ∃ (a : Addr) (ws : List V), vs = .ref a :: ws ∧ ws.length = n ∧ H a = some (exo a C none) ∧
  ∀ (d : Addr) (H2 : Hp), H d = none → d ≠ a → H2 a = some (exo a C (some d)) → H2 d = some (exd d (fn ws)) → (∀ b, b ≠ a → b ≠ d → H2 b = H b) → Q .non H2
/-- an exception's class of the text -/
structure Xk (P : Program) (w : World) (K : PySem.W.Frag) (mg : Str → Option Value) (base : Heap) (x : Str) (C : Addr) (ps : List Str) (fn : List V → List (Str × V)) (n : Nat) : Prop where
  hm : mg x = some (.ref C)
  o : OexC K C
  xf : XfC K C
  te : PySem.W.exmOne K (.ref C) (.ref C) = some true
  ini : ∃ fI fd, PySem.W.findIn K (.ref C) "__init__" = some (some (.ref fI)) ∧ PySem.W.typeIn K (.ref fI) = some (.type "function") ∧ Binds K fd ps [] ∧ FnOk P w K mg base CX0 1 fI fd ps (spX K C fn n)
theorem ints_ev {K : PySem.W.Frag} {I : Hp} : ∀ (is : List Int) {vs : List V}, RpA K I vs (is.map D.int) → vs = is.map V.int
  | [], _, .nil => rfl
  | i :: is, _, .cons h r => by cases h; rw [ints_ev is r]; rfl
section
variable {X : Cx} {E : XK} {XE : XS} {Γ : En} {R : Re} {pos : Pos}
theorem s_raise {x : Str} {C : Addr} {ps : List Str} {fn : List V → List (Str × V)} {n : Nat} {px cpos : Pos} {e : Expr} {es : List Expr} (T : Xk X.prog X.w X.K X.mg X.base x C ps fn n) (tk : Takes X fun cls d _ H => E cls d H) (hr : Room 2 X.A) (hg : Gl X x) (hp0 : Passes CX0 X fun _ _ _ => False)
    (h : WpD X E XE (e :: es) Γ fun ds Γ1 => ∃ is : List Int, ds = is.map D.int ∧ is.length = n ∧ n ≤ 1000 ∧ XE C (fn (is.map V.int)))
    (hc : X.calm = true := by rfl) (hdb : (x == ("__debug__" : Str)) = false := by decide) (he : starEach (e :: es) X.env = (false, eval e X.env) :: starEach es X.env := by rfl) (hpl : (backTo cpos (starEach es X.env)).any (·.1) = false := by rfl) :
    WpS X E XE (.Raise (some (.Call (.Name x px) (e :: es) [] cpos)) none pos) Γ R := by
  obtain ⟨fI, fd, iC, tI, hb, F⟩ := T.ini
  refine .of (ps_raise hc tk (pmk_oex T.o iC tI F hr hb .nil hp0 hg T.hm (pa_sem X _) hdb he hpl)) fun σ I H Z a k x0 => h σ I H _ a (fun vs I1 H1 ds Γ1 ⟨is, ed, hn, hn2, hX⟩ s1 a1 r1 => ?_) x0
  have ev : vs = is.map V.int := by
    subst ed
    exact ints_ev is r1
  subst ev
  refine ⟨by rw [List.length_map]; omega, fun aa ha => ?_⟩
  show spX X.K C fn n (.ref aa :: (is.map V.int ++ [])) _ _ _
  rw [List.append_nil]
  refine ⟨aa, _, rfl, by rw [List.length_map]; exact hn, upd_same, fun d H2 hd ne h1 h2 h3 => ?_⟩
  rw [upd_ne ne] at hd
  refine ⟨rfl, d, _, h1, h2, hd, x0 C _ d _ hX (Kp.after s1 fun b o hb nb => ?_) upd_same⟩
  have n1 : b ≠ aa := ne_of_none hb ha
  have n2 : b ≠ d := ne_of_none hb hd
  rw [upd_ne n2]
  show (if b = aa then none else H2 b) = some o
  rw [if_neg n1, h3 b n1 n2, upd_ne n1]
  exact hb
/-! ### try -/
/-- what an except suite tells of a caught exception: a list of ints -/
def Tells (K : PySem.W.Frag) (ts : Addr → Value → Option Addr → TS) (i : Nat) (C : Addr) (fs : List (Str × V)) (is : List Int) : Prop := ∀ a dd (Z : Ends) (σ : L2.St) (H : Hp), σ[i]? = some (some (.ref a)) → H dd = some (.xd fs) → (∀ l, H l = none → Z.rt (.ref l) (upd H l (.lst (is.map V.int)))) → ts a (.ref C) (some dd) Z σ H
theorem ints_rp {K : PySem.W.Frag} {I : Hp} : ∀ is : List Int, RpA K I (is.map V.int) (is.map D.int)
  | [] => .nil
  | i :: is => .cons (.int i) (ints_rp is)
theorem at_un {K : PySem.W.Frag} {σ : L2.St} {I H : Hp} (a : At K σ I H Γ) : At K σ I H (Γ.map fun _ => Sl.un) := by
  refine ⟨a.sub, by rw [List.length_map]; exact a.len, fun i s h => ?_, fun i j q o1 o2 h _ => ?_⟩
  · rw [List.getElem?_map] at h
    cases e : Γ[i]? with
    | none => rw [e] at h; cases h
    | some s0 =>
      rw [e] at h; cases h
      obtain ⟨x, e1, _⟩ := a.sl i s0 e
      exact ⟨x, e1, trivial⟩
  · rw [List.getElem?_map] at h
    cases e : Γ[i]? with
    | none => rw [e] at h; cases h
    | some s0 => rw [e] at h; cases h
theorem un_no {p : Addr} : ¬ Own (Γ.map fun _ => Sl.un) p := fun ⟨j, o, h⟩ => by
  rw [List.getElem?_map] at h
  cases e : Γ[j]? with
  | none => rw [e] at h; cases h
  | some s => rw [e] at h; cases h
theorem grow_of {I H I' H' : Hp} {Γ0 Γ' : En} (no : ∀ p, ¬ Own Γ0 p) (s : Stp Γ0 I H Γ' I' H') (v : Same I' H') : Grow I H I' H' := ⟨fun b o hb => s.same b o hb (no b), s.sub, v, fun b o hb => by
  rcases s.fresh b o hb with z | z | z
  · exact .inl z
  · exact .inr z
  · exact (no b z).elim⟩
/-- behind an exception: a list of ints is given back -/
theorem tell_rt {K : PySem.W.Frag} {σ : L2.St} {I H H' : Hp} {is : List Int} {Z : Ends} (a : At K σ I H Γ) (k : KD K R Γ I H Z) (kp : Same H H') (r : R.rt (.lst (is.map D.int)) Γ) (l : Addr) (hl : H' l = none) : Z.rt (.ref l) (upd H' l (.lst (is.map V.int))) := by
  have g1 : Grow I H I H' := ⟨kp, Same.refl I, a.sub.trans kp, fun _ _ h => .inl h⟩
  have g2 : Grow I H' (upd I l (.lst (is.map V.int))) (upd H' l (.lst (is.map V.int))) := .new g1.view hl
  have g := g1.trans g2
  exact k.rt (.ref l) σ _ _ _ Γ r g.stp (a.grow g) (.lst upd_same (ints_rp is))
theorem s_tryCall {x f y n : Str} {C : Addr} {ps : List Str} {fn : List V → List (Str × V)} {nf k : Nat} {p : List D → Ox → Prop} {d : D} {b0 : Stmt} {suite : List Stmt} {z : Str} {np pos' pf pz py cpos apos : Pos} {ts : Addr → Value → Option Addr → TS} (i j m : Nat) (T : Xk X.prog X.w X.K X.mg X.base x C ps fn nf)
    {ps' : List Str} (F : Fv X.prog X.w X.K X.mg X.base (L2.CX X.prog X.w) k f ps' (PureX p)) (hr : Room k X.A) (hgf : Gl X f) (hg : Gl X x) (hN : X.N.Nodup) (hi : X.N[i]? = some n) (hln : X.env.kindOf n = some .local) (hj : X.N[j]? = some y) (hy : Loc X.env.scope y)
    (hm : Γ[m]? = some (.im d)) (hmN : X.N[m]? = some z) (hv : Vis X.env.scope z)
    (hs : X.stack = X.env :: X.outer) (hf : X.env.frame = some X.env.locals)
    (hsu : ∀ (a : Addr) (oe : Obj) (cls : Value) (d : Option Addr) (pn : List (Addr × Obj)), Zc cls d oe → (∃ vs, oe.data = .fields vs) → PSs (X.suite a ((a, oe) :: pn)) (b0 :: suite) (ts a cls d))
    (h : ∃ o, p [d] o ∧ match o with
      | .ok d' => R.nx (Γ.set j (.im d'))
      | .ex C' fs' => C' = C ∧ i < Γ.length ∧ ∃ is, Tells X.K ts i C fs' is ∧ R.rt (.lst (is.map D.int)) Γ)
    (hd : (z == ("__debug__" : Str)) = false := by decide) (hcd : (z == ("__classdict__" : Str)) = false := by decide) (hdx : (x == ("__debug__" : Str)) = false := by decide) (hdf : (f == ("__debug__" : Str)) = false := by decide)
    (he : ∀ pn xe, starEach [.Name z pz] (X.tr pn xe).env = (false, eval (.Name z pz) (X.tr pn xe).env) :: starEach [] (X.tr pn xe).env := by intros; rfl)
    (hsw : ∀ pn xe, swapsWith (.Call (.Name f pf) [.Name z pz] [] cpos) (some (.Name y py)) apos.line (X.tr pn xe).env = pure false := by intros; rfl)
    (hfn : X.fn y = true ∨ X.env.scope.names.lookup y = some .local := by exact .inl rfl) :
    WpS X E XE (.Try [.Assign [.Name y py] (.Call (.Name f pf) [.Name z pz] [] cpos) apos] [.ExceptHandler (some (.Name x np)) (some n) (b0 :: suite) pos'] [] [] pos) Γ R := by
  obtain ⟨ff, fd, hmf, hk, hb, F⟩ := F.ex
  refine .of (ps_try_as (i := i) (tb := fun W => _) hs hf hN hi hln ⟨hg, hdx, .inl T.hm⟩ takes0 (fun W pn xe tk _ => pss_one (ps_set (i := j) hN hj hy (pe_callS F hr hgf hmf hk hb (fun σ => passAt tk σ) (pa_cons (pe_var hmN hv hd hcd) pa_nil (he pn xe)) hdf (he pn xe) rfl) (hsw pn xe) hfn)) hsu) fun σ I H Z a k x0 => ?_
  obtain ⟨v, ev, rv⟩ := a.im hm
  obtain ⟨o, hp, ho⟩ := h
  refine ⟨v, ev, ?_⟩
  show Cg X.K (PureX p) [v] H _ (WE _ σ)
  refine pure_go (Γ := Γ.map fun _ => Sl.un) (Γ2 := Γ.map fun _ => Sl.un) (R := fun d' Γ' => Γ' = Γ.map (fun _ => Sl.un) ∧ o = .ok d') (XE := fun C' fs' => o = .ex C' fs') (at_un a) .refl (.cons rv .nil) ?_ ?_ ?_ hp
  · intro C' fs' dd H' hX kp hd
    subst hX
    obtain ⟨rfl, hl, is, tl, r⟩ := ho
    have kp : Same H H' := fun b w hb => kp b w hb un_no
    exact ⟨true, T.te, fun _ aa ha => tl aa dd _ _ H' (by rw [List.getElem?_set_self (by rw [a.len]; exact hl)]) hd fun l hl => tell_rt a k kp r l hl, fun z => nomatch z⟩
  · rintro w I' H' d' Γ' ⟨rfl, rfl⟩ s1 a1 rw
    have g := grow_of (fun p => un_no) s1 a1.sub
    exact k.nx _ I' H' _ ho (g.stp.trans (stp_set (a.grow g))) ((a.grow g).set j rw)
  · cases o with
    | ok d' => exact ⟨rfl, rfl⟩
    | ex C' fs' => rfl
theorem cx_mono {P : Program} {w : World} {outer : List Env} {H : Hp} {s s' : Shared} {E E' : XK} {u : Value} (h : L2.CX P w outer H s E u s') (e : ∀ c d H, E c d H → E' c d H) : L2.CX P w outer H s E' u s' := by
  obtain ⟨a, B, H', cls, d, h1, h2, h3, h4, h5, h6, h7, h8⟩ := h
  exact ⟨a, B, H', cls, d, h1, h2, h3, h4, h5, h6, h7, e _ _ _ h8⟩
/-- a try whose body sees the owned instance in slot i0 -/
theorem s_trySee {x n : Str} {C C0 : Addr} {ps : List Str} {fn : List V → List (Str × V)} {nf : Nat} {b0 : Stmt} {body suite : List Stmt} {np pos' : Pos} {ts : Addr → Value → Option Addr → TS} {p : Addr} {fs0 : List (Str × D)} (i i0 : Nat) (XE' : XS) (T : Xk X.prog X.w X.K X.mg X.base x C ps fn nf)
    (hg : Gl X x) (hN : X.N.Nodup) (hi : X.N[i]? = some n) (hln : X.env.kindOf n = some .local) (h0 : Γ[i0]? = some (.own p (.ins C0 fs0)))
    (hs : X.stack = X.env :: X.outer) (hf : X.env.frame = some X.env.locals)
    (hsu : ∀ (a : Addr) (oe : Obj) (cls : Value) (d : Option Addr) (pn : List (Addr × Obj)), Zc cls d oe → (∃ vs, oe.data = .fields vs) → PSs (X.suite a ((a, oe) :: pn)) (b0 :: suite) (ts a cls d))
    (hX : ∀ C' fs', XE' C' fs' → C' = C ∧ i < Γ.length ∧ ∃ is, Tells X.K ts i C fs' is ∧ R.rt (.lst (is.map D.int)) Γ)
    (hb : ∀ pn xe (E' : XK), Passes (L2.CX X.prog X.w) (X.tr pn xe) E' → WpSs (X.tr pn xe) E' XE' body (seeE Γ i0 (.ins C0 fs0)) { nx := fun _ => False, rt := fun d _ => NI d ∧ R.rt d Γ })
    (hdx : (x == ("__debug__" : Str)) = false := by decide) :
    WpS X E XE (.Try body [.ExceptHandler (some (.Name x np)) (some n) (b0 :: suite) pos'] [] [] pos) Γ R := by
  refine .of (ps_try_as (i := i) (tb := fun W => fun Z σ H => ∀ pn xe, Takes (X.tr pn xe) W → semSs (X.tr pn xe) body Z σ H) hs hf hN hi hln ⟨hg, hdx, .inl T.hm⟩ takes0 (fun W pn xe tk _ => ⟨fun pins s σ H Z Iv h => h pn xe tk pins s Iv⟩) hsu) fun σ I H Z a k x0 => ?_
  intro pn xe tk
  obtain ⟨u, hu⟩ := (a.own h0).2.2.there
  have hlen : ∀ {pins σ' H' s}, L2.Inv (X.tr pn xe) pins σ' H' s → σ'.length = X.N.length := fun Iv => Iv.len
  refine hb pn xe (fun cls d H' => ∀ σ' : L2.St, σ'.length = X.N.length → wAs X.K (.ref C) i ts (fun _ _ _ _ => False) Z cls d σ' H') ?_ σ (upd I p u) H Z (a.show1 h0 hu) ⟨fun _ _ _ _ z _ _ => z.elim, fun v σ' I2 H2 d Γ' ⟨ni, r⟩ s2 a2 rv => ?_, fun _ _ _ _ z _ _ => z.elim, fun _ _ _ _ z _ _ => z.elim⟩ ?_
  · intro pins σ' H' s e s' Iv c
    exact passAt tk σ' pins H' s e s' Iv (cx_mono c fun cls d H q => q σ' (hlen Iv))
  · obtain ⟨I3, g, t⟩ := shownI a h0 hu s2 a2.sub
    exact k.rt v σ I3 H2 d Γ r g.stp (a.grow g) (rv.ni t ni)
  · intro C' fs' dd H' hX' kp hd σ' hl'
    obtain ⟨rfl, hl, is, tl, r⟩ := hX C' fs' hX'
    have kp : Same H H' := fun b w hb => kp b w hb seeE_no
    have iN : i < X.N.length := by
      rcases Nat.lt_or_ge i X.N.length with z | z
      · exact z
      · rw [List.getElem?_eq_none z] at hi; cases hi
    exact ⟨true, T.te, fun _ aa ha => tl aa dd _ _ H' (by rw [List.getElem?_set_self (by rw [hl']; exact iN)]) hd fun l hl => tell_rt a k kp r l hl, fun z => nomatch z⟩
theorem s_tryNo {body : List Stmt} {h0 : ExceptHandler} {hs : List ExceptHandler} (h : WpSs X.nox E XE body Γ R) : WpS X E XE (.Try body (h0 :: hs) [] [] pos) Γ R :=
  .of (ps_try_thru0 (pss_sem X.nox body)) fun σ I H Z a k x => h σ I H Z a k x
end
end Dl

set_option Elab.async false
set_option linter.all false
set_option maxRecDepth 100000
set_option maxHeartbeats 2000000
namespace Dl
open PySem PySem.Spec PyProof.Rows L2
/-- a dict of the module, from ints to texts -/
inductive TabKV : List (Int × Str) → List (Int × Value) → Prop
  | nil : TabKV [] []
  | cons {i : Int} {z : Str} {t : Tok} {r : List (Int × Str)} {r' : List (Int × Value)} : TabKV r r' → TabKV ((i, z) :: r) ((i, .str z t) :: r')
structure ITab (P : Program) (w : World) (K : PySem.W.Frag) (mg : Str → Option Value) (x : Str) (kvs : List (Int × Str)) : Prop where
  ex : ∃ (d : Addr) (o : Obj) (kv : List (Int × Value)), mg x = some (.ref d) ∧ K.lookup d = some o ∧ (d == sysModules) = false ∧ o.IsDictOf (intKind P w) kv ∧ TabKV kvs kv
theorem TabKV.flat {kvs : List (Int × Str)} {kv : List (Int × Value)} (h : TabKV kvs kv) : PyProof.V.FlatPairs PyData.int kv (kvs.map fun p => (PyData.int p.1, PyData.str p.2)) := by
  induction h with
  | nil => exact .nil
  | cons _ ih => exact .cons (fun h => .str _ _) ih
theorem same_int (a b : Int) : same (PyData.int a) (PyData.int b) = decide (a = b) := by
  rw [Bool.eq_iff_iff]
  simp [same]
theorem tab_lookup {kvs : List (Int × Str)} (i : Int) : (PySem.Spec.lookup (PyData.int i) (kvs.map fun p => (PyData.int p.1, PyData.str p.2))).isSome = (kvs.lookup i).isSome := by
  induction kvs with
  | nil => rfl
  | cons p r ih =>
    rw [List.map_cons, List.lookup_cons]
    unfold PySem.Spec.lookup
    by_cases e : i = p.1
    · subst e
      simp [same]
    · have : (i == p.1) = false := by simpa using e
      rw [this]
      rw [← ih]
      have e' : ¬ p.1 = i := fun z => e z.symm
      simp [same, e, e']
theorem TabKV.val {kvs : List (Int × Str)} {kv : List (Int × Value)} (h : TabKV kvs kv) {i : Int} {z : Str} (e : kvs.lookup i = some z) : ∃ t, valueAt kv i = some (.str z t) := by
  induction h with
  | nil => cases e
  | @cons j y t r r' h ih =>
    rw [List.lookup_cons] at e
    by_cases q : i = j
    · subst q
      simp at e
      subst e
      exact ⟨t, by simp [valueAt]⟩
    · have : (i == j) = false := by simpa using q
      rw [this] at e
      obtain ⟨t', h'⟩ := ih e
      have q' : ¬ j = i := fun z => q z.symm
      exact ⟨t', by simpa [valueAt, q, q'] using h'⟩
section
variable {X : Cx} {E : XK} {XE : XS} {Γ : En} {R R' : D → En → Prop} {pos : Pos}
theorem w_tabIn {x : Str} {px : Pos} {kvs : List (Int × Str)} {a : Expr} (T : ITab X.prog X.w X.K X.mg x kvs) (hg : Gl X x)
    (h : Wp X E XE a Γ fun y Γ1 => ∃ i, y = .int i ∧ R (.bl (kvs.lookup i).isSome) Γ1) (hm : behindInMarks .In (.Name x px) = false := by first | exact nomark _ | rfl) (hd : (x == ("__debug__" : Str)) = false := by decide) : Wp X E XE (.Compare a [.In] [.Name x px] pos) Γ R := by
  obtain ⟨d, o, kv, hmg, hl, ns, io, fp⟩ := T.ex
  have op : OpR X (compareOp .In) (fun x y H Q => ∃ i, x = .int i ∧ y = .ref d ∧ Q (.bl (kvs.lookup i).isSome) H) := by
    rintro pins s σ H _ _ v u Q Iv r1 r2 ⟨i, rfl, rfl, q⟩
    obtain ⟨t, rfl⟩ := r1
    have r2 : u = .ref d := r2
    subst r2
    refine in_intTab (D := kvs.map fun p => (PyData.int p.1, PyData.str p.2)) (.ofObj ns (Iv.kIn d o hl) io fp.flat) ⟨.bl _, H, Iv.tok _, ?_, q⟩
    rw [tab_lookup]; rfl
  refine .of (pe_cmpR op (pe_sem X a) (pe_glob (v := .ref d) hg hmg rfl hd) hm) fun σ I H Q a0 k x0 => h σ I H _ a0 (fun v I1 H1 y Γ1 ⟨i, e, r⟩ s1 a1 r1 => ?_) x0
  subst e
  cases r1
  exact ⟨i, rfl, rfl, k _ I1 H1 _ Γ1 r s1 a1 (.bl _)⟩
theorem w_tabIx {x : Str} {px : Pos} {kvs : List (Int × Str)} {a : Expr} (T : ITab X.prog X.w X.K X.mg x kvs) (hg : Gl X x)
    (h : Wp X E XE a Γ fun y Γ1 => ∃ i z, y = .int i ∧ kvs.lookup i = some z ∧ R (.str z) Γ1) (hs : PlainIx a := by exact fun _ _ => rfl) (hd : (x == ("__debug__" : Str)) = false := by decide) : Wp X E XE (.Subscript (.Name x px) a pos) Γ R := by
  obtain ⟨d, o, kv, hmg, hl, ns, io, fp⟩ := T.ex
  have op : IxR X (fun x y H Q => ∃ i z, x = .ref d ∧ y = .int i ∧ kvs.lookup i = some z ∧ Q (.str z) H) := by
    rintro va sl pins s σ H _ _ v u Q Iv r1 r2 ⟨i, z, rfl, rfl, hz, q⟩ hsu
    obtain ⟨t, rfl⟩ := r2
    have r1 : v = .ref d := r1
    subst r1
    have dk : Heap.DictOf (intKind X.prog X.w) s.heap d kv := by
      obtain ⟨es, ep, h1, h2, h3, h4, h5⟩ := io
      exact ⟨o, es, ep, Iv.kIn d o hl, h1, h2, h3, h4, h5⟩
    obtain ⟨t', hv⟩ := fp.val hz
    refine subscriptTail_builtinR (x := .str z t') dk.typeIs PySem.F.slot_dict_getitem.lookup ?_ hsu
    refine wpAny_getItem_of (knd := intKind X.prog X.w) (k := i) ?_ dk.mapOf hv ⟨rfl, .str z, H, Iv.tok _, ⟨_, rfl⟩, q⟩
    simp [intKind, Value.isInt]
  refine .of (pe_ix op (pe_glob (v := .ref d) hg hmg rfl hd) (pe_sem X a) hs) fun σ I H Q a0 k x0 => h σ I H _ a0 (fun v I1 H1 y Γ1 ⟨i, z, e, hz, r⟩ s1 a1 r1 => ?_) x0
  subst e
  cases r1
  exact ⟨i, z, rfl, rfl, hz, k _ I1 H1 _ Γ1 r s1 a1 (.str z)⟩
/-- isinstance(e, tuple), isinstance(e, str) -/
def isiD (T : String) : D → Option Bool
  | .int _ => some false
  | .str _ => some (T == "str")
  | .tup _ => some (T == "tuple")
  | _ => none
theorem w_isi {T : String} {Tx : Str} {p px : Pos} {e : Expr} (hT : T = "tuple" ∨ T = "str") (hg : Gl X "isinstance") (hm : X.mg "isinstance" = none) (hg2 : Gl X Tx) (hm2 : X.mg Tx = none) (hb2 : bootBuiltins Tx = some (.type T)) (hn2 : Tx ≠ ("__name__" : Str))
    (h : Wp X E XE e Γ fun d Γ1 => ∃ b, isiD T d = some b ∧ R (.bl b) Γ1)
    (hd2 : (Tx == ("__debug__" : Str)) = false := by decide) (hs : starEach [e, .Name Tx px] X.env = (false, eval e X.env) :: starEach [.Name Tx px] X.env := by rfl) (hs2 : starEach [.Name Tx px] X.env = (false, eval (.Name Tx px) X.env) :: starEach [] X.env := by rfl) (hpl : (backTo pos (starEach [.Name Tx px] X.env)).any (·.1) = false := by rfl) :
    Wp X E XE (.Call (.Name "isinstance" p) [e, .Name Tx px] [] pos) Γ R := by
  refine .of (pe_callB call_isi hg hm boot_isinstance (pa_cons (pe_sem X e) (pa_cons (pe_bltn (v := .ty T) hg2 hm2 hb2 rfl hn2 hd2) pa_nil hs2) hs) (by decide) (by decide) hs hpl) fun σ I H Q a0 k x0 => h σ I H _ a0 (fun v I1 H1 d Γ1 ⟨b, e, r⟩ s1 a1 r1 => ?_) x0
  have K := k _ I1 H1 _ Γ1 r s1 a1 (.bl b)
  cases r1 with
  | int i =>
    refine ⟨_, _, .type "int", .type T, b, rfl, .ty T, .base (.int i), kit_ty ?_, K⟩
    cases e
    rcases hT with rfl | rfl <;> decide +kernel
  | str z =>
    refine ⟨_, _, .type "str", .type T, b, rfl, .ty T, .base (.str z), kit_ty ?_, K⟩
    cases e
    rcases hT with rfl | rfl <;> decide +kernel
  | @tup c xs ds h1 rr =>
    have kt : kitB "tuple" T = some b := by
      cases e
      rcases hT with rfl | rfl <;> decide +kernel
    rcases same_sqT a1.sub h1 with (h1 | ⟨o, h1⟩) | ⟨o, its, n, hl, hc, _⟩
    · exact ⟨_, _, .type "tuple", .type T, b, rfl, .ty T, .base (.tup h1), kit_ty kt, K⟩
    · exact ⟨_, _, .type "tuple", .type T, b, rfl, .ty T, .fTuple h1, kit_ty kt, K⟩
    · exact ⟨_, _, .type "tuple", .type T, b, rfl, .ty T, .kTuple hl hc, kit_ty kt, K⟩
  | non => cases e
  | bl b => cases e
  | lst _ _ => cases e
  | dct _ _ => cases e
  | ins _ _ => cases e
  | arr _ => cases e
/-- sep.join(e) -/
theorem strs_ev {K : PySem.W.Frag} {I : Hp} : ∀ (ss : List Str) {vs : List V}, RpA K I vs (ss.map D.str) → vs = ss.map V.str
  | [], _, .nil => rfl
  | s :: ss, _, .cons h r => by cases h; rw [strs_ev ss r]; rfl
theorem w_join {o e : Expr} {apos : Pos} (h : Wp X E XE o Γ fun d Γ0 => ∃ z, d = .str z ∧ Wp X E XE e Γ0 fun d Γ1 => ∃ ss : List Str, d = .lst (ss.map D.str) ∧ (ss.map (·.length)).sum + ss.length * z.length ≤ 16777216 ∧ R (.str (Txt.join z ss)) Γ1)
    (hs : starEach [e] X.env = [(false, eval e X.env)] := by rfl) (hb : attributeBase o "join" X.env (eval o X.env) = eval o X.env := by rfl) (hl : (apos.endLine == pos.line) = true := by rfl) :
    Wp X E XE (.Call (.Attribute o "join" apos) [e] [] pos) Γ R := by
  refine .of (pe_join (pe_sem X o) (pe_sem X e) hs hb hl) fun σ I H Q a0 k x0 => h σ I H _ a0 (fun v I1 H1 d Γ0 ⟨z, ez, h1⟩ s1 a1 r1 => ?_) x0
  subst ez
  cases r1
  refine ⟨⟨z, rfl⟩, h1 σ I1 H1 _ a1 (fun v I2 H2 d Γ2 ⟨ss, ed, hz, r⟩ s2 a2 r2 => ?_) (x0.after s1)⟩
  subst ed
  cases r2 with
  | lst hb rr =>
    have ev := strs_ev ss rr
    subst ev
    exact ⟨z, _, ss, rfl, rfl, .inl (SqL.of (a2.sub _ _ hb)), hz, k _ I2 H2 _ Γ2 r (s1.trans s2) a2 (.str _)⟩
theorem t_chain {a b c : Expr} {op op' : CmpOp} {R : Bool → En → Prop} (h : Wp X E XE a Γ fun x Γ1 => Wp X E XE b Γ1 fun y Γ2 => ∃ z, Op2 X (compareOp op) x y (.bl z) ∧ (z = false → R false Γ2) ∧ (z = true → Wp X E XE c Γ2 fun w Γ3 => ∃ z', Op2 X (compareOp op') y w (.bl z') ∧ R z' Γ3))
    (hm : lastMarks [op, op'] [b, c] = false := by with_unfolding_all rfl) : WpT X E XE (.Compare a [op, op'] [b, c] pos) Γ R :=
  .of (pt_chain (opr_sem X _) (opr_sem X _) (pe_sem X a) (pe_sem X b) (pe_sem X c) hm) fun σ I H Q a k x0 =>
    h σ I H _ a (fun u I1 H1 d1 Γ1 h1 s1 a1 r1 => h1 σ I1 H1 _ a1 (fun v I2 H2 d2 Γ2 ⟨z, ho, hF, hT⟩ s2 a2 r2 => ho I2 H2 u v _ a2.sub (r1.mono s2.sub) r2 fun w I3 H3 g r3 => by
      cases r3
      refine ⟨z, rfl, ?_⟩
      have s3 := (s1.trans s2).trans (g.stp (Γ := Γ2))
      have a3 := a2.grow g
      cases z with
      | false =>
        rw [if_neg Bool.false_ne_true]
        exact ⟨false, rfl, k false I3 H3 Γ2 (hF rfl) s3 a3⟩
      | true =>
        rw [if_pos rfl]
        refine hT rfl σ I3 H3 _ a3 (fun y I4 H4 d4 Γ4 ⟨z', ho', r'⟩ s4 a4 r4 => ho' I4 H4 v y _ a4.sub ((r2.mono g.sub).mono s4.sub) r4 fun w' I5 H5 g5 r5 => by
          cases r5
          exact ⟨z', rfl, k z' I5 H5 Γ4 r' ((s3.trans s4).trans g5.stp) (a4.grow g5)⟩) (x0.after s3)) (x0.after s1)) x0
theorem t_tabIn {x : Str} {R : Bool → En → Prop} {px : Pos} {kvs : List (Int × Str)} {a : Expr} (T : ITab X.prog X.w X.K X.mg x kvs) (hg : Gl X x)
    (h : Wp X E XE a Γ fun y Γ1 => ∃ i, y = .int i ∧ R (kvs.lookup i).isSome Γ1) (hm : behindInMarks .In (.Name x px) = false := by first | exact nomark _ | rfl) (hd : (x == ("__debug__" : Str)) = false := by decide) : WpT X E XE (.Compare a [.In] [.Name x px] pos) Γ R := by
  obtain ⟨d, o, kv, hmg, hl, ns, io, fp⟩ := T.ex
  have op : OpR X (compareOp .In) (fun x y H Q => ∃ i, x = .int i ∧ y = .ref d ∧ Q (.bl (kvs.lookup i).isSome) H) := by
    rintro pins s σ H _ _ v u Q Iv r1 r2 ⟨i, rfl, rfl, q⟩
    obtain ⟨t, rfl⟩ := r1
    have r2 : u = .ref d := r2
    subst r2
    refine in_intTab (D := kvs.map fun p => (PyData.int p.1, PyData.str p.2)) (.ofObj ns (Iv.kIn d o hl) io fp.flat) ⟨.bl _, H, Iv.tok _, ?_, q⟩
    rw [tab_lookup]; rfl
  refine .of (pt_cmpR op (pe_sem X a) (pe_glob (v := .ref d) hg hmg rfl hd) hm) fun σ I H Q a0 k x0 => h σ I H _ a0 (fun v I1 H1 y Γ1 ⟨i, e, r⟩ s1 a1 r1 => ?_) x0
  subst e
  cases r1
  exact ⟨i, rfl, rfl, _, rfl, k _ I1 H1 Γ1 r s1 a1⟩
end
end Dl

set_option Elab.async false
set_option linter.all false
set_option maxRecDepth 100000
set_option maxHeartbeats 2000000
namespace Dl
open PySem PySem.Spec PyProof.Rows L2
section
variable {X : Cx} {E : XK} {XE : XS} {Γ : En} {R R' : D → En → Prop} {pos : Pos}
theorem bak_self {Γ1 : En} {p C : Addr} {fs fs' : List (Str × D)} {ds : List D} (h : Γ1[0]? = some (.own p (.ins C fs))) : Bak Γ1 (Ag.o 0 :: ds.map Ag.d) (.own p (.ins C fs') :: ds.map Sl.im) (Γ1.set 0 (.own p (.ins C fs'))) := by
  have hl : 0 < Γ1.length := by
    cases Γ1 with
    | nil => cases h
    | cons a r => exact Nat.succ_pos _
  refine ⟨List.length_set, fun j => ?_⟩
  cases j with
  | zero => exact .inl ⟨0, p, .ins C fs', rfl, rfl, by rw [List.getElem?_set_self hl]⟩
  | succ j =>
    refine .inr ⟨fun k hk => ?_, by rw [List.getElem?_set_ne (Nat.succ_ne_zero j).symm]⟩
    cases k with
    | zero => cases hk
    | succ k => exact ag_d hk
/-- self.m(data ..) -/
theorem w_methS {CX : CXT} {k : Nat} {ps : List Str} {pre : En → Res → Prop} {x m : Str} {px apos : Pos} {e : Expr} {es : List Expr} {C p : Addr} {fs : List (Str × D)} (F : Mv X.prog X.w X.K X.mg X.base CX k C m ps pre) (c : Cls X.K C) (hr : Room k X.A) (hx : Passes CX X E)
    (hi : Γ[0]? = some (.own p (.ins C fs))) (hl : fs.lookup m = none)
    (h : WpD X E XE (e :: es) Γ fun ds Γ1 => ∃ fs1, Γ1[0]? = some (.own p (.ins C fs1)) ∧ ∃ r, pre (.own p (.ins C fs1) :: ds.map Sl.im) r ∧ match r with
      | .ok d As' => ∃ fs', As' = .own p (.ins C fs') :: ds.map Sl.im ∧ R d (Γ1.set 0 (.own p (.ins C fs')))
      | .ex C fs => XE C fs)
    (hN : X.N[0]? = some x := by rfl) (hv : Vis X.env.scope x := by first | exact .inl rfl | exact .inr (.inl rfl) | exact .inr (.inr rfl)) (hst : starEach (e :: es) X.env = (false, eval e X.env) :: starEach es X.env := by rfl) (hpl : (backTo pos (starEach es X.env)).any (·.1) = false := by rfl)
    {pl : Sem Bool} (ht : eval (.Call (.Attribute (.Name x px) m apos) (e :: es) [] pos) X.env = (do let ov ← eval (.Name x px) X.env; standAt apos.atName; let (f, first) ← holding [ov] (getMethod ov m pl); callWith pos f first (backTo pos (starEach (e :: es) X.env)) (backToKw pos (keywordEach [] X.env))) := by rfl) (hd : (x == ("__debug__" : Str)) = false := by decide) (hcd : (x == ("__classdict__" : Str)) = false := by decide) :
    Wp X E XE (.Call (.Attribute (.Name x px) m apos) (e :: es) [] pos) Γ R := by
  refine w_meth 0 F c hr hx hN hv hi hl (WpD.toG ?_) hst hpl ht hd hcd
  refine fun σ I H Q a k x => h σ I H Q a (fun vs I1 H1 ds Γ1 ⟨fs1, g1, r, hp, hr2⟩ s1 a1 r1 => k vs I1 H1 ds Γ1 ⟨⟨p, _, g1⟩, fun j k i hj hk => ?_, r, ?_, ?_⟩ s1 a1 r1) x
  · cases j with
    | succ j => exact (ag_d hj).elim
    | zero =>
      cases k with
      | succ k => exact (ag_d hk).elim
      | zero => rfl
  · have e0 : agS Γ1 (.o 0) = .own p (.ins C fs1) := by
      show Γ1.getD 0 .un = _
      rw [List.getD_eq_getElem?_getD, g1] <;> rfl
    rw [List.map_cons, ag_im, e0]
    exact hp
  · cases r with
    | ok d As' =>
      obtain ⟨fs', rfl, hR⟩ := hr2
      exact ⟨_, bak_self g1, hR⟩
    | ex C fs => exact hr2
theorem w_methS0 {CX : CXT} {k : Nat} {ps : List Str} {pre : En → Res → Prop} {x m : Str} {px apos : Pos} {C p : Addr} {fs : List (Str × D)} (F : Mv X.prog X.w X.K X.mg X.base CX k C m ps pre) (c : Cls X.K C) (hr : Room k X.A) (hx : Passes CX X E)
    (hi : Γ[0]? = some (.own p (.ins C fs))) (hl : fs.lookup m = none)
    (h : ∃ r, pre [.own p (.ins C fs)] r ∧ match r with
      | .ok d As' => ∃ fs', As' = [.own p (.ins C fs')] ∧ R d (Γ.set 0 (.own p (.ins C fs')))
      | .ex C fs => XE C fs)
    (hN : X.N[0]? = some x := by rfl) (hv : Vis X.env.scope x := by first | exact .inl rfl | exact .inr (.inl rfl) | exact .inr (.inr rfl))
    {pl : Sem Bool} (ht : eval (.Call (.Attribute (.Name x px) m apos) [] [] pos) X.env = (do let ov ← eval (.Name x px) X.env; standAt apos.atName; let (f, first) ← holding [ov] (getMethod ov m pl); callWith pos f first (backTo pos (starEach [] X.env)) (backToKw pos (keywordEach [] X.env))) := by rfl) (hd : (x == ("__debug__" : Str)) = false := by decide) (hcd : (x == ("__classdict__" : Str)) = false := by decide) :
    Wp X E XE (.Call (.Attribute (.Name x px) m apos) [] [] pos) Γ R := by
  refine w_meth0 0 F c hr hx hN hv hi hl ?_ ht hd hcd
  obtain ⟨r, hp, hr2⟩ := h
  refine ⟨r, hp, ?_⟩
  cases r with
  | ok d As' =>
    obtain ⟨fs', rfl, hR⟩ := hr2
    exact ⟨_, bak_self (ds := []) hi, hR⟩
  | ex C fs => exact hr2
/-- a field of an owned instance -/
theorem wf {x f : Str} {p0 : Pos} (i : Nat) {p C : Addr} {fs : List (Str × D)} {z : D} (hg : Γ[i]? = some (.own p (.ins C fs))) (c : Cls X.K C) (n : NoAttr X.K C f) (l : fs.lookup f = some z) (r : R z Γ) (hN : X.N[i]? = some x := by rfl) (hv : Vis X.env.scope x := by first | exact .inl rfl | exact .inr (.inl rfl) | exact .inr (.inr rfl))
    (hb : attributeBase (.Name x p0) f X.env (eval (.Name x p0) X.env) = eval (.Name x p0) X.env := by rfl) (hd : (x == ("__debug__" : Str)) = false := by decide) (hcd : (x == ("__classdict__" : Str)) = false := by decide) : Wp X E XE (.Attribute (.Name x p0) f pos) Γ R :=
  w_fldO i hN hv hg c n l r hb hd hcd
end
end Dl

set_option Elab.async false
set_option linter.all false
set_option maxRecDepth 100000
set_option maxHeartbeats 2000000
/-! Texts of bytes. -/
namespace Fp
open PySem PySem.Spec PyProof.Rows L2 Dl
open VatmsBase (Bytes word isBlank isDigit isLetter)
/-- bytes as a text -/
def strB (b : Bytes) : Str := ⟨(b.map fun c => c.toNat).toArray⟩
theorem strB_inj {a b : Bytes} (h : strB a = strB b) : a = b := by
  unfold strB at h
  have h := congrArg (fun s => s.cps.toList) h
  simp only at h
  have : ∀ (a b : Bytes), a.map (fun c => c.toNat) = b.map (fun c => c.toNat) → a = b := by
    intro a
    induction a with
    | nil => intro b h; cases b with
      | nil => rfl
      | cons x r => simp at h
    | cons x r ih => intro b h; cases b with
      | nil => simp at h
      | cons y s =>
        simp only [List.map_cons, List.cons.injEq] at h
        rw [UInt8.toNat_inj.mp h.1, ih s h.2]
  exact this a b (by simpa using h)
theorem strB_len (b : Bytes) : (strB b).length = b.length := by
  unfold strB Str.length
  simp
theorem strB_cps (b : Bytes) : (strB b).cps.toList = b.map fun c => c.toNat := by unfold strB; simp
theorem str_ext {a b : Str} (h : a.cps.toList = b.cps.toList) : a = b := by
  cases a; cases b
  simp at h
  rw [h]
theorem append_cps (a b : Str) : (a ++ b).cps.toList = a.cps.toList ++ b.cps.toList := by
  show (a.cps ++ b.cps).toList = _
  simp
theorem strB_append (a b : Bytes) : strB a ++ strB b = strB (a ++ b) := str_ext (by rw [append_cps, strB_cps, strB_cps, strB_cps, List.map_append])
theorem join_cps (sep : Str) : ∀ (l : List Str), (Txt.join sep l).cps.toList = match l with
    | [] => []
    | a :: r => a.cps.toList ++ r.flatMap fun s => sep.cps.toList ++ s.cps.toList := by
  intro l
  cases l with
  | nil => rfl
  | cons a r =>
    show (List.foldl (fun acc p => acc ++ sep.cps ++ p.cps) a.cps r).toList = _
    have : ∀ (r : List Str) (A : Array Nat), (List.foldl (fun acc p => acc ++ sep.cps ++ p.cps) A r).toList = A.toList ++ r.flatMap fun s => sep.cps.toList ++ s.cps.toList := by
      intro r
      induction r with
      | nil => intro A; simp
      | cons s r ih => intro A; rw [List.foldl_cons, ih]; simp
    rw [this]
theorem join_empty (l : List Bytes) : Txt.join (Str.ofString "") (l.map strB) = strB l.flatten := by
  apply str_ext
  rw [join_cps, strB_cps]
  cases l with
  | nil => rfl
  | cons a r =>
    show (strB a).cps.toList ++ (r.map strB).flatMap (fun s => [] ++ s.cps.toList) = _
    rw [strB_cps, List.flatten_cons, List.map_append]
    congr 1
    induction r with
    | nil => rfl
    | cons b r ih => rw [List.map_cons, List.flatMap_cons, ih, List.nil_append, strB_cps, List.flatten_cons, List.map_append]
theorem join_sep (sep : Bytes) (l : List Bytes) : Txt.join (strB sep) (l.map strB) = strB (match l with
    | [] => []
    | a :: r => a ++ r.flatMap fun s => sep ++ s) := by
  apply str_ext
  rw [join_cps, strB_cps]
  cases l with
  | nil => rfl
  | cons a r =>
    show (strB a).cps.toList ++ (r.map strB).flatMap (fun s => (strB sep).cps.toList ++ s.cps.toList) = (a ++ _).map _
    rw [strB_cps, List.map_append]
    congr 1
    induction r with
    | nil => rfl
    | cons b r ih => rw [List.map_cons, List.flatMap_cons, ih, strB_cps, strB_cps, List.flatMap_cons, List.map_append, List.map_append]
/-- the literal texts -/
theorem lit_word (s : String) (h : (Str.ofString s).cps.toList = s.toList.map (fun c => (UInt8.ofNat c.toNat).toNat)) : Str.ofString s = strB (word s) := str_ext (by rw [h, strB_cps]; unfold word; rw [List.map_map]; rfl)
/-- a letter's or figure's text -/
def sgB (c : UInt8) : Bytes := if (isLetter c || isDigit c) = true then [c] else []
theorem strB_one (c : UInt8) : strB [c] = ⟨#[c.toNat]⟩ := rfl
abbrev byD (c : UInt8) : D := .int (c.toNat : Nat)
abbrev txD (b : Bytes) : D := .lst (b.map byD)
section
variable {P : Program} {w : World} {K : PySem.W.Frag} {mg : Str → Option Value} {base : Heap}
structure Sg (K : PySem.W.Frag) (mg : Str → Option Value) : Prop where
  small : Glo K mg "SMALL" (.str (Str.ofString "abcdefghijklmnopqrstuvwxyz"))
  great : Glo K mg "GREAT" (.str (Str.ofString "ABCDEFGHIJKLMNOPQRSTUVWXYZ"))
  figures : Glo K mg "FIGURES" (.str (Str.ofString "0123456789"))
theorem small_cps : (Str.ofString "abcdefghijklmnopqrstuvwxyz").cps.toList = (List.range 26).map fun k => 97 + k := by decide +kernel
theorem great_cps : (Str.ofString "ABCDEFGHIJKLMNOPQRSTUVWXYZ").cps.toList = (List.range 26).map fun k => 65 + k := by decide +kernel
theorem figures_cps : (Str.ofString "0123456789").cps.toList = (List.range 10).map fun k => 48 + k := by decide +kernel
abbrev s_sign_of : Stmt := top 52
abbrev n_sign_of : List Str := ["byte", "first", "signs"]
theorem sc_sign_of : FnScope n_sign_of ["byte"] (defScope s_sign_of) := ⟨rfl, rfl, rfl, by decide +kernel, rfl, by decide +kernel, by decide +kernel⟩
def p_sign_of : List D → D → Prop := fun ds d => ∃ c : UInt8, ds = [byD c] ∧ d = .str (strB (sgB c))
theorem sgB_any (c : UInt8) : (isLetter c || isDigit c) = ([(97, 26), (65, 26), (48, 10)] : List (Nat × Nat)).any fun t => decide (t.1 ≤ c.toNat ∧ c.toNat < t.1 + t.2) := by
  unfold isLetter isDigit
  rw [Bool.eq_iff_iff]
  simp
  omega
theorem str_at {z : Str} {lo n i : Nat} (h : z.cps.toList = (List.range n).map fun k => lo + k) (hi : i < n) : atI z.cps.toList (i : Nat) = some (lo + i) := atI_nat (by rw [h, List.getElem?_map, List.getElem?_range hi]; rfl)
theorem str_len {z : Str} {lo n : Nat} (h : z.cps.toList = (List.range n).map fun k => lo + k) : z.length = n := by
  have := congrArg List.length h
  simpa [Str.length] using this
theorem f_sign_of (F : Fa K mg "sign_of" s_sign_of) (g : Sg K mg) (nlen : mg "len" = none) : Fv P w K mg base CX0 1 "sign_of" ["byte"] (PureP p_sign_of) := by
  refine fa_fv F (fun _ _ _ _ _ _ us hl => match us, hl with | [_], _ => rfl) fun f fd F => fn0 F sc_sign_of (fun Γ r ⟨ds, d, e, _, c, e2, _⟩ => by subst e; subst e2; rfl) ?_
  have nd := sc_sign_of.nd
  rintro cdv A outer s H E _ _ hr ⟨_, _, rfl, rfl, c, rfl, rfl⟩
  have hz : sizeLine = 16777216 := sizeLine_eq
  refine ss_cons (s_for (js := [1, 2]) .never rfl (i_tup (w_tup (d_cons (w_tup (d_cons (w_int (d_cons (w_glob g.small rfl (d_nil ⟨len_le, (d_cons (w_tup (d_cons (w_int (d_cons (w_glob g.great rfl (d_nil ⟨len_le, (d_cons (w_tup (d_cons (w_int (d_cons (w_glob g.figures rfl (d_nil ⟨len_le, (d_nil ⟨len_le, ⟨_, rfl, ?_⟩⟩)⟩)))))))⟩)))))))⟩))))))))))
  refine for_ind (fun (x : Nat × Nat × Str) => D.tup [.int (x.1 : Nat), .str x.2.2]) (fun (t : Sl × Sl) => [.im (byD c), t.1, t.2])
    (fun t rest => (∀ x ∈ rest, x.2.2.cps.toList = (List.range x.2.1).map (fun k => x.1 + k) ∧ x.2.1 ≤ 26) ∧ (isLetter c || isDigit c) = rest.any fun x => decide (x.1 ≤ c.toNat ∧ c.toNat < x.1 + x.2.1)) ?_ ?_ [(97, 26, Str.ofString "abcdefghijklmnopqrstuvwxyz"), (65, 26, Str.ofString "ABCDEFGHIJKLMNOPQRSTUVWXYZ"), (48, 10, Str.ofString "0123456789")] (.un, .un) ⟨?_, sgB_any c⟩
  · rintro ⟨s1, s2⟩ ⟨lo, n, z⟩ rest ⟨h1, h2⟩ nx hn
    obtain ⟨hz1, hz2⟩ := h1 _ List.mem_cons_self
    have hz1 : z.cps.toList = (List.range n).map fun k => lo + k := hz1
    have hz2 : n ≤ 26 := hz2
    have hlz := str_len hz1
    rw [List.any_cons] at h2
    have skip : ¬ (lo ≤ c.toNat ∧ c.toNat < lo + n) → nx [.im (byD c), .im (.int lo), .im (.str z)] := fun q => hn (_, _) ⟨fun x hx => h1 x (List.mem_cons_of_mem _ hx), by rw [h2, decide_eq_false q, Bool.false_or]⟩
    refine (g1_tup rfl (gs_cons (gn 1 nd (gs_cons (gn 2 nd (gs_nil ?_))))))
    refine ss_one (s_if (t_bool (tw_and (t_chain (wv 1 rfl (wv 0 rfl ⟨_, o_le, fun hF => ⟨fun _ => ?_, fun hT => (Bool.false_ne_true hT).elim⟩, fun hT => (w_bin (wv 1 rfl (w_int ⟨_, o_addI, ⟨_, o_lt, ⟨fun hF => ?_, fun hT2 => (tw_and1 (t_cmp (w_bin (wv 0 rfl (wv 1 rfl ⟨_, o_subI, (w_callB rfl nlen boot_len (d_cons (wv 2 rfl (d_nil ⟨_, (c_lenS (by rw [hlz]; omega)), ⟨_, o_lt, ⟨fun hT3 => ?_, fun hF => ?_⟩⟩⟩))))⟩)))))⟩⟩⟩)))⟩))))))
    · refine ⟨fun hT => (Bool.false_ne_true hT).elim, fun _ => ?_⟩
      exact ss_nil (skip fun q => of_decide_eq_false hF (by omega))
    · refine ⟨fun hT => (Bool.false_ne_true hT).elim, fun _ => ?_⟩
      refine ss_nil (skip fun q => of_decide_eq_false hF ?_)
      show ((c.toNat : Nat) : Int) < (lo : Nat) + 26
      omega
    · have q1 := of_decide_eq_true hT
      have q3 := of_decide_eq_true hT3
      rw [hlz] at q3
      have q : lo ≤ c.toNat ∧ c.toNat < lo + n := by omega
      refine ss_one (s_ret (w_ix (wv 2 rfl (w_bin (wv 0 rfl (wv 1 rfl ⟨_, o_subI, ⟨_, (ix2_str (c := c.toNat) (by rw [hlz]; omega) ?_), ?_⟩⟩))))))
      · rw [show ((c.toNat : Nat) : Int) - (lo : Nat) = ((c.toNat - lo : Nat) : Int) by omega, str_at hz1 (by omega)]
        congr 1; omega
      · refine fin_eq (congrArg D.str ?_)
        unfold sgB
        rw [h2, decide_eq_true q, Bool.true_or, if_pos rfl]
        rfl
    · have q3 := of_decide_eq_false hF
      rw [hlz] at q3
      exact ss_nil (skip fun q => q3 (by omega))
  · rintro ⟨s1, s2⟩ ⟨_, h2⟩
    refine ss_one (s_ret (w_str (fin_eq (congrArg D.str ?_))))
    unfold sgB
    rw [h2]
    rfl
  · intro x hx
    rcases List.mem_cons.mp hx with rfl | hx
    · exact ⟨small_cps, Nat.le_refl _⟩
    rcases List.mem_cons.mp hx with rfl | hx
    · exact ⟨great_cps, Nat.le_refl _⟩
    rcases List.mem_cons.mp hx with rfl | hx
    · exact ⟨figures_cps, by decide⟩
    cases hx
end
end Fp

set_option Elab.async false
set_option linter.all false
set_option maxRecDepth 100000
set_option maxHeartbeats 2000000
/-! Texts of bytes: their numbers, words, tokens. -/
namespace Fp
open PySem PySem.Spec PyProof.Rows L2 Dl
open VatmsBase (Bytes word isBlank isDigit isLetter PTok Toks decimal numberOf token lex)
/-! ### what may raise -/
def oxR (Γ : En) : Ox → Res
  | .ok d => .ok d Γ
  | .ex C fs => .ex C fs
theorem pureX_of {p : List D → Ox → Prop} {Γ : En} {r : Res} (h : PureX p Γ r) : ∃ ds o, Γ = ds.map Sl.im ∧ p ds o ∧ r = oxR (ds.map Sl.im) o := by
  obtain ⟨ds, o, e, hp, hr⟩ := h
  refine ⟨ds, o, e, hp, ?_⟩
  subst e
  cases o <;> exact hr
theorem finX {ds : List D} {o : Ox} {d : D} {Γ' : En} (h : o = .ok d) : FinR (ds.map Sl.im) (oxR (ds.map Sl.im) o) d Γ' := by
  subst h
  exact fin_pure
abbrev faultF (code place : Int) : List (Str × V) := [("place", .int place), ("code", .int code)]
def outX (FC : Addr) {α : Type} (enc : α → D) : Except VatmsBase.Fault α → Ox
  | .ok a => .ok (enc a)
  | .error f => .ex FC (faultF f.code f.place)
abbrev fnFault : List V → List (Str × V)
  | [c, p] => [("place", p), ("code", c)]
  | _ => []
/-! ### numbers -/
theorem digits_fold : ∀ (w : Bytes) (A : Array Nat) (b : Bool), (∀ c ∈ w, isDigit c = true) → List.foldlM (NumText.step 10) (A, b) (w.map fun c => c.toNat) = some (A ++ (w.map fun c => c.toNat - 48).toArray, if w = [] then b else true)
  | [], A, b, _ => by simp
  | c :: w, A, b, h => by
    have hc := h c List.mem_cons_self
    unfold isDigit at hc
    have hc := of_decide_eq_true hc
    rw [List.map_cons, List.foldlM_cons]
    have e : NumText.step 10 (A, b) c.toNat = some (A.push (c.toNat - 48), true) := by
      unfold NumText.step NumText.digit?
      have h95 : (c.toNat == 95) = false := by simp; omega
      rw [h95]
      have h1 : (decide (48 ≤ c.toNat) && decide (c.toNat ≤ 57)) = true := by simp; omega
      simp only [h1, if_true]
      rw [if_neg Bool.false_ne_true]
      simp
      omega
    rw [e]
    show List.foldlM (NumText.step 10) (A.push (c.toNat - 48), true) (w.map fun c => c.toNat) = _
    rw [digits_fold w _ true fun x hx => h x (List.mem_cons_of_mem _ hx)]
    simp
theorem fold_dec : ∀ (w : Bytes) (n : Nat), Array.foldl (fun acc d => acc * 10 + d) n (w.map fun c => c.toNat - 48).toArray = w.foldl (fun n b => 10 * n + (b.toNat - 48)) n := by
  intro w
  induction w with
  | nil => intro n; rfl
  | cons c w ih =>
    intro n
    have := ih (n * 10 + (c.toNat - 48))
    rw [List.foldl_cons, Nat.mul_comm 10 n, ← this]
    simp
theorem drop_none {p : Nat → Bool} : ∀ {l : List Nat}, (∀ x ∈ l, p x = false) → l.dropWhile p = l
  | [], _ => rfl
  | x :: l, h => by rw [List.dropWhile_cons, h x List.mem_cons_self]; rfl
theorem take_all {α : Type} {p : α → Bool} : ∀ {l : List α}, (∀ x ∈ l, p x = true) → l.takeWhile p = l
  | [], _ => rfl
  | x :: l, h => by rw [List.takeWhile_cons, h x List.mem_cons_self, if_pos rfl, take_all fun y hy => h y (List.mem_cons_of_mem x hy)]
theorem int_text {w : Bytes} (h0 : w ≠ []) (h : ∀ c ∈ w, isDigit c = true) (hl : w.length ≤ 4300) : PySem.intText? (strB w) = some ((decimal w : Nat) : Int) := by
  have hd : ∀ x ∈ w.map (fun c => c.toNat), 48 ≤ x ∧ x ≤ 57 := fun x hx => by
    obtain ⟨c, hc, rfl⟩ := List.mem_map.mp hx
    have := h c hc
    unfold isDigit at this
    exact of_decide_eq_true this
  have e1 : numTextOf (strB w) = w.map fun c => c.toNat := by
    show (if Array.all (strB w).cps (fun x => decide (x < 128)) = true then _ else _) = _
    rw [if_pos, strB_cps]
    rw [Array.all_eq_true']
    intro x hx
    have hx : x ∈ (strB w).cps.toList := by simpa using hx
    rw [strB_cps] at hx
    exact decide_eq_true (by have := hd x hx; omega)
  have e2 : numSeenOf (strB w) = w.map fun c => c.toNat := by
    show List.takeWhile (fun x => x != 0) (numTextOf (strB w)) = _
    rw [e1]
    exact take_all fun x hx => by have := hd x hx; simp; omega
  have nb : ∀ x ∈ w.map (fun c => c.toNat), NumText.blank x = false := fun x hx => by
    have := hd x hx
    unfold NumText.blank
    simp
    omega
  have e3 : List.dropWhile NumText.blank (w.map fun c => c.toNat) = w.map fun c => c.toNat := drop_none nb
  have e4 : NumText.sign (w.map fun c => c.toNat) = (false, w.map fun c => c.toNat) := by
    cases w with
    | nil => exact (h0 rfl).elim
    | cons c w =>
      have := hd c.toNat (by simp)
      unfold NumText.sign
      split
      · rename_i e; simp at e; omega
      · rename_i e; simp at e; omega
      · rfl
  have e5 : NumText.core (w.map fun c => c.toNat) = w.map fun c => c.toNat := by
    unfold NumText.core
    rw [e3, e4]
    rw [drop_none fun x hx => nb x (List.mem_reverse.mp hx), List.reverse_reverse]
  unfold PySem.intText?
  rw [e2, e1, beq_self_eq_true, if_pos rfl, e5]
  unfold NumText.digits?
  rw [digits_fold w #[] false h, if_neg h0]
  simp only [Option.bind_some, if_true]
  rw [if_pos (by simpa using hl), e3, e4]
  unfold NumText.worth
  rw [if_neg Bool.false_ne_true]
  congr 2
  rw [Array.empty_append]
  exact fold_dec w 0
/-! ### words and their ends -/
def alnum (c : UInt8) : Bool := isLetter c || isDigit c
theorem mem_figures {c : UInt8} : (c.toNat ∈ (Str.ofString "0123456789").cps.toList) ↔ isDigit c = true := by
  rw [figures_cps]
  unfold isDigit
  simp
  constructor
  · rintro ⟨k, hk, e⟩; omega
  · intro h; exact ⟨c.toNat - 48, by omega, by omega⟩
theorem mem_signs {c : UInt8} : (c.toNat ∈ (Str.ofString "abcdefghijklmnopqrstuvwxyz" ++ Str.ofString "ABCDEFGHIJKLMNOPQRSTUVWXYZ" ++ Str.ofString "0123456789").cps.toList) ↔ alnum c = true := by
  rw [append_cps, append_cps, small_cps, great_cps, figures_cps]
  unfold alnum isLetter isDigit
  simp
  constructor
  · rintro (⟨k, hk, e⟩ | ⟨k, hk, e⟩ | ⟨k, hk, e⟩) <;> omega
  · intro h
    rcases h with (h | h) | h
    · exact .inr (.inl ⟨c.toNat - 65, by omega, by omega⟩)
    · exact .inl ⟨c.toNat - 97, by omega, by omega⟩
    · exact .inr (.inr ⟨c.toNat - 48, by omega, by omega⟩)
theorem letter_not_digit {c : UInt8} (h : isLetter c = true) : isDigit c = false := by
  unfold isLetter at h; unfold isDigit
  simp at h ⊢
  omega
/-- the word that stands at the beginning -/
def wordAt (l : Bytes) : Bytes := match l with
  | [] => []
  | c :: _ => if isLetter c = true then l.takeWhile alnum else l.takeWhile isDigit
def tokOf (w : Bytes) : Option VatmsBase.Tok := match w with
  | [] => none
  | c :: _ => if isLetter c = true then (if VatmsBase.NAME < w.length then none else some (.name w)) else (numberOf w).map .num
theorem token_word {c : UInt8} {r : Bytes} (h : alnum c = true) : token (c :: r) = (tokOf (wordAt (c :: r))).map fun t => (t, (wordAt (c :: r)).length) := by
  have ne : ∃ w, wordAt (c :: r) = c :: w := by
    unfold wordAt
    by_cases hl : isLetter c = true
    · simp only [hl, if_true, List.takeWhile_cons, h]; exact ⟨_, rfl⟩
    · have hd : isDigit c = true := by unfold alnum at h; simp [hl] at h; exact h
      simp only [hl, if_neg, List.takeWhile_cons, hd]; exact ⟨_, rfl⟩
  obtain ⟨w, hw⟩ := ne
  rw [hw]
  unfold wordAt at hw
  unfold token tokOf
  by_cases hl : isLetter c = true
  · simp only [hl, if_true] at hw ⊢
    rw [show (c :: r).takeWhile (fun c => isLetter c || isDigit c) = c :: w from hw]
    split <;> rfl
  · have hd : isDigit c = true := by unfold alnum at h; simp [hl] at h; exact h
    simp only [hl, if_neg] at hw ⊢
    simp only [Bool.false_eq_true, if_false] at hw ⊢
    rw [if_pos hd, hw]
    cases numberOf (c :: w) <;> rfl
theorem wordAt_ne {c : UInt8} {r : Bytes} (h : alnum c = true) : wordAt (c :: r) ≠ [] := by
  unfold wordAt
  by_cases hl : isLetter c = true
  · simp [hl, List.takeWhile_cons, h]
  · have hd : isDigit c = true := by unfold alnum at h; simp [hl] at h; exact h
    simp [hl, List.takeWhile_cons, hd]
def signD : Nat → Str := fun c => ⟨#[c]⟩
/-- a token's data -/
def tokD (t : PTok) : D := match t.tok with
  | .name b => .tup [.str "name", .str (strB b), Nd t.place]
  | .num n => .tup [.str "number", .int (n : Nat), Nd t.place]
  | .sign c => .tup [.str "sign", .str (signD c), Nd t.place]
  | .last => .tup [.str "end", .str "", Nd t.place]
end Fp

set_option Elab.async false
set_option linter.all false
set_option maxRecDepth 100000
set_option maxHeartbeats 2000000
namespace Fp
open PySem PySem.Spec PyProof.Rows L2 Dl
open VatmsBase (Bytes word isBlank isDigit isLetter PTok Toks decimal numberOf token lex)
theorem pin_figures {c : UInt8} : decide (c.toNat ∈ (Str.ofString "0123456789").cps.toList) = isDigit c := by
  rw [Bool.eq_iff_iff, decide_eq_true_iff]; exact mem_figures
theorem pin_signs {c : UInt8} : decide (c.toNat ∈ (Str.ofString "abcdefghijklmnopqrstuvwxyz" ++ Str.ofString "ABCDEFGHIJKLMNOPQRSTUVWXYZ" ++ Str.ofString "0123456789").cps.toList) = alnum c := by
  rw [Bool.eq_iff_iff, decide_eq_true_iff]; exact mem_signs
theorem tx_at {b : Bytes} {i : Nat} {c : UInt8} (h : b[i]? = some c) : atI (b.map byD) (i : Nat) = some (byD c) := atI_nat (by rw [List.getElem?_map, h]; rfl)
theorem sg_alnum {c : UInt8} (h : alnum c = true) : strB (sgB c) = ⟨#[c.toNat]⟩ := by
  unfold sgB; unfold alnum at h; rw [if_pos h]; rfl
theorem sg_empty {c : UInt8} (h : alnum c = false) : strB (sgB c) = Str.ofString "" := by
  unfold sgB; unfold alnum at h; rw [h, if_neg Bool.false_ne_true]; rfl
theorem sg_ne {c : UInt8} : decide (strB (sgB c) = Str.ofString "") = !alnum c := by
  cases h : alnum c with
  | true =>
    rw [sg_alnum h]
    exact decide_eq_false (fun z => by have := congrArg Str.length z; cases this)
  | false => rw [sg_empty h]; exact decide_eq_true rfl
section
variable {P : Program} {w : World} {K : PySem.W.Frag} {mg : Str → Option Value} {base : Heap}
abbrev FvSign (P : Program) (w : World) (K : PySem.W.Frag) (mg : Str → Option Value) (base : Heap) : Prop := Fv P w K mg base CX0 1 "sign_of" ["byte"] (PureP p_sign_of)
abbrev s_run_end : Stmt := top 53
abbrev n_run_end : List Str := ["text", "at", "signs", "end"]
theorem sc_run_end : FnScope n_run_end ["text", "at"] (defScope s_run_end) := ⟨rfl, rfl, rfl, by decide +kernel, rfl, by decide +kernel, by decide +kernel⟩
def p_run_end : List D → D → Prop := fun ds d => ∃ (b : Bytes) (i : Nat) (c : UInt8), ds = [txD b, Nd i] ∧ b.length ≤ 4096 ∧ b[i]? = some c ∧ alnum c = true ∧ d = Nd (i + (wordAt (b.drop i)).length)
theorem wordAt_cons {c : UInt8} {r : Bytes} : wordAt (c :: r) = if isLetter c = true then (c :: r).takeWhile alnum else (c :: r).takeWhile isDigit := rfl
theorem drop_at {α : Type} {b : List α} {i : Nat} {c : α} (h : b[i]? = some c) : b.drop i = c :: b.drop (i + 1) := by
  obtain ⟨hl, e⟩ := List.getElem?_eq_some_iff.mp h
  rw [List.drop_eq_getElem_cons hl, e]
theorem f_run_end (F : Fa K mg "run_end" s_run_end) (g : Sg K mg) (hsign : FvSign P w K mg base) (nlen : mg "len" = none) : Fv P w K mg base CX0 2 "run_end" ["text", "at"] (PureP p_run_end) := by
  refine fa_fv F (fun _ _ _ _ _ _ us hl => match us, hl with | [_, _], _ => rfl) fun f fd F => fn0 F sc_run_end (fun Γ r ⟨ds, d, e, _, b, i, c, e2, _⟩ => by subst e; subst e2; rfl) ?_
  have nd := sc_run_end.nd
  rintro cdv A outer s H E _ _ hr ⟨_, _, rfl, rfl, b, i, c, rfl, hb, hc, ha, rfl⟩
  have hz : sizeLine = 16777216 := sizeLine_eq
  let p : UInt8 → Bool := if isDigit c = true then isDigit else alnum
  let z : Str := if isDigit c = true then Str.ofString "0123456789" else Str.ofString "abcdefghijklmnopqrstuvwxyz" ++ Str.ofString "ABCDEFGHIJKLMNOPQRSTUVWXYZ" ++ Str.ofString "0123456789"
  have hp : ∀ x : UInt8, alnum x = true → decide (x.toNat ∈ z.cps.toList) = p x := fun x _ => by
    show decide (x.toNat ∈ (if isDigit c = true then Str.ofString "0123456789" else _ : Str).cps.toList) = (if isDigit c = true then isDigit else alnum) x
    split
    · exact pin_figures
    · exact pin_signs
  have pa : ∀ x : UInt8, p x = true → alnum x = true := fun x hx => by
    have hx : (if isDigit c = true then isDigit else alnum) x = true := hx
    split at hx
    · unfold alnum; rw [hx, Bool.or_true]
    · exact hx
  have ew : wordAt (b.drop i) = (b.drop i).takeWhile p := by
    rw [drop_at hc, wordAt_cons]
    by_cases hd : isDigit c = true
    · have hl : isLetter c = false := by
        cases q : isLetter c with
        | false => rfl
        | true => rw [letter_not_digit q] at hd; cases hd
      rw [if_neg (by rw [hl]; decide)]
      show _ = List.takeWhile (if isDigit c = true then isDigit else alnum) _
      rw [if_pos hd]
    · have hl : isLetter c = true := by
        unfold alnum at ha
        cases q : isLetter c with
        | true => rfl
        | false => rw [q, Bool.false_or] at ha; exact (hd ha).elim
      rw [if_pos hl]
      show _ = List.takeWhile (if isDigit c = true then isDigit else alnum) _
      rw [if_neg hd]
  rw [ew]
  refine ss_cons (ss 2 nd (Wp.mono (R := fun d Γ' => d = .str z ∧ Γ' = [.im (txD b), .im (Nd i), .un, .un]) (w_if (t_cmp (w_callP hsign (hr.mono (by decide)) rfl pass (d_cons (w_ix (wv 0 rfl (wv 1 rfl ⟨_, (ix2_lst (tx_at hc)), (d_nil ⟨_, ⟨c, rfl, rfl⟩, (w_glob g.figures rfl ⟨decide (c.toNat ∈ (Str.ofString "0123456789").cps.toList), ?_, ⟨fun hT => (w_glob g.figures rfl ⟨?_, rfl⟩), fun hF => (w_bin (w_bin (w_glob g.small rfl (w_glob g.great rfl ⟨_, (o_addS (by decide)), (w_glob g.figures rfl ⟨_, (o_addS (by decide)), ⟨?_, rfl⟩⟩)⟩))))⟩⟩)⟩)⟩))))))) ?_))
  · rw [sg_alnum ha]; exact o_inSign
  · rw [pin_figures] at hT
    exact congrArg D.str (if_pos hT).symm
  · rw [pin_figures] at hF
    exact congrArg D.str (if_neg (by rw [hF]; decide)).symm
  · rintro d Γ' ⟨rfl, rfl⟩
    refine ss_cons (ss 3 nd (wv 1 rfl ?_))
    refine ss_cons (s_while _ .never (while_m (fun (t : Nat) => [.im (txD b), .im (Nd i), .im (.str z), .im (Nd t)]) (fun t => b.length - t) (fun t => t ≤ b.length ∧ t + ((b.drop t).takeWhile p).length = i + ((b.drop i).takeWhile p).length) ?_ i ⟨?_, rfl⟩))
    · rintro t n ⟨h1, h2⟩ ih
      have fin : ((b.drop t).takeWhile p) = [] → Nd t = Nd (i + ((b.drop i).takeWhile p).length) := fun q => by
        rw [← h2, q]; rfl
      refine (t_bool (tw_and (t_cmp (wv 3 rfl (w_callB rfl nlen boot_len (d_cons (wv 0 rfl (d_nil ⟨_, c_lenL, ⟨_, o_lt, ⟨fun hF => ⟨fun _ => ?_, fun hT => (Bool.false_ne_true hT).elim⟩, fun hT => ?_⟩⟩⟩))))))))
      · have q := of_decide_eq_false hF
        rw [List.length_map] at q
        exact ss_one (s_ret (wv 3 rfl (fin_eq (fin (by rw [List.drop_eq_nil_of_le (by omega)]; rfl)))))
      have ht := of_decide_eq_true hT
      rw [List.length_map] at ht
      have ht : t < b.length := by omega
      obtain ⟨x, hx⟩ : ∃ x, b[t]? = some x := ⟨b[t], List.getElem?_eq_getElem ht⟩
      have dr := drop_at hx
      refine (tw_and (t_cmp (w_callP hsign (hr.mono (by decide)) rfl pass (d_cons (w_ix (wv 0 rfl (wv 3 rfl ⟨_, (ix2_lst (tx_at hx)), (d_nil ⟨_, ⟨x, rfl, rfl⟩, (w_str ⟨_, o_neS, ⟨fun hF => ⟨fun _ => ?_, fun hT => (Bool.false_ne_true hT).elim⟩, fun hT => ?_⟩⟩)⟩)⟩)))))))
      · rw [sg_ne, Bool.not_not] at hF
        have : p x = false := by
          cases q : p x with
          | false => rfl
          | true => rw [pa x q] at hF; cases hF
        exact ss_one (s_ret (wv 3 rfl (fin_eq (fin (by rw [dr, List.takeWhile_cons, this]; rfl)))))
      rw [sg_ne, Bool.not_not] at hT
      refine (tw_and1 (t_cmp (w_callP hsign (hr.mono (by decide)) rfl pass (d_cons (w_ix (wv 0 rfl (wv 3 rfl ⟨_, (ix2_lst (tx_at hx)), (d_nil ⟨_, ⟨x, rfl, rfl⟩, (wv 2 rfl ⟨decide (x.toNat ∈ z.cps.toList), ?_, ⟨fun hF => ?_, fun hT2 => ?_⟩⟩)⟩)⟩)))))))
      · rw [sg_alnum hT]; exact o_inSign
      · rw [hp x hT] at hF
        exact ss_one (s_ret (wv 3 rfl (fin_eq (fin (by rw [dr, List.takeWhile_cons, hF]; rfl)))))
      · rw [hp x hT] at hT2
        refine ss_one (ss 3 nd (w_bin (wv 3 rfl (w_int ⟨_, o_addI, ?_⟩))))
        refine ih (t + 1) ⟨ht, ?_⟩ (by omega)
        rw [← h2, dr, List.takeWhile_cons, hT2, if_pos rfl, List.length_cons]
        omega
    · obtain ⟨hl, _⟩ := List.getElem?_eq_some_iff.mp hc
      omega
/-! ### token_of -/
abbrev FaultK (P : Program) (w : World) (K : PySem.W.Frag) (mg : Str → Option Value) (base : Heap) (FC : Addr) : Prop := Xk P w K mg base "Fault" FC ["self", "code", "place"] fnFault 2
abbrev s_token_of : Stmt := top 54
abbrev n_token_of : List Str := ["run", "at"]
theorem sc_token_of : FnScope n_token_of ["run", "at"] (defScope s_token_of) := ⟨rfl, rfl, rfl, by decide +kernel, rfl, by decide +kernel, by decide +kernel⟩
def tokX (FC : Addr) (w : Bytes) (i : Nat) : Ox := match tokOf w with
  | some t => .ok (tokD ⟨i, t⟩)
  | none => .ex FC (faultF 2 i)
def p_token_of (FC : Addr) : List D → Ox → Prop := fun ds o => ∃ (b : Bytes) (i : Nat), ds = [.str (strB b), Nd i] ∧ b ≠ [] ∧ b.length ≤ 4096 ∧ (∀ c r, b = c :: r → isLetter c = true ∨ (∀ x ∈ b, isDigit x = true)) ∧ o = tokX FC b i
theorem strB_at {b : Bytes} {i : Nat} {c : UInt8} (h : b[i]? = some c) : atI (strB b).cps.toList (i : Nat) = some c.toNat := atI_nat (by rw [strB_cps, List.getElem?_map, h]; rfl)
theorem zero_text {c : UInt8} : decide ((⟨#[c.toNat]⟩ : Str) = Str.ofString "0") = decide (c = 48) := by
  rw [Bool.eq_iff_iff, decide_eq_true_iff, decide_eq_true_iff]
  constructor
  · intro h
    have h := congrArg (fun s => s.cps.toList) h
    have h : [c.toNat] = [48] := h
    have : c.toNat = (48 : UInt8).toNat := (List.cons.inj h).1
    exact UInt8.toNat_inj.mp this
  · rintro rfl; rfl
theorem strB_zero {b : Bytes} : decide (strB b = Str.ofString "0") = decide (b = [48]) := by
  rw [Bool.eq_iff_iff, decide_eq_true_iff, decide_eq_true_iff]
  constructor
  · intro h
    exact strB_inj (h.trans (show Str.ofString "0" = strB [48] from rfl))
  · rintro rfl; rfl
theorem f_token_of {FC : Addr} (F : Fa K mg "token_of" s_token_of) (g : Sg K mg) (T : FaultK P w K mg base FC) (nlen : mg "len" = none) (nint : mg "int" = none) (gL : Glo K mg "LONGEST_NAME" (.int 16)) (gG : Glo K mg "GREATEST" (.int 1000000000)) : Fv P w K mg base (L2.CX P w) 3 "token_of" ["run", "at"] (PureX (p_token_of FC)) := by
  refine fa_fv F (fun _ _ _ _ _ _ us hl => match us, hl with | [_, _], _ => rfl) fun f fd F => fnX F sc_token_of (fun Γ r h => by obtain ⟨ds, o, e, ⟨b, i, e2, _⟩, _⟩ := h; subst e; subst e2; rfl) ?_
  have nd := sc_token_of.nd
  intro cdv A outer s H E Γ r hr hp
  obtain ⟨_, _, rfl, ⟨b, i, rfl, h0, hb, hcl, rfl⟩, rfl⟩ := pureX_of hp
  have hz : sizeLine = 16777216 := sizeLine_eq
  obtain ⟨c, t, rfl⟩ : ∃ c t, b = c :: t := by
    cases b with
    | nil => exact (h0 rfl).elim
    | cons c t => exact ⟨c, t, rfl⟩
  have tk : Takes (cxOf (L2.CX P w) P w K mg base n_token_of "token_of" (defScope s_token_of) f cdv A outer s H E) fun cls d _ H => E cls d H := takes_of rfl rfl rfl rfl
  have hl : (strB (c :: t)).length ≤ sizeLine := by rw [strB_len]; omega
  have h0' : atI (strB (c :: t)).cps.toList (0 : Nat) = some c.toNat := strB_at rfl
  refine ss_cons (s_if (t_cmp (w_ix (wv 0 rfl (w_int ⟨_, (ix2_str hl h0'), (w_glob g.figures rfl ⟨_, o_notInSign, ⟨fun hT => ?_, fun hF => ?_⟩⟩)⟩)))))
  · rw [pin_figures] at hT
    have nd' : isDigit c = false := by simpa using hT
    have lc : isLetter c = true := by
      rcases hcl c t rfl with h | h
      · exact h
      · rw [h c List.mem_cons_self] at nd'; cases nd'
    have et : tokX FC (c :: t) i = if 16 < (c :: t).length then .ex FC (faultF 2 i) else .ok (tokD ⟨i, .name (c :: t)⟩) := by
      unfold tokX tokOf
      simp only [lc, if_true]
      by_cases q : 16 < (c :: t).length
      · rw [if_pos q, if_pos (show VatmsBase.NAME < (c :: t).length from q)]
      · rw [if_neg q, if_neg (show ¬ VatmsBase.NAME < (c :: t).length from q)]
    refine ss_cons (s_if (t_cmp (w_callB rfl nlen boot_len (d_cons (wv 0 rfl (d_nil ⟨_, (c_lenS hl), (w_glob gL rfl ⟨_, o_gt, ⟨fun hT => ?_, fun hF => ?_⟩⟩)⟩))))))
    · have q := of_decide_eq_true hT
      rw [strB_len] at q
      refine ss_one (s_raise T tk (hr.mono (by decide)) rfl pass (d_cons (w_int (d_cons (wv 1 rfl (d_nil ⟨[2, (i : Nat)], rfl, rfl, by decide, ?_⟩))))))
      rw [et, if_pos (show 16 < (c :: t).length by omega)]; rfl
    · have q := of_decide_eq_false hF
      rw [strB_len] at q
      refine ss_nil (ss_one (s_ret (w_tup (d_cons (w_str (d_cons (wv 0 rfl (d_cons (wv 1 rfl (d_nil ⟨len_le, ?_⟩))))))))))
      refine finX ?_
      rw [et, if_neg (show ¬ 16 < (c :: t).length by omega)]
      rfl
  · rw [pin_figures] at hF
    have nd' : isDigit c = true := by simpa using hF
    have lc : isLetter c = false := by
      cases q : isLetter c with
      | false => rfl
      | true => rw [letter_not_digit q] at nd'; cases nd'
    have dg : ∀ x ∈ c :: t, isDigit x = true := by
      rcases hcl c t rfl with h | h
      · rw [lc] at h; cases h
      · exact h
    have it := int_text (List.cons_ne_nil c t) dg (by omega)
    have et : tokX FC (c :: t) i = if 10 < (c :: t).length ∨ (c = 48 ∧ ¬ (c :: t) = [48]) ∨ 1000000000 < decimal (c :: t) then .ex FC (faultF 2 i) else .ok (tokD ⟨i, .num (decimal (c :: t))⟩) := by
      unfold tokX tokOf numberOf
      have : ((c :: t) = [] ∨ 10 < (c :: t).length ∨ (1 < (c :: t).length ∧ (c :: t).head? = some 48) ∨ VatmsBase.NUMBER < decimal (c :: t)) ↔ (10 < (c :: t).length ∨ (c = 48 ∧ ¬ (c :: t) = [48]) ∨ 1000000000 < decimal (c :: t)) := by
        have q1 : ((1 < (c :: t).length ∧ (c :: t).head? = some 48)) ↔ (c = 48 ∧ ¬ (c :: t) = [48]) := by
          cases t with
          | nil => simp
          | cons y t => simp
        rw [q1]
        simp [VatmsBase.NUMBER]
      by_cases q : 10 < (c :: t).length ∨ (c = 48 ∧ ¬ (c :: t) = [48]) ∨ 1000000000 < decimal (c :: t)
      · simp only [lc]
        rw [if_pos q]
        simp only [if_pos (this.mpr q)]
        rfl
      · simp only [lc]
        rw [if_neg q]
        simp only [if_neg (fun z => q (this.mp z))]
        rfl
    have l10 : decide ((10 : Int) < ((strB (c :: t)).length : Nat)) = decide (10 < (c :: t).length) := by rw [strB_len, Bool.eq_iff_iff]; simp; omega
    have dG : decide ((1000000000 : Int) < ((decimal (c :: t) : Nat) : Int)) = decide (1000000000 < decimal (c :: t)) := by rw [Bool.eq_iff_iff]; simp; omega
    refine ss_nil ?_
    refine ss_cons (s_if (t_bool (tw_or (t_cmp (w_callB rfl nlen boot_len (d_cons (wv 0 rfl (d_nil ⟨_, (c_lenS hl), (w_int ⟨_, o_gt, ⟨fun hT => ⟨fun _ => ?_, fun hF => (Bool.false_ne_true hF.symm).elim⟩, fun hF => (tw_or (t_bool (tw_and (t_cmp (w_ix (wv 0 rfl (w_int ⟨_, (ix2_str hl h0'), (w_str ⟨_, o_eqS, ⟨fun hF2 => ⟨fun hT => (Bool.false_ne_true hT).elim, fun _ => ?_⟩, fun hT => (tw_and1 (t_cmp (wv 0 rfl (w_str ⟨_, o_neS, ⟨fun hT2 => ⟨fun _ => ?_, fun hF => (Bool.false_ne_true hF.symm).elim⟩, fun hF2 => ?_⟩⟩))))⟩⟩)⟩)))))))⟩⟩)⟩))))))))
    · rw [l10] at hT
      have q := of_decide_eq_true hT
      refine ss_one (s_raise T tk (hr.mono (by decide)) rfl pass (d_cons (w_int (d_cons (wv 1 rfl (d_nil ⟨[2, (i : Nat)], rfl, rfl, by decide, ?_⟩))))))
      rw [et, if_pos (.inl q)]; rfl
    · rw [l10] at hF
      rw [zero_text] at hF2
      have q1 := of_decide_eq_false hF
      have q2 := of_decide_eq_false hF2
      refine (tw_or1 (t_cmp (w_callTy rfl nint boot_int (d_cons (wv 0 rfl (d_nil ⟨_, (c_int it (by rw [strB_len]; omega)), (w_glob gG rfl ⟨_, o_gt, ⟨fun hT => ?_, fun hF => ?_⟩⟩)⟩))))))
      · rw [dG] at hT
        refine ss_one (s_raise T tk (hr.mono (by decide)) rfl pass (d_cons (w_int (d_cons (wv 1 rfl (d_nil ⟨[2, (i : Nat)], rfl, rfl, by decide, ?_⟩))))))
        rw [et, if_pos (.inr (.inr (of_decide_eq_true hT)))]; rfl
      · rw [dG] at hF
        refine ss_nil (ss_one (s_ret (w_tup (d_cons (w_str (d_cons (w_callTy rfl nint boot_int (d_cons (wv 0 rfl (d_nil ⟨_, (c_int it (by rw [strB_len]; omega)), (d_cons (wv 1 rfl (d_nil ⟨len_le, finX ?_⟩)))⟩))))))))))
        rw [et, if_neg (by have := of_decide_eq_false hF; rintro (z | z | z); exact q1 z; exact q2 z.1; exact this z)]
        rfl
    · rw [l10] at hF
      rw [zero_text] at hT
      rw [strB_zero] at hT2
      refine ss_one (s_raise T tk (hr.mono (by decide)) rfl pass (d_cons (w_int (d_cons (wv 1 rfl (d_nil ⟨[2, (i : Nat)], rfl, rfl, by decide, ?_⟩))))))
      rw [et, if_pos (.inr (.inl ⟨of_decide_eq_true hT, by simp only [Bool.not_eq_true', decide_eq_false_iff_not] at hT2; exact hT2⟩))]; rfl
    · rw [l10] at hF
      rw [strB_zero] at hF2
      have q1 := of_decide_eq_false hF
      have q2 : (c :: t) = [48] := by simpa using hF2
      refine (tw_or1 (t_cmp (w_callTy rfl nint boot_int (d_cons (wv 0 rfl (d_nil ⟨_, (c_int it (by rw [strB_len]; omega)), (w_glob gG rfl ⟨_, o_gt, ⟨fun hT => ?_, fun hF => ?_⟩⟩)⟩))))))
      · rw [dG] at hT
        refine ss_one (s_raise T tk (hr.mono (by decide)) rfl pass (d_cons (w_int (d_cons (wv 1 rfl (d_nil ⟨[2, (i : Nat)], rfl, rfl, by decide, ?_⟩))))))
        rw [et, if_pos (.inr (.inr (of_decide_eq_true hT)))]; rfl
      · rw [dG] at hF
        refine ss_nil (ss_one (s_ret (w_tup (d_cons (w_str (d_cons (w_callTy rfl nint boot_int (d_cons (wv 0 rfl (d_nil ⟨_, (c_int it (by rw [strB_len]; omega)), (d_cons (wv 1 rfl (d_nil ⟨len_le, finX ?_⟩)))⟩))))))))))
        rw [et, if_neg (by have := of_decide_eq_false hF; rintro (z | z | z); exact q1 z; exact z.2 q2; exact this z)]
        rfl
/-! ### remark_end -/
abbrev s_remark_end : Stmt := top 55
abbrev n_remark_end : List Str := ["text", "at"]
theorem sc_remark_end : FnScope n_remark_end ["text", "at"] (defScope s_remark_end) := ⟨rfl, rfl, rfl, by decide +kernel, rfl, by decide +kernel, by decide +kernel⟩
def p_remark_end : List D → D → Prop := fun ds d => ∃ (b : Bytes) (i : Nat), ds = [txD b, Nd i] ∧ i ≤ b.length ∧ d = Nd (i + ((b.drop i).takeWhile (· != 10)).length)
theorem f_remark_end (F : Fa K mg "remark_end" s_remark_end) (nlen : mg "len" = none) (gL : Glo K mg "LINE_END" (.int 10)) : Fv P w K mg base CX0 1 "remark_end" ["text", "at"] (PureP p_remark_end) := by
  refine fa_fv F (fun _ _ _ _ _ _ us hl => match us, hl with | [_, _], _ => rfl) fun f fd F => fn0 F sc_remark_end (fun Γ r ⟨ds, d, e, _, b, i, e2, _⟩ => by subst e; subst e2; rfl) ?_
  have nd := sc_remark_end.nd
  rintro cdv A outer s H E _ _ hr ⟨_, _, rfl, rfl, b, i, rfl, hi, rfl⟩
  refine ss_cons (s_while _ .never (while_m (fun (t : Nat) => [.im (txD b), .im (Nd t)]) (fun t => b.length - t) (fun t => t ≤ b.length ∧ t + ((b.drop t).takeWhile (· != 10)).length = i + ((b.drop i).takeWhile (· != 10)).length) ?_ i ⟨hi, rfl⟩))
  rintro t n ⟨h1, h2⟩ ih
  have fin : ((b.drop t).takeWhile (· != 10)) = [] → Nd t = Nd (i + ((b.drop i).takeWhile (· != 10)).length) := fun q => by
    rw [← h2, q]; rfl
  refine (t_bool (tw_and (t_cmp (wv 1 rfl (w_callB rfl nlen boot_len (d_cons (wv 0 rfl (d_nil ⟨_, c_lenL, ⟨_, o_lt, ⟨fun hF => ⟨fun _ => ?_, fun hT => (Bool.false_ne_true hT).elim⟩, fun hT => ?_⟩⟩⟩))))))))
  · have q := of_decide_eq_false hF
    rw [List.length_map] at q
    exact ss_one (s_ret (wv 1 rfl (fin_eq (fin (by rw [List.drop_eq_nil_of_le (by omega)]; rfl)))))
  have ht := of_decide_eq_true hT
  rw [List.length_map] at ht
  have ht : t < b.length := by omega
  obtain ⟨x, hx⟩ : ∃ x, b[t]? = some x := ⟨b[t], List.getElem?_eq_getElem ht⟩
  have dr := drop_at hx
  have e10 : decide (((x.toNat : Nat) : Int) = 10) = !(x != 10) := by
    rw [Bool.eq_iff_iff, decide_eq_true_iff]
    simp only [bne, Bool.not_not, beq_iff_eq]
    constructor
    · intro h; exact UInt8.toNat_inj.mp (show x.toNat = 10 by omega)
    · rintro rfl; rfl
  refine (tw_and1 (t_cmp (w_ix (wv 0 rfl (wv 1 rfl ⟨_, (ix2_lst (tx_at hx)), (w_glob gL rfl ⟨_, o_neI, ⟨fun hF => ?_, fun hT2 => ?_⟩⟩)⟩)))))
  · rw [e10, Bool.not_not] at hF
    exact ss_one (s_ret (wv 1 rfl (fin_eq (fin (by rw [dr, List.takeWhile_cons, hF]; rfl)))))
  · rw [e10, Bool.not_not] at hT2
    refine ss_one (ss 1 nd (w_bin (wv 1 rfl (w_int ⟨_, o_addI, ?_⟩))))
    refine ih (t + 1) ⟨ht, ?_⟩ (by omega)
    have e : ((b.drop t).takeWhile (· != 10)).length = ((b.drop (t + 1)).takeWhile (· != 10)).length + 1 := by rw [dr, List.takeWhile_cons, hT2]; rfl
    omega
end
end Fp

set_option Elab.async false
set_option linter.all false
set_option maxRecDepth 100000
set_option maxHeartbeats 2000000
namespace Fp
open PySem PySem.Spec PyProof.Rows L2 Dl
open VatmsBase (Bytes word isBlank isDigit isLetter PTok Toks decimal numberOf token lex)
theorem lex_cons (n at_ : Nat) (c : UInt8) (r : Bytes) : lex (n + 1) at_ (c :: r) = if isBlank c = true then lex n (at_ + 1) r
    else if (c == 35) = true then lex n (at_ + 1 + (r.takeWhile (· != 10)).length) (r.dropWhile (· != 10))
    else match token (c :: r) with
      | none => .error ⟨2, at_⟩
      | some x => (lex n (at_ + x.2) ((c :: r).drop x.2)).map fun l => ⟨at_, x.1⟩ :: l := rfl
def signsT : List (Int × Str) := VatmsBase.SIGNS.map fun c => (((c.toNat : Nat) : Int), (⟨#[c.toNat]⟩ : Str))
theorem signs_lookup (c : UInt8) : signsT.lookup ((c.toNat : Nat) : Int) = if VatmsBase.SIGNS.contains c = true then some ⟨#[c.toNat]⟩ else none := by
  unfold signsT
  induction VatmsBase.SIGNS with
  | nil => rfl
  | cons d l ih =>
    rw [List.map_cons, List.lookup_cons, List.contains_cons]
    by_cases e : c = d
    · subst e; simp
    · have : (((c.toNat : Nat) : Int) == ((d.toNat : Nat) : Int)) = false := by
        simp only [beq_eq_false_iff_ne, ne_eq]
        intro z
        exact e (UInt8.toNat_inj.mp (by omega))
      rw [this]
      have e2 : (c == d) = false := by simpa using e
      rw [e2, Bool.false_or]
      exact ih
theorem sign_not_alnum : ∀ c ∈ VatmsBase.SIGNS, isLetter c = false ∧ isDigit c = false := by decide
theorem token_sign {c : UInt8} {r : Bytes} (h : VatmsBase.SIGNS.contains c = true) : token (c :: r) = some (.sign c.toNat, 1) := by
  obtain ⟨h1, h2⟩ := sign_not_alnum c (by simpa using h)
  unfold token
  simp only [h1, h2, h]
  rfl
theorem token_none {c : UInt8} {r : Bytes} (h : VatmsBase.SIGNS.contains c = false) (h2 : alnum c = false) : token (c :: r) = none := by
  unfold alnum at h2
  rw [Bool.or_eq_false_iff] at h2
  unfold token
  simp only [h2.1, h2.2, h]
  rfl
theorem blank_mem {c : UInt8} : decide (((c.toNat : Nat) : Int) ∈ [(32 : Int), 9, 10]) = isBlank c := by
  rw [Bool.eq_iff_iff, decide_eq_true_iff]
  unfold isBlank
  simp only [List.mem_cons, List.not_mem_nil, or_false, Bool.or_eq_true, beq_iff_eq]
  have t : ∀ d : UInt8, c = d ↔ c.toNat = d.toNat := fun d => UInt8.toNat_inj.symm
  rw [t, t, t]
  show _ ↔ (c.toNat = 32 ∨ c.toNat = 9 ∨ c.toNat = 10)
  omega
theorem drop_takeWhile {α : Type} {p : α → Bool} : ∀ l : List α, l.drop (l.takeWhile p).length = l.dropWhile p
  | [] => rfl
  | x :: l => by
    rw [List.takeWhile_cons, List.dropWhile_cons]
    cases p x with
    | true => exact drop_takeWhile l
    | false => rfl
theorem mem_tw {α : Type} {p : α → Bool} {x : α} : ∀ {l : List α}, x ∈ l.takeWhile p → p x = true
  | [], h => by cases h
  | y :: l, h => by
    rw [List.takeWhile_cons] at h
    cases q : p y with
    | false => rw [q] at h; cases h
    | true =>
      rw [q, if_pos rfl] at h
      rcases List.mem_cons.mp h with rfl | h
      · exact q
      · exact mem_tw h
theorem tw_len {α : Type} {p : α → Bool} : ∀ l : List α, (l.takeWhile p).length ≤ l.length
  | [] => Nat.le_refl _
  | y :: l => by
    rw [List.takeWhile_cons]
    cases p y with
    | false => exact Nat.zero_le _
    | true => exact Nat.succ_le_succ (tw_len l)
theorem wordAt_pre (l : Bytes) : ∃ r, l = wordAt l ++ r := by
  cases l with
  | nil => exact ⟨[], rfl⟩
  | cons c r =>
    rw [wordAt_cons]
    split
    · exact ⟨_, (List.takeWhile_append_dropWhile).symm⟩
    · exact ⟨_, (List.takeWhile_append_dropWhile).symm⟩
theorem wordAt_alnum (l : Bytes) : ∀ x ∈ wordAt l, alnum x = true := by
  intro x hx
  cases l with
  | nil => cases hx
  | cons c r =>
    rw [wordAt_cons] at hx
    split at hx
    · exact (mem_tw hx)
    · have := mem_tw hx
      unfold alnum; rw [this, Bool.or_true]
theorem wordAt_cls (l : Bytes) : ∀ c r, wordAt l = c :: r → isLetter c = true ∨ (∀ x ∈ wordAt l, isDigit x = true) := by
  intro c r h
  cases l with
  | nil => cases h
  | cons d t =>
    rw [wordAt_cons] at h ⊢
    by_cases hl : isLetter d = true
    · rw [if_pos hl, List.takeWhile_cons] at h
      have : alnum d = true := by unfold alnum; rw [hl]; rfl
      rw [this, if_pos rfl] at h
      obtain ⟨rfl, _⟩ := List.cons.inj h
      exact .inl hl
    · rw [if_neg hl]
      exact .inr fun x hx => mem_tw hx
theorem sg_flat : ∀ w : Bytes, (∀ x ∈ w, alnum x = true) → (w.map sgB).flatten = w
  | [], _ => rfl
  | c :: w, h => by
    have hc := h c List.mem_cons_self
    unfold alnum at hc
    rw [List.map_cons, List.flatten_cons, sg_flat w fun x hx => h x (List.mem_cons_of_mem _ hx)]
    unfold sgB
    rw [if_pos hc]; rfl
theorem pre_get {b : Bytes} {at_ : Nat} {w r : Bytes} (h : b.drop at_ = w ++ r) : (List.range' at_ w.length).map (fun k => b[k]?.getD 0) = w := by
  apply List.ext_getElem?
  intro i
  rw [List.getElem?_map]
  by_cases hi : i < w.length
  · rw [List.getElem?_range' hi]
    have : b[at_ + i]? = w[i]? := by rw [← List.getElem?_drop, h, List.getElem?_append_left hi]
    show some (b[at_ + 1 * i]?.getD 0) = _
    rw [Nat.one_mul, this, List.getElem?_eq_getElem hi]; rfl
  · rw [List.getElem?_eq_none (by rw [List.length_range']; omega), List.getElem?_eq_none (by omega)]; rfl
theorem exmap_comp {ε α β γ : Type} (x : Except ε α) (f : α → β) (g : β → γ) : (x.map f).map g = x.map (g ∘ f) := by cases x <;> rfl
section
variable {P : Program} {w : World} {K : PySem.W.Frag} {mg : Str → Option Value} {base : Heap}
abbrev s_tokens_of : Stmt := top 56
abbrev n_tokens_of : List Str := ["text", "found", "at", "byte", "end", "k"]
theorem sc_tokens_of : FnScope n_tokens_of ["text"] (defScope s_tokens_of) := ⟨rfl, rfl, rfl, by decide +kernel, rfl, by decide +kernel, by decide +kernel⟩
abbrev toksD (l : Toks) : D := .lst (l.map tokD)
def p_tokens_of (FC : Addr) : List D → Ox → Prop := fun ds o => ∃ (b : Bytes), ds = [txD b] ∧ b.length ≤ 4096 ∧ o = outX FC toksD (lex (b.length + 1) 0 b)
theorem f_tokens_of {FC : Addr} (F : Fa K mg "tokens_of" s_tokens_of) (T : FaultK P w K mg base FC) (hsign : FvSign P w K mg base) (hrun : Fv P w K mg base CX0 2 "run_end" ["text", "at"] (PureP p_run_end)) (hrem : Fv P w K mg base CX0 1 "remark_end" ["text", "at"] (PureP p_remark_end))
    (htok : Fv P w K mg base (L2.CX P w) 3 "token_of" ["run", "at"] (PureX (p_token_of FC))) (nlen : mg "len" = none) (nrange : mg "range" = none) (gB : Glo K mg "BLANKS" (.tup [.int 32, .int 9, .int 10])) (gR : Glo K mg "REMARK" (.int 35)) (gS : ITab P w K mg "SIGNS" signsT) : Fv P w K mg base (L2.CX P w) 4 "tokens_of" ["text"] (PureX (p_tokens_of FC)) := by
  refine fa_fv F (fun _ _ _ _ _ _ us hl => match us, hl with | [_], _ => rfl) fun f fd F => fnX F sc_tokens_of (fun Γ r h => by obtain ⟨ds, o, e, ⟨b, e2, _⟩, _⟩ := h; subst e; subst e2; rfl) ?_
  have nd := sc_tokens_of.nd
  intro cdv A outer s H E Γ r hr hp
  obtain ⟨_, _, rfl, ⟨b, rfl, hb, rfl⟩, rfl⟩ := pureX_of hp
  have hz : sizeLine = 16777216 := sizeLine_eq
  have tk : Takes (cxOf (L2.CX P w) P w K mg base n_tokens_of "tokens_of" (defScope s_tokens_of) f cdv A outer s H E) fun cls d _ H => E cls d H := takes_of rfl rfl rfl rfl
  have pc : Passes (L2.CX P w) (cxOf (L2.CX P w) P w K mg base n_tokens_of "tokens_of" (defScope s_tokens_of) f cdv A outer s H E) E := passes_call tk fun _ _ _ _ h => h
  refine ss_cons (ssN 1 nd (w_lst (d_nil ⟨len_le, fun pfound => ?_⟩)))
  refine ss_cons (ss 2 nd (w_int ?_))
  refine ss_cons (s_while _ (passes_of rfl) (while_m (fun (t : Toks × Nat × Sl × Sl) => [.im (txD b), .own pfound (.lst (t.1.map tokD)), .im (Nd t.2.1), t.2.2.1, t.2.2.2, .un]) (fun t => b.length - t.2.1)
    (fun t => t.2.1 ≤ b.length ∧ t.1.length ≤ t.2.1 ∧ ∃ n, b.length - t.2.1 < n ∧ (lex n t.2.1 (b.drop t.2.1)).map (fun l => t.1 ++ l) = lex (b.length + 1) 0 b) ?_ ([], 0, .un, .un) ⟨Nat.zero_le _, Nat.le_refl _, b.length + 1, by show b.length - 0 < b.length + 1; omega, by show (lex (b.length + 1) 0 b).map (fun l => [] ++ l) = _; cases lex (b.length + 1) 0 b <;> rfl⟩))
  rintro ⟨fnd, t, s3, s4⟩ m ⟨h1, h2, n, h3, h4⟩ ih
  have h1 : t ≤ b.length := h1
  have h2 : fnd.length ≤ t := h2
  have h3 : b.length - t < n := h3
  have h4 : (lex n t (b.drop t)).map (fun l => fnd ++ l) = lex (b.length + 1) 0 b := h4
  obtain ⟨n, rfl⟩ : ∃ k, n = k + 1 := ⟨n - 1, by omega⟩
  refine (t_cmp (wv 2 rfl (w_callB rfl nlen boot_len (d_cons (wv 0 rfl (d_nil ⟨_, c_lenL, ⟨_, o_lt, ⟨fun hF => ?_, fun hT => ?_⟩⟩⟩))))))
  · have q : ¬ ((t : Nat) : Int) < ((b.map byD).length : Nat) := of_decide_eq_false hF
    rw [List.length_map] at q
    refine ss_one (s_ret (w_new (w_binN (wg 1 rfl (w_new (w_lst (d_cons (w_tup (d_cons (w_str (d_cons (w_str (d_cons (w_callB rfl nlen boot_len (d_cons (wv 0 rfl (d_nil ⟨_, c_lenL, (d_nil ⟨len_le, (d_nil ⟨len_le, ⟨_, o_catL ?_, finX ?_⟩⟩)⟩)⟩)))))))))))))))))
    · rw [List.length_map]; show fnd.length + 1 ≤ _; omega
    · have e : b.drop t = [] := List.drop_eq_nil_of_le (by omega)
      rw [e] at h4
      rw [← h4]
      show Ox.ok (.lst ((fnd ++ [(⟨t, .last⟩ : PTok)]).map tokD)) = .ok (.lst (fnd.map tokD ++ [.tup [.str "end", .str "", .int ((b.map byD).length : Nat)]]))
      rw [List.map_append, List.length_map, show b.length = t by omega]
      rfl
  have ht : ((t : Nat) : Int) < ((b.map byD).length : Nat) := of_decide_eq_true hT
  rw [List.length_map] at ht
  have ht : t < b.length := by omega
  obtain ⟨c, hc⟩ : ∃ c, b[t]? = some c := ⟨b[t], List.getElem?_eq_getElem ht⟩
  have dr := drop_at hc
  rw [dr, lex_cons] at h4
  refine ss_cons (ss 3 nd (w_ix (wv 0 rfl (wv 2 rfl ⟨_, (ix2_lst (tx_at hc)), ?_⟩))))
  refine ss_one (s_if (t_cmp (wv 3 rfl (w_glob gB rfl ⟨decide (((c.toNat : Nat) : Int) ∈ [(32 : Int), 9, 10]), o_inIT (l := [32, 9, 10]), ⟨fun hT => ?_, fun hF => ?_⟩⟩))))
  · rw [blank_mem] at hT
    rw [if_pos hT] at h4
    refine ss_one (ss 2 nd (w_bin (wv 2 rfl (w_int ⟨_, o_addI, ?_⟩))))
    exact ih (fnd, t + 1, _, _) ⟨ht, by show fnd.length ≤ t + 1; omega, n, by show b.length - (t + 1) < n; omega, h4⟩ (by show b.length - (t + 1) < b.length - t; omega)
  rw [blank_mem] at hF
  rw [if_neg (by rw [hF]; decide)] at h4
  have e35 : decide (((c.toNat : Nat) : Int) = 35) = (c == 35) := by
    rw [Bool.eq_iff_iff, decide_eq_true_iff, beq_iff_eq]
    constructor
    · intro h; exact UInt8.toNat_inj.mp (show c.toNat = 35 by omega)
    · rintro rfl; rfl
  refine ss_one (s_if (t_cmp (wv 3 rfl (w_glob gR rfl ⟨_, o_eqI, ⟨fun hT => ?_, fun hF => ?_⟩⟩))))
  · rw [e35] at hT
    rw [if_pos hT] at h4
    have e0 : c = 35 := by simpa using hT
    have tw : ((b.drop t).takeWhile (· != 10)).length = 1 + ((b.drop (t + 1)).takeWhile (· != 10)).length := by
      rw [dr, List.takeWhile_cons, e0]
      show (_ + 1) = _
      omega
    have dw : b.drop (t + (1 + ((b.drop (t + 1)).takeWhile (· != 10)).length)) = (b.drop (t + 1)).dropWhile (· != 10) := by
      rw [← drop_takeWhile, List.drop_drop]
      congr 1; omega
    have le : t + (1 + ((b.drop (t + 1)).takeWhile (· != 10)).length) ≤ b.length := by
      have := tw_len (p := (· != 10)) (b.drop (t + 1))
      rw [List.length_drop] at this
      omega
    refine ss_one (ss 2 nd (w_callP hrem (hr.mono (by decide)) rfl pass (d_cons (wv 0 rfl (d_cons (wv 2 rfl (d_nil ⟨_, ⟨b, t, rfl, h1, rfl⟩, ?_⟩)))))))
    rw [tw]
    refine ih (fnd, t + (1 + ((b.drop (t + 1)).takeWhile (· != 10)).length), _, _) ⟨le, by show fnd.length ≤ t + _; omega, n, by show b.length - (t + _) < n; omega, ?_⟩ (by show b.length - (t + _) < b.length - t; omega)
    show (lex n (t + _) (b.drop (t + _))).map _ = _
    rw [dw, ← Nat.add_assoc]
    exact h4
  rw [e35] at hF
  rw [if_neg (by rw [hF]; decide)] at h4
  refine ss_one (s_if (t_tabIn gS rfl (wv 3 rfl ⟨_, rfl, ⟨fun hT => ?_, fun hF => ?_⟩⟩)))
  · rw [signs_lookup] at hT
    have hs : VatmsBase.SIGNS.contains c = true := by
      cases q : VatmsBase.SIGNS.contains c with
      | true => rfl
      | false => rw [q] at hT; cases hT
    have lk := signs_lookup c
    rw [if_pos hs] at lk
    rw [token_sign hs] at h4
    refine ss_cons (s_append 1 rfl (.inl rfl) rfl (w_tup (d_cons (w_str (d_cons (w_tabIx gS rfl (wv 3 rfl ⟨_, _, rfl, lk, (d_cons (wv 2 rfl (d_nil ⟨len_le, ⟨_, rfl, by rw [List.length_map]; omega, ?_⟩⟩)))⟩)))))))
    refine ss_one (ss 2 nd (w_bin (wv 2 rfl (w_int ⟨_, o_addI, ?_⟩))))
    have := ih (fnd ++ [⟨t, .sign c.toNat⟩], t + 1, .im (byD c), s4) ⟨ht, by show (fnd ++ [_]).length ≤ t + 1; rw [List.length_append]; show fnd.length + 1 ≤ t + 1; omega, n, by show b.length - (t + 1) < n; omega, ?_⟩ (by show b.length - (t + 1) < b.length - t; omega)
    · rw [List.map_append] at this; exact this
    · rw [← h4]
      show _ = ((lex n (t + 1) (b.drop (t + 1))).map _).map _
      rw [exmap_comp]
      congr 1
      funext l
      show (fnd ++ [_]) ++ l = fnd ++ (_ :: l)
      rw [List.append_assoc]; rfl
  rw [signs_lookup] at hF
  have hs : VatmsBase.SIGNS.contains c = false := by
    cases q : VatmsBase.SIGNS.contains c with
    | false => rfl
    | true => rw [q] at hF; cases hF
  refine ss_one (s_if (t_cmp (w_callP hsign (hr.mono (by decide)) rfl pass (d_cons (wv 3 rfl (d_nil ⟨_, ⟨c, rfl, rfl⟩, (w_str ⟨_, o_neS, ⟨fun hT => ?_, fun hF => ?_⟩⟩)⟩))))))
  · rw [sg_ne, Bool.not_not] at hT
    obtain ⟨wr, hw⟩ := wordAt_pre (b.drop t)
    have ne : wordAt (b.drop t) ≠ [] := by rw [dr]; exact wordAt_ne hT
    have wl : 0 < (wordAt (b.drop t)).length := List.length_pos_iff.mpr ne
    have wle : t + (wordAt (b.drop t)).length ≤ b.length := by
      have := congrArg List.length hw
      rw [List.length_drop, List.length_append] at this
      omega
    have tw := token_word (r := b.drop (t + 1)) hT
    rw [← dr] at tw
    rw [← dr, tw] at h4
    have pg := pre_get hw
    refine ss_cons (ss 4 nd (w_callP hrun (hr.mono (by decide)) rfl pass (d_cons (wv 0 rfl (d_cons (wv 2 rfl (d_nil ⟨_, ⟨b, t, c, rfl, hb, hc, hT, rfl⟩, ?_⟩)))))))
    refine ss_cons (s_append 1 rfl (.inl rfl) rfl (w_callX htok (hr.mono (by decide)) rfl pc (d_cons (w_join (w_str ⟨_, rfl, (w_new (wlc [("k", 5)] [5] Nd (fun _ => true) (fun k => .str (strB (sgB (b[k]?.getD 0)))) nd (blkOk_by (by show blkC n_tokens_of (defScope s_tokens_of) _ _ = true; decide +kernel)) (i_range2 rfl nrange (d_cons (wv 2 rfl (d_cons (wv 4 rfl (d_nil ⟨_, _, rfl, by omega, ⟨List.range' t (wordAt (b.drop t)).length, ?_, by rw [List.length_range']; omega, ⟨(wordAt (b.drop t)).map fun c => strB (sgB c), ?_, ?_, (d_cons (wv 2 rfl (d_nil ⟨_, ⟨wordAt (b.drop t), t, ?_, ne, by omega, wordAt_cls _, rfl⟩, ?_⟩)))⟩, ?_⟩⟩))))))))⟩)))))
    · show rngD ((t : Nat) : Int) ((((t + (wordAt (b.drop t)).length : Nat) : Int) - ((t : Nat) : Int)).toNat) = _
      rw [show ((((t + (wordAt (b.drop t)).length : Nat) : Int) - ((t : Nat) : Int)).toNat) = (wordAt (b.drop t)).length by omega, rng_up]
    · rw [List.filter_eq_self.mpr (fun _ _ => rfl)]
      have e : (List.range' t (wordAt (b.drop t)).length).map (fun k => D.str (strB (sgB (b[k]?.getD 0)))) = (wordAt (b.drop t)).map fun c => D.str (strB (sgB c)) := by
        conv => rhs; rw [← pg]
        rw [List.map_map]; rfl
      show D.lst (List.map _ _) = D.lst (List.map D.str (List.map _ _))
      rw [e, List.map_map]; rfl
    · rw [List.map_map, List.length_map]
      have : ∀ l : Bytes, (l.map ((fun x : Str => x.length) ∘ fun c => strB (sgB c))).sum ≤ l.length := by
        intro l
        induction l with
        | nil => exact Nat.le_refl _
        | cons c l ih =>
          rw [List.map_cons, List.sum_cons, List.length_cons]
          have : (strB (sgB c)).length ≤ 1 := by rw [strB_len]; unfold sgB; split <;> simp
          show (strB (sgB c)).length + _ ≤ _
          omega
      have := this (wordAt (b.drop t))
      show _ + _ * 0 ≤ _
      omega
    · have := join_empty ((wordAt (b.drop t)).map sgB)
      rw [List.map_map, sg_flat _ (wordAt_alnum _)] at this
      show [D.str (Txt.join (Str.ofString "") ((wordAt (b.drop t)).map (strB ∘ sgB))), _] = _
      rw [this]
    · unfold tokX
      cases htk : tokOf (wordAt (b.drop t)) with
      | none =>
        rw [htk] at h4
        show xeR _ FC _
        rw [← h4]
        rfl
      | some tok =>
        rw [htk] at h4
        refine ⟨_, rfl, by rw [List.length_map]; show fnd.length < _; omega, ?_⟩
        refine ss_one (ss 2 nd (wv 4 rfl ?_))
        have := ih (fnd ++ [⟨t, tok⟩], t + (wordAt (b.drop t)).length, .im (byD c), .im (Nd (t + (wordAt (b.drop t)).length))) ⟨wle, by show (fnd ++ [_]).length ≤ _; rw [List.length_append]; show fnd.length + 1 ≤ t + _; omega, n, by show b.length - (t + _) < n; omega, ?_⟩ (by show b.length - (t + _) < b.length - t; omega)
        · rw [List.map_append] at this; exact this
        · rw [← h4]
          show _ = ((lex n (t + _) ((b.drop t).drop _)).map _).map _
          rw [exmap_comp, List.drop_drop]
          congr 1
          funext l
          show (fnd ++ [_]) ++ l = fnd ++ (_ :: l)
          rw [List.append_assoc]; rfl
    · intro k hk
      have hk := List.mem_range'_1.mp hk
      obtain ⟨x, hx⟩ : ∃ x, b[k]? = some x := ⟨b[k]'(by omega), List.getElem?_eq_getElem (by omega)⟩
      refine ⟨_, fun s H0 C cl fp => (gn 5 nd rfl), fun s H0 C cl fp => ⟨rfl, rfl⟩, fun _ s H0 C cl fp => (w_callP hsign (hr.mono (by decide)) rfl pass (d_cons (w_ix (wv 0 rfl (wv 5 rfl ⟨_, (ix2_lst (tx_at hx)), (d_nil ⟨_, ⟨x, rfl, rfl⟩, ?_⟩)⟩)))))⟩
      show _ = D.str (strB (sgB (b[k]?.getD 0)))
      rw [hx]; rfl
  · rw [sg_ne, Bool.not_not] at hF
    rw [token_none hs hF] at h4
    refine ss_one (s_raise T tk (hr.mono (by decide)) rfl pass (d_cons (w_int (d_cons (wv 2 rfl (d_nil ⟨[2, (t : Nat)], rfl, rfl, by decide, ?_⟩))))))
    rw [← h4]; rfl
end
end Fp

set_option Elab.async false
set_option linter.all false
set_option maxRecDepth 100000
set_option maxHeartbeats 2000000
/-! The reader: its state, what it takes. -/
namespace Fp
open PySem PySem.Spec PyProof.Rows L2 Dl
open VatmsBase (Bytes word PTok Toks Frac frac whole wrong here next nextWord taken takeWord takeSign takeName PName)
open Vatmsa (Expr takeTime takeFrac takeValue)
abbrev VExpr := Vatmsa.Expr
abbrev VF := VatmsBase.Fault
/-- a name's bytes are letters and figures; a sign is one of the signs; the last stands alone at the end -/
def tokOk (t : VatmsBase.Tok) : Prop := match t with
  | .name b => b.length ≤ 16 ∧ (∀ x ∈ b, alnum x = true)
  | .sign c => c ∈ VatmsBase.SIGNS.map (·.toNat)
  | .num n => n ≤ 1000000000
  | .last => True
structure LT (l : Toks) : Prop where
  last : ∃ init q, l = init ++ [⟨q, .last⟩] ∧ ∀ t ∈ init, t.tok ≠ .last
  ok : ∀ t ∈ l, tokOk t.tok
structure St (all l : Toks) : Prop where
  suf : ∃ k, l = all.drop k
  lt : LT l
  len : all.length ≤ 5000
theorem LT.cons {l : Toks} (h : LT l) : ∃ t r, l = t :: r := by
  obtain ⟨init, q, e, _⟩ := h.last
  cases init with
  | nil => exact ⟨_, _, e⟩
  | cons t r => exact ⟨t, r ++ [⟨q, .last⟩], by rw [e]; rfl⟩
theorem St.drop {all l : Toks} {t : PTok} {r : Toks} (h : St all l) (e : l = t :: r) (n : t.tok ≠ .last) : St all r := by
  obtain ⟨k, hk⟩ := h.suf
  refine ⟨⟨k + 1, ?_⟩, ⟨?_, fun u hu => h.lt.ok u (by rw [e]; exact List.mem_cons_of_mem _ hu)⟩, h.len⟩
  · rw [← List.drop_drop, ← hk, e]; rfl
  · obtain ⟨init, q, e2, hn⟩ := h.lt.last
    rw [e] at e2
    cases init with
    | nil =>
      obtain ⟨rfl, _⟩ := List.cons.inj e2
      exact (n rfl).elim
    | cons u init =>
      obtain ⟨rfl, e3⟩ := List.cons.inj e2
      exact ⟨init, q, e3, fun x hx => hn x (List.mem_cons_of_mem _ hx)⟩
theorem St.get {all l : Toks} (h : St all l) {t : PTok} {r : Toks} (e : l = t :: r) : all[all.length - l.length]? = some t := by
  obtain ⟨k, hk⟩ := h.suf
  have hl : l.length = all.length - k := by rw [hk, List.length_drop]
  have : 0 < l.length := by rw [e]; exact Nat.succ_pos _
  rw [show all.length - l.length = k by omega]
  have := congrArg (·[0]?) hk
  rw [e] at this
  rw [List.getElem?_drop] at this
  exact this.symm
theorem St.le {all l : Toks} (h : St all l) : l.length ≤ all.length := by
  obtain ⟨k, hk⟩ := h.suf
  rw [hk, List.length_drop]; omega
/-- whether a word or sign stands next -/
def stB (what : Str) (l : Toks) : Bool := match l with
  | ⟨_, .name b⟩ :: _ => decide (strB b = what)
  | ⟨_, .sign c⟩ :: _ => decide (signD c = what)
  | _ => false
theorem stB_word {s : String} {l : Toks} (h : St l l ∨ LT l) (hs : (word s).length ≠ 1) : stB (strB (word s)) l = nextWord s l := by
  have lt : LT l := by rcases h with h | h; exact h.lt; exact h
  obtain ⟨t, r, rfl⟩ := lt.cons
  obtain ⟨q, k⟩ := t
  cases k with
  | name b =>
    show decide (strB b = strB (word s)) = (b == word s)
    rw [Bool.eq_iff_iff, decide_eq_true_iff, beq_iff_eq]
    exact ⟨strB_inj, fun h => by rw [h]⟩
  | sign c =>
    show decide (signD c = strB (word s)) = false
    refine decide_eq_false fun e => hs ?_
    have := congrArg Str.length e
    rw [strB_len] at this
    exact this.symm
  | num n => rfl
  | last => rfl
theorem stB_sign {c : UInt8} {l : Toks} (lt : LT l) (hc : alnum c = false) : stB (strB [c]) l = next (.sign c.toNat) l := by
  obtain ⟨t, r, rfl⟩ := lt.cons
  obtain ⟨q, k⟩ := t
  have ok := lt.ok _ List.mem_cons_self
  cases k with
  | name b =>
    show decide (strB b = strB [c]) = false
    refine decide_eq_false fun e => ?_
    have e := strB_inj e
    subst e
    have := ok.2 c List.mem_cons_self
    rw [hc] at this; cases this
  | sign d =>
    show decide (signD d = strB [c]) = (d == c.toNat)
    rw [Bool.eq_iff_iff, decide_eq_true_iff, beq_iff_eq]
    constructor
    · intro e
      have e := congrArg (fun s => s.cps.toList) e
      exact (List.cons.inj (show [d] = [c.toNat] from e)).1
    · rintro rfl; rfl
  | num n => rfl
  | last => rfl
/-! ### going on -/
/-- what's taken leaves the state a state -/
def Adv {α : Type} (f : Toks → Except VF (α × Toks)) : Prop := ∀ all l a l', St all l → f l = .ok (a, l') → St all l' ∧ l'.length ≤ l.length
def Adv1 (f : Toks → Except VF Toks) : Prop := ∀ all l l', St all l → f l = .ok l' → St all l' ∧ l'.length < l.length
theorem adv_taken {t : VatmsBase.Tok} (ht : t ≠ .last) : Adv1 (taken t) := by
  intro all l l' h e
  obtain ⟨u, r, rfl⟩ := h.lt.cons
  unfold taken at e
  split at e
  · rename_i hn
    cases e
    refine ⟨h.drop rfl fun z => ?_, Nat.lt_succ_self _⟩
    have hn : VatmsBase.tokEq u.tok t = true := hn
    rw [z] at hn
    cases t <;> first | exact ht rfl | cases hn
  · cases e
theorem adv_name : Adv takeName := by
  intro all l a l' h e
  obtain ⟨u, r, rfl⟩ := h.lt.cons
  obtain ⟨q, k⟩ := u
  unfold takeName at e
  cases k with
  | name b =>
    simp only at e
    split at e
    · cases e
    · cases e
      exact ⟨h.drop rfl (by intro z; cases z), Nat.le_succ _⟩
  | _ => cases e
theorem adv_next {t : VatmsBase.Tok} {all l : Toks} (ht : t ≠ .last) (h : St all l) : St all (if next t l = true then l.drop 1 else l) ∧ (if next t l = true then l.drop 1 else l).length ≤ l.length := by
  split
  · rename_i hn
    have := adv_taken ht all l (l.drop 1) h (by unfold taken; rw [if_pos hn])
    exact ⟨this.1, Nat.le_of_lt this.2⟩
  · exact ⟨h, Nat.le_refl _⟩
/-- a number, perhaps with - before -/
def sgnF (hi : Nat) (l : Toks) : Except VF (Int × Toks) := match (if next (.sign 45) l = true then l.drop 1 else l) with
  | ⟨q, .num n⟩ :: r => if hi < n then .error ⟨7, q⟩ else .ok (if next (.sign 45) l = true then -(n : Int) else (n : Int), r)
  | r => wrong r
theorem time_sgn (l : Toks) : takeTime l = sgnF 100000 l := rfl
/-- behind a numerator -/
def divF (i : Int) (m : Toks) : Except VF (Frac × Toks) := match m with
  | ⟨p, .num d⟩ :: s => if d = 0 ∨ 1000 < d then .error ⟨7, p⟩ else .ok (frac i d, s)
  | s => wrong s
def overF (i : Int) (l2 : Toks) : Except VF (Frac × Toks) := if next (.sign 47) l2 = true then divF i (l2.drop 1) else .ok (whole i, l2)
theorem frac_sgn (l : Toks) : takeFrac l = (sgnF 1000000 l).bind fun x => overF x.1 x.2 := by
  unfold takeFrac sgnF
  simp only
  generalize (if next (.sign 45) l = true then l.drop 1 else l) = m
  cases m with
  | nil => rfl
  | cons t r =>
    obtain ⟨q, k⟩ := t
    cases k with
    | num n =>
      simp only
      by_cases h : 1000000 < n
      · rw [if_pos h, if_pos (show Vatmsa.LARGE < n from h)]; rfl
      · rw [if_neg h, if_neg (show ¬ Vatmsa.LARGE < n from h)]; rfl
    | _ => rfl
theorem adv_sgn (hi : Nat) : Adv (sgnF hi) := by
  intro all l a l' h e
  have h1 := adv_next (t := .sign 45) (by intro z; cases z) h
  unfold sgnF at e
  generalize (if next (.sign 45) l = true then l.drop 1 else l) = m at e h1
  obtain ⟨⟨q, k⟩, r, rfl⟩ := h1.1.lt.cons
  cases k with
  | num n =>
    simp only at e
    split at e
    · cases e
    · cases e
      exact ⟨h1.1.drop rfl (by intro z; cases z), Nat.le_trans (Nat.le_succ _) h1.2⟩
  | _ => cases e
theorem adv_time : Adv takeTime := adv_sgn 100000
theorem adv_map {α β : Type} {f : Toks → Except VF (α × Toks)} {g : α × Toks → β × Toks} (hf : Adv f) (hg : ∀ x, (g x).2 = x.2) : Adv fun l => (f l).map g := by
  intro all l a l' h e
  cases q : f l with
  | error z => simp only [q] at e; cases e
  | ok x =>
    simp only [q] at e
    have e : g x = (a, l') := Except.ok.inj e
    have := hf all l x.1 x.2 h q
    rw [← hg x, e] at this
    exact this
theorem adv_bind {α β : Type} {f : Toks → Except VF (α × Toks)} {g : α × Toks → Except VF (β × Toks)} (hf : Adv f) (hg : ∀ a, Adv fun l => g (a, l)) : Adv fun l => (f l).bind g := by
  intro all l a l' h e
  cases q : f l with
  | error z => simp only [q] at e; cases e
  | ok x =>
    simp only [q] at e
    have h1 := hf all l x.1 x.2 h q
    have h2 := hg x.1 all x.2 a l' h1.1 e
    exact ⟨h2.1, Nat.le_trans h2.2 h1.2⟩
theorem adv_bind1 {β : Type} {f : Toks → Except VF Toks} {g : Toks → Except VF (β × Toks)} (hf : Adv1 f) (hg : Adv g) : Adv fun l => (f l).bind g := by
  intro all l a l' h e
  cases q : f l with
  | error z => simp only [q] at e; cases e
  | ok x =>
    simp only [q] at e
    have h1 := hf all l x h q
    have h2 := hg all x a l' h1.1 e
    exact ⟨h2.1, Nat.le_trans h2.2 (Nat.le_of_lt h1.2)⟩
theorem adv_map1 {β : Type} {f : Toks → Except VF Toks} {g : Toks → β × Toks} (hf : Adv1 f) (hg : ∀ x, (g x).2 = x) : Adv fun l => (f l).map g := by
  intro all l a l' h e
  cases q : f l with
  | error z => simp only [q] at e; cases e
  | ok x =>
    simp only [q] at e
    have e : g x = (a, l') := Except.ok.inj e
    have := hf all l x h q
    rw [← hg x, e] at this
    exact ⟨this.1, Nat.le_of_lt this.2⟩
theorem adv_frac : Adv takeFrac := by
  have : takeFrac = fun l => (sgnF 1000000 l).bind fun x => overF x.1 x.2 := funext frac_sgn
  rw [this]
  refine adv_bind (adv_sgn 1000000) fun i => ?_
  intro all l a l' h e
  simp only at e
  unfold overF at e
  split at e
  · rename_i hn
    have h3 := adv_taken (t := .sign 47) (by intro z; cases z) all l (l.drop 1) h (by unfold taken; rw [if_pos hn])
    generalize l.drop 1 = s at e h3
    obtain ⟨⟨q2, k2⟩, r2, rfl⟩ := h3.1.lt.cons
    unfold divF at e
    cases k2 with
    | num d =>
      simp only at e
      split at e
      · cases e
      · cases e
        exact ⟨h3.1.drop rfl (by intro z; cases z), Nat.le_trans (Nat.le_succ _) (Nat.le_of_lt h3.2)⟩
    | _ => cases e
  · cases e
    exact ⟨h, Nat.le_refl _⟩
theorem adv_value : Adv takeValue := by
  intro all l a l' h e
  unfold takeValue at e
  split at e
  · rename_i hn
    cases e
    have := adv_taken (t := .name (word "none")) (by intro z; cases z) all l (l.drop 1) h (by unfold taken; rw [if_pos (show next (.name (word "none")) l = true from hn)])
    exact ⟨this.1, Nat.le_of_lt this.2⟩
  · exact adv_map (g := fun x => (some x.1, x.2)) adv_frac (fun x => rfl) all l a l' h e
/-! ### the methods' state and promises -/
def rdr (RC : Addr) (all l : Toks) : Ow := .ins RC [("tokens", toksD all), ("at", Nd (all.length - l.length))]
def outM (RC FC : Addr) (p : Addr) (all : Toks) (ds : List D) : Except VF (D × Toks) → Res
  | .ok x => .ok x.1 (.own p (rdr RC all x.2) :: ds.map Sl.im)
  | .error f => .ex FC (faultF f.code f.place)
def RM (RC FC : Addr) (q : List D → Toks → Except VF (D × Toks) → Prop) : En → Res → Prop := fun Γ r => ∃ p all l ds o, Γ = .own p (rdr RC all l) :: ds.map Sl.im ∧ St all l ∧ q ds l o ∧ r = outM RC FC p all ds o
theorem finM {RC FC p : Addr} {all l l' : Toks} {ds : List D} {o : Except VF (D × Toks)} {d : D} {Γ' : En} (h : o = .ok (d, l')) (h0 : Γ'[0]? = some (.own p (rdr RC all l'))) : FinR (.own p (rdr RC all l) :: ds.map Sl.im) (outM RC FC p all ds o) d Γ' := by
  subst h
  refine ⟨_, rfl, by simp, fun k s hk => ?_⟩
  cases k with
  | zero => cases hk; exact .inr (.inr ⟨p, _, _, rfl, h0, rfl⟩)
  | succ k =>
    rw [List.getElem?_cons_succ] at hk
    rw [List.getElem?_map] at hk
    cases e : ds[k]? with
    | none => rw [e] at hk; cases hk
    | some d0 =>
      rw [e] at hk; cases hk
      exact .inr (.inl ⟨d0, rfl, by rw [List.getElem?_cons_succ, List.getElem?_map, e] <;> rfl⟩)
section
variable {X : Cx} {E : XK} {XE : XS} {Γ : En} {R : D → En → Prop} {pos : Pos}
theorem w_rd {CX : CXT} {k : Nat} {ps : List Str} {q : List D → Toks → Except VF (D × Toks) → Prop} {x m : Str} {px apos : Pos} {e : PySem.Expr} {es : List PySem.Expr} {RC FC p : Addr} {all l : Toks} (F : Mv X.prog X.w X.K X.mg X.base CX k RC m ps (RM RC FC q)) (c : Cls X.K RC) (hr : Room k X.A) (hx : Passes CX X E)
    (hi : Γ[0]? = some (.own p (rdr RC all l))) (hm : m ≠ "tokens" ∧ m ≠ "at")
    (h : WpD X E XE (e :: es) Γ fun ds Γ1 => ∃ l1, Γ1[0]? = some (.own p (rdr RC all l1)) ∧ St all l1 ∧ ∃ o, q ds l1 o ∧ match o with
      | .ok y => R y.1 (Γ1.set 0 (.own p (rdr RC all y.2)))
      | .error f => XE FC (faultF f.code f.place))
    (hN : X.N[0]? = some x := by rfl) (hv : Vis X.env.scope x := by first | exact .inl rfl | exact .inr (.inl rfl) | exact .inr (.inr rfl)) (hst : starEach (e :: es) X.env = (false, eval e X.env) :: starEach es X.env := by rfl) (hpl : (backTo pos (starEach es X.env)).any (·.1) = false := by rfl)
    {pl : Sem Bool} (ht : eval (.Call (.Attribute (.Name x px) m apos) (e :: es) [] pos) X.env = (do let ov ← eval (.Name x px) X.env; standAt apos.atName; let (f, first) ← holding [ov] (getMethod ov m pl); callWith pos f first (backTo pos (starEach (e :: es) X.env)) (backToKw pos (keywordEach [] X.env))) := by rfl) (hd : (x == ("__debug__" : Str)) = false := by decide) (hcd : (x == ("__classdict__" : Str)) = false := by decide) :
    Wp X E XE (.Call (.Attribute (.Name x px) m apos) (e :: es) [] pos) Γ R := by
  refine w_methS F c hr hx hi ?_ ?_ hN hv hst hpl ht hd hcd
  · have h1 : (m == ("tokens" : Str)) = false := by simpa using hm.1
    have h2 : (m == ("at" : Str)) = false := by simpa using hm.2
    simp [List.lookup, h1, h2]
  · refine fun σ I H Q a k x => h σ I H Q a (fun vs I1 H1 ds Γ1 ⟨l1, g1, st, o, hq, hr2⟩ s1 a1 r1 => k vs I1 H1 ds Γ1 ⟨_, g1, outM RC FC p all ds o, ⟨p, all, l1, ds, o, rfl, st, hq, rfl⟩, ?_⟩ s1 a1 r1) x
    cases o with
    | ok y => exact ⟨_, rfl, hr2⟩
    | error f => exact hr2
theorem w_rd0 {CX : CXT} {k : Nat} {ps : List Str} {q : List D → Toks → Except VF (D × Toks) → Prop} {x m : Str} {px apos : Pos} {RC FC p : Addr} {all l : Toks} (F : Mv X.prog X.w X.K X.mg X.base CX k RC m ps (RM RC FC q)) (c : Cls X.K RC) (hr : Room k X.A) (hx : Passes CX X E)
    (hi : Γ[0]? = some (.own p (rdr RC all l))) (hm : m ≠ "tokens" ∧ m ≠ "at") (st : St all l)
    (h : ∃ o, q [] l o ∧ match o with
      | .ok y => R y.1 (Γ.set 0 (.own p (rdr RC all y.2)))
      | .error f => XE FC (faultF f.code f.place))
    (hN : X.N[0]? = some x := by rfl) (hv : Vis X.env.scope x := by first | exact .inl rfl | exact .inr (.inl rfl) | exact .inr (.inr rfl))
    {pl : Sem Bool} (ht : eval (.Call (.Attribute (.Name x px) m apos) [] [] pos) X.env = (do let ov ← eval (.Name x px) X.env; standAt apos.atName; let (f, first) ← holding [ov] (getMethod ov m pl); callWith pos f first (backTo pos (starEach [] X.env)) (backToKw pos (keywordEach [] X.env))) := by rfl) (hd : (x == ("__debug__" : Str)) = false := by decide) (hcd : (x == ("__classdict__" : Str)) = false := by decide) :
    Wp X E XE (.Call (.Attribute (.Name x px) m apos) [] [] pos) Γ R := by
  refine w_methS0 F c hr hx hi ?_ ?_ hN hv ht hd hcd
  · have h1 : (m == ("tokens" : Str)) = false := by simpa using hm.1
    have h2 : (m == ("at" : Str)) = false := by simpa using hm.2
    simp [List.lookup, h1, h2]
  · obtain ⟨o, hq, hr2⟩ := h
    refine ⟨outM RC FC p all [] o, ⟨p, all, l, [], o, rfl, st, hq, rfl⟩, ?_⟩
    cases o with
    | ok y => exact ⟨_, rfl, hr2⟩
    | error f => exact hr2
end
end Fp

set_option Elab.async false
set_option linter.all false
set_option maxRecDepth 100000
set_option maxHeartbeats 2000000
namespace Fp
open PySem PySem.Spec PyProof.Rows L2 Dl
open VatmsBase (Bytes word PTok Toks Frac frac whole wrong here next nextWord taken takeWord takeSign takeName PName)
open Vatmsa (takeTime takeFrac takeValue)
structure RdC (K : PySem.W.Frag) (RC : Addr) : Prop where
  c : Cls K RC
  nt : NoAttr K RC "tokens"
  na : NoAttr K RC "at"
theorem rdr_step {RC : Addr} {all r : Toks} {t : PTok} (h : St all (t :: r)) : Ow.ins RC (putD "at" (.int (((all.length - (t :: r).length : Nat) : Int) + 1)) [("tokens", toksD all), ("at", Nd (all.length - (t :: r).length))]) = rdr RC all r := by
  have := h.le
  rw [List.length_cons] at this ⊢
  rw [show (((all.length - (r.length + 1) : Nat) : Int) + 1) = ((all.length - r.length : Nat) : Int) by omega]
  rfl
section
variable {X : Cx} {E : XK} {XE : XS} {Γ : En} {R : D → En → Prop} {pos : Pos}
theorem w_tok {x : Str} {p0 p1 p2 p3 : Pos} {RC p : Addr} {all l r : Toks} {t : PTok} (c : RdC X.K RC) (hi : Γ[0]? = some (.own p (rdr RC all l))) (st : St all l) (e : l = t :: r) (hR : R (tokD t) Γ)
    (hN : X.N[0]? = some x := by rfl) (hv : Vis X.env.scope x := by first | exact .inl rfl | exact .inr (.inl rfl) | exact .inr (.inr rfl))
    (hb : attributeBase (.Name x p0) "tokens" X.env (eval (.Name x p0) X.env) = eval (.Name x p0) X.env := by rfl) (hb2 : attributeBase (.Name x p2) "at" X.env (eval (.Name x p2) X.env) = eval (.Name x p2) X.env := by rfl) (hs : PlainIx (.Attribute (.Name x p2) "at" p3) := by exact fun _ _ => rfl) (hd : (x == ("__debug__" : Str)) = false := by decide) (hcd : (x == ("__classdict__" : Str)) = false := by decide) :
    Wp X E XE (.Subscript (.Attribute (.Name x p0) "tokens" p1) (.Attribute (.Name x p2) "at" p3) pos) Γ R :=
  w_ix (wf 0 hi c.c c.nt rfl (wf 0 hi c.c c.na rfl ⟨_, ix2_lst (atI_nat (by rw [List.getElem?_map, st.get e]; rfl)), hR⟩ hN hv hb2 hd hcd) hN hv hb hd hcd) hs
theorem s_step {x : Str} {p0 p1 p2 p3 p4 p5 : Pos} {j : Nat} {RC p : Addr} {all r : Toks} {t : PTok} {R : Re} (c : RdC X.K RC) (hi : Γ[0]? = some (.own p (rdr RC all (t :: r)))) (st : St all (t :: r)) (hR : R.nx (Γ.set 0 (.own p (rdr RC all r))))
    (hN : X.N[0]? = some x := by rfl) (hv : Vis X.env.scope x := by first | exact .inl rfl | exact .inr (.inl rfl) | exact .inr (.inr rfl))
    (hb : attributeBase (.Name x p2) "at" X.env (eval (.Name x p2) X.env) = eval (.Name x p2) X.env := by rfl)
    (hs : swapsWith (.BinOp (.Attribute (.Name x p2) "at" p3) .Add (.Constant (.int 1) j p4) p5) (some (.Attribute (.Name x p0) "at" p1)) pos.line X.env = pure false := by rfl) (hd : (x == ("__debug__" : Str)) = false := by decide) (hcd : (x == ("__classdict__" : Str)) = false := by decide) :
    WpS X E XE (.Assign [.Attribute (.Name x p0) "at" p1] (.BinOp (.Attribute (.Name x p2) "at" p3) .Add (.Constant (.int 1) j p4) p5) pos) Γ R := by
  refine s_fld 0 hN hv c.c c.na (w_bin (wf 0 hi c.c c.na rfl (w_int ⟨_, o_addI, _, hi, by show (2 : Nat) < 1000; decide, ?_⟩) hN hv hb hd hcd)) hs hd hcd
  have := rdr_step (RC := RC) st
  rw [this]
  exact hR
end
def wordF (ws : List Str) (l : Toks) : Except VF (D × Toks) := match l with
  | ⟨_, .name b⟩ :: r => if strB b ∈ ws then .ok (.str (strB b), r) else wrong l
  | _ => wrong l
def numF (lo hi : Int) (l : Toks) : Except VF (D × Toks) := match l with
  | ⟨q, .num n⟩ :: r => if (n : Int) < lo ∨ hi < (n : Int) then .error ⟨7, q⟩ else .ok (Nd n, r)
  | _ => wrong l
def qNext : List D → Toks → Except VF (D × Toks) → Prop := fun ds l o => ds = [] ∧ o = .ok (Nd (here l), l)
def qStands : List D → Toks → Except VF (D × Toks) → Prop := fun ds l o => ∃ w, ds = [.str w] ∧ o = .ok (.bl (stB w l), l)
def qTakes : List D → Toks → Except VF (D × Toks) → Prop := fun ds l o => ∃ w, ds = [.str w] ∧ o = .ok (.bl (stB w l), if stB w l = true then l.drop 1 else l)
def qWants : List D → Toks → Except VF (D × Toks) → Prop := fun ds l o => ∃ w, ds = [.str w] ∧ o = if stB w l = true then .ok (.non, l.drop 1) else wrong l
def qName : List D → Toks → Except VF (D × Toks) → Prop := fun ds l o => ds = [] ∧ o = (takeName l).map fun x => (.tup [.str (strB x.1.name), Nd x.1.place], x.2)
def qWord : List D → Toks → Except VF (D × Toks) → Prop := fun ds l o => ∃ ws : List Str, ds = [.tup (ws.map D.str)] ∧ o = wordF ws l
def qNumber : List D → Toks → Except VF (D × Toks) → Prop := fun ds l o => ∃ lo hi : Int, ds = [.int lo, .int hi] ∧ o = numF lo hi l
theorem pick_str (s : String) : (Str.ofString s == Str.ofString s) = true := by simp
section
variable {P : Program} {w : World} {K : PySem.W.Frag} {mg : Str → Option Value} {base : Heap} {RC FC : Addr}
/-! ### next_place -/
abbrev s_Reader_next_place : Stmt := inClass (top 57) 1
abbrev n_Reader_next_place : List Str := ["self"]
theorem sc_Reader_next_place : FnScope n_Reader_next_place ["self"] (defScope s_Reader_next_place) := ⟨rfl, rfl, rfl, by decide +kernel, rfl, by decide +kernel, by decide +kernel⟩
theorem f_Reader_next_place (F : Ma K RC "next_place" "Reader.next_place" s_Reader_next_place) (c : RdC K RC) : Mv P w K mg base CX0 1 RC "next_place" ["self"] (RM RC FC qNext) := by
  refine ma_mv F (fun _ _ _ _ _ _ us hl => match us, hl with | [_], _ => rfl) fun f fd F => fn0 F sc_Reader_next_place (fun Γ r ⟨p, all, l, ds, o, e, _, ⟨e2, _⟩, _⟩ => by subst e; subst e2; rfl) ?_
  have nd := sc_Reader_next_place.nd
  rintro cdv A outer s H E _ _ hr ⟨p, all, l, ds, o, rfl, st, ⟨rfl, rfl⟩, rfl⟩
  obtain ⟨t, r, rfl⟩ := st.lt.cons
  have e2 : atI (match tokD t with | .tup l => l | _ => []) 2 = some (Nd t.place) ∧ tokD t = .tup (match tokD t with | .tup l => l | _ => []) := by
    obtain ⟨q, k⟩ := t
    cases k <;> exact ⟨rfl, rfl⟩
  refine ss_one (s_ret (w_ix (w_tok c rfl st rfl ?_)))
  rw [e2.2]
  exact w_int ⟨_, ix2_tup e2.1, finM rfl rfl⟩
/-! ### stands -/
abbrev s_Reader_stands : Stmt := inClass (top 57) 2
abbrev n_Reader_stands : List Str := ["self", "what", "token"]
theorem sc_Reader_stands : FnScope n_Reader_stands ["self", "what"] (defScope s_Reader_stands) := ⟨rfl, rfl, rfl, by decide +kernel, rfl, by decide +kernel, by decide +kernel⟩
theorem f_Reader_stands (F : Ma K RC "stands" "Reader.stands" s_Reader_stands) (c : RdC K RC) : Mv P w K mg base CX0 1 RC "stands" ["self", "what"] (RM RC FC qStands) := by
  refine ma_mv F (fun _ _ _ _ _ _ us hl => match us, hl with | [_, _], _ => rfl) fun f fd F => fn0 F sc_Reader_stands (fun Γ r ⟨p, all, l, ds, o, e, _, ⟨w, e2, _⟩, _⟩ => by subst e; subst e2; rfl) ?_
  have nd := sc_Reader_stands.nd
  rintro cdv A outer s H E _ _ hr ⟨p, all, l, ds, o, rfl, st, ⟨z, rfl, rfl⟩, rfl⟩
  obtain ⟨⟨q, k⟩, r, rfl⟩ := st.lt.cons
  refine ss_cons (ss 2 nd (w_tok c rfl st rfl ?_))
  cases k with
  | name b => exact ss_one (s_ret (w_and (w_cmp (w_ix (wv 2 rfl (w_int ⟨_, (ix2_tup rfl), (w_tup (d_cons (w_str (d_cons (w_str (d_nil ⟨len_le, ⟨_, o_inST (l := ["name", "sign"]), ⟨_, rfl, fun hF => absurd hF (by decide), fun hT => (w_one (w_cmp (w_ix (wv 2 rfl (w_int ⟨_, (ix2_tup rfl), (wv 1 rfl ⟨_, o_eqS, finM rfl rfl⟩)⟩)))))⟩⟩⟩))))))⟩))))))
  | sign b => exact ss_one (s_ret (w_and (w_cmp (w_ix (wv 2 rfl (w_int ⟨_, (ix2_tup rfl), (w_tup (d_cons (w_str (d_cons (w_str (d_nil ⟨len_le, ⟨_, o_inST (l := ["name", "sign"]), ⟨_, rfl, fun hF => absurd hF (by decide), fun hT => (w_one (w_cmp (w_ix (wv 2 rfl (w_int ⟨_, (ix2_tup rfl), (wv 1 rfl ⟨_, o_eqS, finM rfl rfl⟩)⟩)))))⟩⟩⟩))))))⟩))))))
  | num b => exact ss_one (s_ret (w_and (w_cmp (w_ix (wv 2 rfl (w_int ⟨_, (ix2_tup rfl), (w_tup (d_cons (w_str (d_cons (w_str (d_nil ⟨len_le, ⟨_, o_inST (l := ["name", "sign"]), ⟨_, rfl, fun hF => finM rfl rfl, fun hT => absurd hT (by decide)⟩⟩⟩))))))⟩))))))
  | last => exact ss_one (s_ret (w_and (w_cmp (w_ix (wv 2 rfl (w_int ⟨_, (ix2_tup rfl), (w_tup (d_cons (w_str (d_cons (w_str (d_nil ⟨len_le, ⟨_, o_inST (l := ["name", "sign"]), ⟨_, rfl, fun hF => finM rfl rfl, fun hT => absurd hT (by decide)⟩⟩⟩))))))⟩))))))
end
end Fp

set_option Elab.async false
set_option linter.all false
set_option maxRecDepth 100000
set_option maxHeartbeats 2000000
namespace Fp
open PySem PySem.Spec PyProof.Rows L2 Dl
open VatmsBase (Bytes word PTok Toks Frac frac whole wrong here next nextWord taken takeWord takeSign takeName PName)
open Vatmsa (takeTime takeFrac takeValue)
theorem adv_stB {w : Str} {all l : Toks} (st : St all l) : St all (if stB w l = true then l.drop 1 else l) := by
  split
  · rename_i h
    obtain ⟨⟨q, k⟩, r, rfl⟩ := st.lt.cons
    refine st.drop rfl ?_
    cases k <;> intro z <;> first | exact (Bool.false_ne_true h).elim | cases z
  · exact st
theorem xe_wrong {RC FC p : Addr} {all : Toks} {ds : List D} {l : Toks} {q : Int} (h : q = (here l : Nat)) : xeR (outM RC FC p all ds (wrong l)) FC (faultF 3 q) := by subst h; rfl
section
variable {P : Program} {w : World} {K : PySem.W.Frag} {mg : Str → Option Value} {base : Heap} {RC FC : Addr}
abbrev RX (P : Program) (w : World) (K : PySem.W.Frag) (mg : Str → Option Value) (base : Heap) (RC FC : Addr) (k : Nat) (m : Str) (ps : List Str) (q : List D → Toks → Except VF (D × Toks) → Prop) : Prop := Mv P w K mg base (L2.CX P w) k RC m ps (RM RC FC q)
abbrev RN (P : Program) (w : World) (K : PySem.W.Frag) (mg : Str → Option Value) (base : Heap) (RC FC : Addr) (k : Nat) (m : Str) (ps : List Str) (q : List D → Toks → Except VF (D × Toks) → Prop) : Prop := Mv P w K mg base CX0 k RC m ps (RM RC FC q)
/-! ### takes -/
abbrev s_Reader_takes : Stmt := inClass (top 57) 3
abbrev n_Reader_takes : List Str := ["self", "what"]
theorem sc_Reader_takes : FnScope n_Reader_takes ["self", "what"] (defScope s_Reader_takes) := ⟨rfl, rfl, rfl, by decide +kernel, rfl, by decide +kernel, by decide +kernel⟩
theorem f_Reader_takes (F : Ma K RC "takes" "Reader.takes" s_Reader_takes) (c : RdC K RC) (hst : RN P w K mg base RC FC 1 "stands" ["self", "what"] qStands) : RN P w K mg base RC FC 2 "takes" ["self", "what"] qTakes := by
  refine ma_mv F (fun _ _ _ _ _ _ us hl => match us, hl with | [_, _], _ => rfl) fun f fd F => fn0 F sc_Reader_takes (fun Γ r ⟨p, all, l, ds, o, e, _, ⟨w, e2, _⟩, _⟩ => by subst e; subst e2; rfl) ?_
  have nd := sc_Reader_takes.nd
  rintro cdv A outer s H E _ _ hr ⟨p, all, l, ds, o, rfl, st, ⟨z, rfl, rfl⟩, rfl⟩
  refine ss_cons (s_if (t_not (t_val (w_rd hst c.c (hr.mono (by decide)) pass rfl (by decide) (d_cons (wv 1 rfl (d_nil ⟨l, rfl, st, _, ⟨z, rfl, rfl⟩, _, rfl, ⟨fun hT => ?_, fun hF => ?_⟩⟩)))))))
  · have e : stB z l = false := by simpa using hT
    refine ss_one (s_ret (w_bool (finM (l' := l) ?_ rfl)))
    rw [e]; rfl
  · have e : stB z l = true := by simpa using hF
    obtain ⟨⟨q, k⟩, r, rfl⟩ := st.lt.cons
    refine ss_nil (ss_cons (s_step c rfl st (ss_one (s_ret (w_bool (finM (l' := r) ?_ rfl))))))
    rw [e]; rfl
/-! ### wants -/
abbrev s_Reader_wants : Stmt := inClass (top 57) 4
abbrev n_Reader_wants : List Str := ["self", "what"]
theorem sc_Reader_wants : FnScope n_Reader_wants ["self", "what"] (defScope s_Reader_wants) := ⟨rfl, rfl, rfl, by decide +kernel, rfl, by decide +kernel, by decide +kernel⟩
theorem f_Reader_wants (F : Ma K RC "wants" "Reader.wants" s_Reader_wants) (c : RdC K RC) (T : FaultK P w K mg base FC) (hta : RN P w K mg base RC FC 2 "takes" ["self", "what"] qTakes) (hnp : RN P w K mg base RC FC 1 "next_place" ["self"] qNext) : RX P w K mg base RC FC 3 "wants" ["self", "what"] qWants := by
  refine ma_mv F (fun _ _ _ _ _ _ us hl => match us, hl with | [_, _], _ => rfl) fun f fd F => fnX F sc_Reader_wants (fun Γ r ⟨p, all, l, ds, o, e, _, ⟨w, e2, _⟩, _⟩ => by subst e; subst e2; rfl) ?_
  have nd := sc_Reader_wants.nd
  rintro cdv A outer s H E _ _ hr ⟨p, all, l, ds, o, rfl, st, ⟨z, rfl, rfl⟩, rfl⟩
  have st2 := adv_stB (w := z) st
  refine ss_one (s_if (t_not (t_val (w_rd hta c.c (hr.mono (by decide)) pass rfl (by decide) (d_cons (wv 1 rfl (d_nil ⟨l, rfl, st, _, ⟨z, rfl, rfl⟩, _, rfl, ⟨fun hT => ?_, fun hF => ?_⟩⟩)))))))
  · have e : stB z l = false := by simpa using hT
    rw [e] at st2 ⊢
    refine ss_one (s_raise T (takes_of rfl rfl rfl rfl) (hr.mono (by decide)) rfl pass (d_cons (w_int (d_cons (w_rd0 hnp c.c (hr.mono (by decide)) pass rfl (by decide) st ⟨_, ⟨rfl, rfl⟩, (d_nil ⟨[3, (here l : Nat)], rfl, rfl, by decide, ?_⟩)⟩)))))
    exact xe_wrong rfl
  · have e : stB z l = true := by simpa using hF
    rw [e]
    refine ss_nil (finM (l' := l.drop 1) ?_ ?_)
    · rfl
    · rfl
/-! ### name -/
abbrev s_Reader_name : Stmt := inClass (top 57) 5
abbrev n_Reader_name : List Str := ["self", "sort", "what", "place"]
theorem sc_Reader_name : FnScope n_Reader_name ["self"] (defScope s_Reader_name) := ⟨rfl, rfl, rfl, by decide +kernel, rfl, by decide +kernel, by decide +kernel⟩
def reservedS : List Str := VatmsBase.RESERVED.map strB
theorem mem_strB {b : Bytes} {l : List Bytes} : decide (strB b ∈ l.map strB) = l.contains b := by
  rw [Bool.eq_iff_iff, decide_eq_true_iff, List.contains_iff_mem, List.mem_map]
  constructor
  · rintro ⟨a, ha, e⟩; rw [← strB_inj e]; exact ha
  · intro h; exact ⟨b, h, rfl⟩
theorem f_Reader_name (F : Ma K RC "name" "Reader.name" s_Reader_name) (c : RdC K RC) (T : FaultK P w K mg base FC) (gR : Glo K mg "RESERVED" (.tup (reservedS.map D.str))) : RX P w K mg base RC FC 3 "name" ["self"] qName := by
  refine ma_mv F (fun _ _ _ _ _ _ us hl => match us, hl with | [_], _ => rfl) fun f fd F => fnX F sc_Reader_name (fun Γ r ⟨p, all, l, ds, o, e, _, ⟨e2, _⟩, _⟩ => by subst e; subst e2; rfl) ?_
  have nd := sc_Reader_name.nd
  rintro cdv A outer s H E _ _ hr ⟨p, all, l, ds, o, rfl, st, ⟨rfl, rfl⟩, rfl⟩
  obtain ⟨⟨q, k⟩, r, rfl⟩ := st.lt.cons
  cases k with
  | name b =>
    refine ss_cons (s_asg (js := [1, 2, 3]) (w_tok c rfl st rfl (g1_tup rfl (gs_cons (gn 1 nd (gs_cons (gn 2 nd (gs_cons (gn 3 nd (gs_nil ?_)))))))) ))
    refine ss_cons (s_if (t_bool (tw_or (t_cmp (wv 1 rfl (w_str ⟨_, o_neS, ⟨fun hT => absurd hT (by decide), fun hF => (tw_or1 (t_cmp (wv 2 rfl (w_glob gR rfl ⟨_, o_inST, ⟨fun hT => ?_, fun hF => ?_⟩⟩))))⟩⟩))))))
    · rw [show reservedS = VatmsBase.RESERVED.map strB from rfl, mem_strB] at hT
      refine ss_one (s_raise T (takes_of rfl rfl rfl rfl) (hr.mono (by decide)) rfl pass (d_cons (w_int (d_cons (wv 3 rfl (d_nil ⟨[3, (q : Nat)], rfl, rfl, by decide, ?_⟩))))))
      show xeR (outM RC FC p all [] (Except.map _ (if VatmsBase.RESERVED.contains b = true then wrong _ else _))) FC _
      rw [if_pos hT]
      rfl
    · rw [show reservedS = VatmsBase.RESERVED.map strB from rfl, mem_strB] at hF
      refine ss_nil (ss_cons (s_step c rfl st (ss_one (s_ret (w_tup (d_cons (wv 2 rfl (d_cons (wv 3 rfl (d_nil ⟨len_le, finM (l' := r) ?_ rfl⟩))))))))))
      show Except.map _ (if VatmsBase.RESERVED.contains b = true then wrong _ else _) = _
      rw [if_neg (by rw [hF]; decide)]
      rfl
  | _ =>
    refine ss_cons (s_asg (js := [1, 2, 3]) (w_tok c rfl st rfl (g1_tup rfl (gs_cons (gn 1 nd (gs_cons (gn 2 nd (gs_cons (gn 3 nd (gs_nil ?_)))))))) ))
    refine ss_cons (s_if (t_bool (tw_or (t_cmp (wv 1 rfl (w_str ⟨_, o_neS, ⟨fun hT => ⟨fun _ => ?_, fun hF => (Bool.false_ne_true hF.symm).elim⟩, fun hF => absurd hF (by decide)⟩⟩))))))
    refine ss_one (s_raise T (takes_of rfl rfl rfl rfl) (hr.mono (by decide)) rfl pass (d_cons (w_int (d_cons (wv 3 rfl (d_nil ⟨[3, (q : Nat)], rfl, rfl, by decide, ?_⟩))))))
    rfl
/-! ### word_of -/
abbrev s_Reader_word_of : Stmt := inClass (top 57) 6
abbrev n_Reader_word_of : List Str := ["self", "some", "sort", "what", "place"]
theorem sc_Reader_word_of : FnScope n_Reader_word_of ["self", "some"] (defScope s_Reader_word_of) := ⟨rfl, rfl, rfl, by decide +kernel, rfl, by decide +kernel, by decide +kernel⟩
theorem f_Reader_word_of (F : Ma K RC "word_of" "Reader.word_of" s_Reader_word_of) (c : RdC K RC) (T : FaultK P w K mg base FC) : RX P w K mg base RC FC 3 "word_of" ["self", "some"] qWord := by
  refine ma_mv F (fun _ _ _ _ _ _ us hl => match us, hl with | [_, _], _ => rfl) fun f fd F => fnX F sc_Reader_word_of (fun Γ r ⟨p, all, l, ds, o, e, _, ⟨w, e2, _⟩, _⟩ => by subst e; subst e2; rfl) ?_
  have nd := sc_Reader_word_of.nd
  rintro cdv A outer s H E _ _ hr ⟨p, all, l, ds, o, rfl, st, ⟨ws, rfl, rfl⟩, rfl⟩
  obtain ⟨⟨q, k⟩, r, rfl⟩ := st.lt.cons
  cases k with
  | name b =>
    refine ss_cons (s_asg (js := [2, 3, 4]) (w_tok c rfl st rfl (g1_tup rfl (gs_cons (gn 2 nd (gs_cons (gn 3 nd (gs_cons (gn 4 nd (gs_nil ?_)))))))) ))
    refine ss_cons (s_if (t_bool (tw_or (t_cmp (wv 2 rfl (w_str ⟨_, o_neS, ⟨fun hT => absurd hT (by decide), fun hF => (tw_or1 (t_cmp (wv 3 rfl (wv 1 rfl ⟨_, o_notInST, ⟨fun hT => ?_, fun hF => ?_⟩⟩))))⟩⟩))))))
    · have e : ¬ strB b ∈ ws := by simpa using hT
      refine ss_one (s_raise T (takes_of rfl rfl rfl rfl) (hr.mono (by decide)) rfl pass (d_cons (w_int (d_cons (wv 4 rfl (d_nil ⟨[3, (q : Nat)], rfl, rfl, by decide, ?_⟩))))))
      show xeR (outM RC FC p all _ (if strB b ∈ ws then _ else wrong _)) FC _
      rw [if_neg e]; rfl
    · have e : strB b ∈ ws := by simpa using hF
      refine ss_nil (ss_cons (s_step c rfl st (ss_one (s_ret (wv 3 rfl (finM (l' := r) ?_ rfl))))))
      show (if strB b ∈ ws then _ else wrong _) = _
      rw [if_pos e]
  | _ =>
    refine ss_cons (s_asg (js := [2, 3, 4]) (w_tok c rfl st rfl (g1_tup rfl (gs_cons (gn 2 nd (gs_cons (gn 3 nd (gs_cons (gn 4 nd (gs_nil ?_)))))))) ))
    refine ss_cons (s_if (t_bool (tw_or (t_cmp (wv 2 rfl (w_str ⟨_, o_neS, ⟨fun hT => ⟨fun _ => ?_, fun hF => (Bool.false_ne_true hF.symm).elim⟩, fun hF => absurd hF (by decide)⟩⟩))))))
    refine ss_one (s_raise T (takes_of rfl rfl rfl rfl) (hr.mono (by decide)) rfl pass (d_cons (w_int (d_cons (wv 4 rfl (d_nil ⟨[3, (q : Nat)], rfl, rfl, by decide, ?_⟩))))))
    rfl
/-! ### number -/
abbrev s_Reader_number : Stmt := inClass (top 57) 7
abbrev n_Reader_number : List Str := ["self", "least", "most", "sort", "what", "place"]
theorem sc_Reader_number : FnScope n_Reader_number ["self", "least", "most"] (defScope s_Reader_number) := ⟨rfl, rfl, rfl, by decide +kernel, rfl, by decide +kernel, by decide +kernel⟩
theorem f_Reader_number (F : Ma K RC "number" "Reader.number" s_Reader_number) (c : RdC K RC) (T : FaultK P w K mg base FC) : RX P w K mg base RC FC 3 "number" ["self", "least", "most"] qNumber := by
  refine ma_mv F (fun _ _ _ _ _ _ us hl => match us, hl with | [_, _, _], _ => rfl) fun f fd F => fnX F sc_Reader_number (fun Γ r ⟨p, all, l, ds, o, e, _, ⟨lo, hi, e2, _⟩, _⟩ => by subst e; subst e2; rfl) ?_
  have nd := sc_Reader_number.nd
  rintro cdv A outer s H E _ _ hr ⟨p, all, l, ds, o, rfl, st, ⟨lo, hi, rfl, rfl⟩, rfl⟩
  obtain ⟨⟨q, k⟩, r, rfl⟩ := st.lt.cons
  cases k with
  | num n =>
    refine ss_cons (s_asg (js := [3, 4, 5]) (w_tok c rfl st rfl (g1_tup rfl (gs_cons (gn 3 nd (gs_cons (gn 4 nd (gs_cons (gn 5 nd (gs_nil ?_)))))))) ))
    refine ss_cons (s_if (t_cmp (wv 3 rfl (w_str ⟨_, o_neS, ⟨fun hT => absurd hT (by decide), fun hF => ?_⟩⟩))))
    refine ss_nil ?_
    refine ss_cons (s_if (t_bool (tw_or (t_cmp (wv 4 rfl (wv 1 rfl ⟨_, o_lt, ⟨fun hT => ⟨fun _ => ?_, fun hF => (Bool.false_ne_true hF.symm).elim⟩, fun hF => (tw_or1 (t_cmp (wv 4 rfl (wv 2 rfl ⟨_, o_gt, ⟨fun hT => ?_, fun hF => ?_⟩⟩))))⟩⟩))))))
    · refine ss_one (s_raise T (takes_of rfl rfl rfl rfl) (hr.mono (by decide)) rfl pass (d_cons (w_int (d_cons (wv 5 rfl (d_nil ⟨[7, (q : Nat)], rfl, rfl, by decide, ?_⟩))))))
      show xeR (outM RC FC p all _ (if (n : Int) < lo ∨ hi < (n : Int) then _ else _)) FC _
      rw [if_pos (.inl (of_decide_eq_true hT))]; rfl
    · refine ss_one (s_raise T (takes_of rfl rfl rfl rfl) (hr.mono (by decide)) rfl pass (d_cons (w_int (d_cons (wv 5 rfl (d_nil ⟨[7, (q : Nat)], rfl, rfl, by decide, ?_⟩))))))
      show xeR (outM RC FC p all _ (if (n : Int) < lo ∨ hi < (n : Int) then _ else _)) FC _
      rw [if_pos (.inr (of_decide_eq_true hT))]; rfl
    · rename_i hF0
      refine ss_nil (ss_cons (s_step c rfl st (ss_one (s_ret (wv 4 rfl (finM (l' := r) ?_ rfl))))))
      show (if (n : Int) < lo ∨ hi < (n : Int) then _ else _) = _
      rw [if_neg]
      rintro (z | z)
      · exact of_decide_eq_false hF0 z
      · exact of_decide_eq_false hF z
  | _ =>
    refine ss_cons (s_asg (js := [3, 4, 5]) (w_tok c rfl st rfl (g1_tup rfl (gs_cons (gn 3 nd (gs_cons (gn 4 nd (gs_cons (gn 5 nd (gs_nil ?_)))))))) ))
    refine ss_cons (s_if (t_cmp (wv 3 rfl (w_str ⟨_, o_neS, ⟨fun hT => ?_, fun hF => absurd hF (by decide)⟩⟩))))
    refine ss_one (s_raise T (takes_of rfl rfl rfl rfl) (hr.mono (by decide)) rfl pass (d_cons (w_int (d_cons (wv 5 rfl (d_nil ⟨[3, (q : Nat)], rfl, rfl, by decide, ?_⟩))))))
    rfl
end
end Fp

set_option Elab.async false
set_option linter.all false
set_option maxRecDepth 100000
set_option maxHeartbeats 2000000
namespace Fp
open PySem PySem.Spec PyProof.Rows L2 Dl
open VatmsBase (Bytes word PTok Toks Frac frac whole wrong here next nextWord taken takeWord takeSign takeName PName)
open Vatmsa (takeTime takeFrac takeValue placeNum takePoints)
abbrev VPoint := Vatmsa.Point
def natF (hi : Nat) (l : Toks) : Except VF (Nat × Toks) := match l with
  | ⟨q, .num n⟩ :: r => if hi < n then .error ⟨7, q⟩ else .ok (n, r)
  | r => wrong r
theorem numF_ok {lo hi : Int} {l : Toks} {y : D × Toks} (h : numF lo hi l = .ok y) : ∃ n : Nat, y.1 = Nd n := by
  unfold numF at h
  split at h
  · split at h
    · cases h
    · cases h; exact ⟨_, rfl⟩
  · cases h
theorem num_sgn (hi : Nat) (l : Toks) : (sgnF hi l).map (fun x => (D.int x.1, x.2)) = (if next (.sign 45) l = true then (numF 0 hi (l.drop 1)).map (fun x => (match x.1 with | .int i => D.int (-i) | d => d, x.2)) else numF 0 hi l) := by
  have key : ∀ m : Toks, (natF hi m).map (fun x => (Nd x.1, x.2)) = numF 0 hi m := by
    intro m
    unfold natF
    cases m with
    | nil => rfl
    | cons t r =>
      obtain ⟨q, k⟩ := t
      cases k with
      | num n =>
        unfold numF
        simp only
        by_cases h : hi < n
        · rw [if_pos h, if_pos (.inr (by omega))]; rfl
        · rw [if_neg h, if_neg (by omega)]; rfl
      | _ => rfl
  cases hn : next (.sign 45) l with
  | true =>
    rw [if_pos rfl, ← key]
    unfold sgnF natF
    rw [hn]
    simp only [if_true]
    generalize l.drop 1 = m
    cases m with
    | nil => rfl
    | cons t r =>
      obtain ⟨q, k⟩ := t
      cases k with
      | num n =>
        simp only
        split <;> rfl
      | _ => rfl
  | false =>
    rw [if_neg Bool.false_ne_true, ← key]
    unfold sgnF natF
    rw [hn]
    simp only [if_false, Bool.false_eq_true]
    cases l with
    | nil => rfl
    | cons t r =>
      obtain ⟨q, k⟩ := t
      cases k with
      | num n =>
        simp only
        split <;> rfl
      | _ => rfl
def qSigned : List D → Toks → Except VF (D × Toks) → Prop := fun ds l o => ∃ hi : Nat, ds = [Nd hi] ∧ o = (sgnF hi l).map fun x => (.int x.1, x.2)
def qValue : List D → Toks → Except VF (D × Toks) → Prop := fun ds l o => ds = [] ∧ o = (takeFrac l).map fun x => (Fd x.1, x.2)
theorem lit_minus : Str.ofString "-" = strB [45] := rfl
theorem lit_slash : Str.ofString "/" = strB [47] := rfl
theorem lit_colon : Str.ofString ":" = strB [58] := rfl
theorem lit_semi : Str.ofString ";" = strB [59] := rfl
theorem lit_comma : Str.ofString "," = strB [44] := rfl
theorem lit_open : Str.ofString "(" = strB [40] := rfl
theorem lit_close : Str.ofString ")" = strB [41] := rfl
theorem lit_lb : Str.ofString "{" = strB [123] := rfl
theorem lit_rb : Str.ofString "}" = strB [125] := rfl
theorem lit_eq : Str.ofString "=" = strB [61] := rfl
theorem lit_none : Str.ofString "none" = strB (word "none") := by decide +kernel
theorem lit_series : Str.ofString "series" = strB (word "series") := by decide +kernel
theorem lit_let : Str.ofString "let" = strB (word "let") := by decide +kernel
/-- wants a sign -/
theorem wants_sign {c : UInt8} {l : Toks} (lt : LT l) (hc : alnum c = false) : (if stB (strB [c]) l = true then (.ok (D.non, l.drop 1) : Except VF (D × Toks)) else wrong l) = (takeSign c.toNat l).map fun m => (.non, m) := by
  rw [stB_sign lt hc]
  unfold takeSign taken
  split <;> rfl
section
variable {P : Program} {w : World} {K : PySem.W.Frag} {mg : Str → Option Value} {base : Heap} {RC FC : Addr}
/-! ### signed -/
abbrev s_Reader_signed : Stmt := inClass (top 57) 8
abbrev n_Reader_signed : List Str := ["self", "most"]
theorem sc_Reader_signed : FnScope n_Reader_signed ["self", "most"] (defScope s_Reader_signed) := ⟨rfl, rfl, rfl, by decide +kernel, rfl, by decide +kernel, by decide +kernel⟩
abbrev RTakes (P : Program) (w : World) (K : PySem.W.Frag) (mg : Str → Option Value) (base : Heap) (RC FC : Addr) : Prop := RN P w K mg base RC FC 2 "takes" ["self", "what"] qTakes
abbrev RNumber (P : Program) (w : World) (K : PySem.W.Frag) (mg : Str → Option Value) (base : Heap) (RC FC : Addr) : Prop := RX P w K mg base RC FC 3 "number" ["self", "least", "most"] qNumber
abbrev RWants (P : Program) (w : World) (K : PySem.W.Frag) (mg : Str → Option Value) (base : Heap) (RC FC : Addr) : Prop := RX P w K mg base RC FC 3 "wants" ["self", "what"] qWants
abbrev RSigned (P : Program) (w : World) (K : PySem.W.Frag) (mg : Str → Option Value) (base : Heap) (RC FC : Addr) : Prop := RX P w K mg base RC FC 4 "signed" ["self", "most"] qSigned
abbrev RValue (P : Program) (w : World) (K : PySem.W.Frag) (mg : Str → Option Value) (base : Heap) (RC FC : Addr) : Prop := RX P w K mg base RC FC 5 "value" ["self"] qValue
abbrev RName (P : Program) (w : World) (K : PySem.W.Frag) (mg : Str → Option Value) (base : Heap) (RC FC : Addr) : Prop := RX P w K mg base RC FC 3 "name" ["self"] qName
abbrev RNext (P : Program) (w : World) (K : PySem.W.Frag) (mg : Str → Option Value) (base : Heap) (RC FC : Addr) : Prop := RN P w K mg base RC FC 1 "next_place" ["self"] qNext
theorem pcX {K : PySem.W.Frag} {mg : Str → Option Value} {base : Heap} {N : List Str} {qual : Str} {sc : Scope} {f : Addr} {cdv : Value} {A : Around} {outer : List Env} {s : Shared} {H : Hp} {E : XK} : Passes (L2.CX P w) (cxOf (L2.CX P w) P w K mg base N qual sc f cdv A outer s H E) E := passes_call (takes_of rfl rfl rfl rfl) fun _ _ _ _ h => h
theorem f_Reader_signed (F : Ma K RC "signed" "Reader.signed" s_Reader_signed) (c : RdC K RC) (hta : RTakes P w K mg base RC FC) (hnu : RNumber P w K mg base RC FC) : RSigned P w K mg base RC FC := by
  refine ma_mv F (fun _ _ _ _ _ _ us hl => match us, hl with | [_, _], _ => rfl) fun f fd F => fnX F sc_Reader_signed (fun Γ r ⟨p, all, l, ds, o, e, _, ⟨hi, e2, _⟩, _⟩ => by subst e; subst e2; rfl) ?_
  have nd := sc_Reader_signed.nd
  rintro cdv A outer s H E _ _ hr ⟨p, all, l, ds, o, rfl, st, ⟨hi, rfl, rfl⟩, rfl⟩
  have sb : stB (Str.ofString "-") l = next (.sign 45) l := stB_sign (c := 45) st.lt (by decide)
  have st2 := (adv_next (t := .sign 45) (by intro z; cases z) st).1
  refine ss_cons (s_if (t_val (w_rd hta c.c (hr.mono (by decide)) pass rfl (by decide) (d_cons (w_str (d_nil ⟨l, rfl, st, _, ⟨_, rfl, rfl⟩, _, rfl, ⟨fun hT => ?_, fun hF => ?_⟩⟩))))))
  · rw [sb] at hT
    rw [sb, hT, num_sgn, hT, if_pos rfl]
    rw [hT] at st2
    refine ss_one (s_ret (w_neg (w_rd hnu c.c (hr.mono (by decide)) pcX rfl (by decide) (d_cons (w_int (d_cons (wv 1 rfl (d_nil ⟨l.drop 1, rfl, st2, numF 0 hi (l.drop 1), ⟨0, hi, rfl, rfl⟩, ?_⟩))))))))
    cases e : numF 0 hi (l.drop 1) with
    | ok y =>
      obtain ⟨n, hn⟩ := numF_ok e
      obtain ⟨y1, y2⟩ := y
      have hn : y1 = Nd n := hn
      subst hn
      exact ⟨_, rfl, finM (l' := y2) rfl rfl⟩
    | error f => rfl
  · rw [sb] at hF
    rw [sb, hF, num_sgn, hF, if_neg Bool.false_ne_true]
    refine ss_nil (ss_one (s_ret (w_rd hnu c.c (hr.mono (by decide)) pcX rfl (by decide) (d_cons (w_int (d_cons (wv 1 rfl (d_nil ⟨l, rfl, st, numF 0 hi l, ⟨0, hi, rfl, rfl⟩, ?_⟩))))))))
    cases numF 0 hi l with
    | ok y => exact finM (l' := y.2) rfl rfl
    | error f => rfl
/-! ### value -/
abbrev s_Reader_value : Stmt := inClass (top 57) 9
abbrev n_Reader_value : List Str := ["self", "numerator"]
theorem sc_Reader_value : FnScope n_Reader_value ["self"] (defScope s_Reader_value) := ⟨rfl, rfl, rfl, by decide +kernel, rfl, by decide +kernel, by decide +kernel⟩
theorem small_pow {n : Nat} (h : n ≤ 1000) : n < 2 ^ 9000 := Nat.lt_of_lt_of_le (show n < 2 ^ 10 by omega) (Nat.pow_le_pow_right (by decide) (by decide))
theorem f_Reader_value (F : Ma K RC "value" "Reader.value" s_Reader_value) (c : RdC K RC) (hta : RTakes P w K mg base RC FC) (hnu : RNumber P w K mg base RC FC) (hsi : RSigned P w K mg base RC FC) (hfraction : FvFraction P w K mg base) (gV : Glo K mg "MOST_VALUE" (.int 1000000)) (gU : Glo K mg "MOST_UNDER" (.int 1000)) : RValue P w K mg base RC FC := by
  refine ma_mv F (fun _ _ _ _ _ _ us hl => match us, hl with | [_], _ => rfl) fun f fd F => fnX F sc_Reader_value (fun Γ r ⟨p, all, l, ds, o, e, _, ⟨e2, _⟩, _⟩ => by subst e; subst e2; rfl) ?_
  have nd := sc_Reader_value.nd
  rintro cdv A outer s H E _ _ hr ⟨p, all, l, ds, o, rfl, st, ⟨rfl, rfl⟩, rfl⟩
  rw [frac_sgn]
  refine ss_cons (ss 1 nd (w_rd hsi c.c (hr.mono (by decide)) pcX rfl (by decide) (d_cons (w_glob gV rfl (d_nil ⟨l, rfl, st, _, ⟨1000000, rfl, rfl⟩, ?_⟩)))))
  cases e : sgnF 1000000 l with
  | error f => rfl
  | ok y =>
    obtain ⟨i, l2⟩ := y
    have st2 := (adv_sgn 1000000 all l i l2 st e).1
    have sb : stB (Str.ofString "/") l2 = next (.sign 47) l2 := stB_sign (c := 47) st2.lt (by decide)
    have eb : ((Except.ok (i, l2) : Except VF (Int × Toks)).bind fun x => overF x.1 x.2) = overF i l2 := rfl
    rw [eb]
    unfold overF
    refine ss_cons (s_if (t_val (w_rd hta c.c (hr.mono (by decide)) pass rfl (by decide) (d_cons (w_str (d_nil ⟨l2, rfl, st2, _, ⟨_, rfl, rfl⟩, _, rfl, ⟨fun hT => ?_, fun hF => ?_⟩⟩))))))
    · rw [sb] at hT
      rw [sb, hT]
      rw [if_pos rfl]
      have st3 := (adv_next (t := .sign 47) (by intro z; cases z) st2).1
      rw [hT] at st3
      refine ss_one (s_ret (w_callP hfraction (hr.mono (by decide)) rfl pass (d_cons (wv 1 rfl (d_cons (w_rd hnu c.c (hr.mono (by decide)) pcX rfl (by decide) (d_cons (w_int (d_cons (w_glob gU rfl (d_nil ⟨l2.drop 1, rfl, st3, numF 1 1000 (l2.drop 1), ⟨1, 1000, rfl, rfl⟩, ?_⟩)))))))))))
      generalize l2.drop 1 = m at st3 ⊢
      obtain ⟨⟨q, k⟩, r, rfl⟩ := st3.lt.cons
      cases k with
      | num d =>
        by_cases h : d = 0 ∨ 1000 < d
        · have e1 : numF 1 1000 (⟨q, .num d⟩ :: r) = .error ⟨7, q⟩ := if_pos (by omega)
          have e2 : divF i (⟨q, .num d⟩ :: r) = .error ⟨7, q⟩ := if_pos h
          rw [e1, e2]
          rfl
        · have e1 : numF 1 1000 (⟨q, .num d⟩ :: r) = .ok (Nd d, r) := if_neg (by omega)
          have e2 : divF i (⟨q, .num d⟩ :: r) = .ok (frac i d, r) := if_neg h
          rw [e1, e2]
          exact d_nil ⟨_, ⟨i, d, rfl, by omega, small_pow (by omega), rfl⟩, finM (l' := r) rfl rfl⟩
      | _ => rfl
    · rw [sb] at hF
      rw [sb, hF]
      refine ss_nil (ss_one (s_ret (w_callP hfraction (hr.mono (by decide)) rfl pass (d_cons (wv 1 rfl (d_cons (w_int (d_nil ⟨_, ⟨i, 1, rfl, Nat.one_pos, Nat.one_lt_two_pow (by decide), rfl⟩, finM (l' := l2) ?_ rfl⟩))))))))
      rw [frac_one]
      rw [if_neg Bool.false_ne_true]; rfl
/-! ### point -/
abbrev s_Reader_point : Stmt := inClass (top 57) 10
abbrev n_Reader_point : List Str := ["self", "points", "time", "value"]
theorem sc_Reader_point : FnScope n_Reader_point ["self", "points"] (defScope s_Reader_point) := ⟨rfl, rfl, rfl, by decide +kernel, rfl, by decide +kernel, by decide +kernel⟩
def ptD (q : VPoint) : D := .tup [.int q.t, optFd q.v]
abbrev rowD (r : List VPoint) : D := .lst (r.map ptD)
def pointF (row : List VPoint) (l : Toks) : Except VF (VPoint × Toks) := (takeTime l).bind fun t => if (row.any fun q => decide (t.1 ≤ q.t)) = true then .error ⟨7, placeNum l⟩ else (takeSign 58 t.2).bind fun m => (takeValue m).bind fun v => (takeSign 59 v.2).map fun r => (⟨t.1, v.1⟩, r)
def RPoint (RC FC : Addr) : En → Res → Prop := fun Γ r => ∃ p q all l row o, Γ = [.own p (rdr RC all l), .own q (.lst (row.map ptD))] ∧ St all l ∧ row.length ≤ 16 ∧ row.Pairwise (fun a b => a.t < b.t) ∧ o = pointF row l ∧ r = match o with
  | .ok y => .ok (ptD y.1) [.own p (rdr RC all y.2), .own q (.lst (row.map ptD))]
  | .error f => .ex FC (faultF f.code f.place)
theorem pqOpt (v : Option Frac) : ∃ d, Pq 1 (optFd v) d := by
  cases v with
  | none => exact ⟨_, .non 1⟩
  | some f => exact ⟨_, pqF f⟩
theorem pqPt (q : VPoint) : ∃ d, Pq 2 (ptD q) d := by
  obtain ⟨d, h⟩ := pqOpt q.v
  exact ⟨_, .tup (.cons (.int 1 q.t) (.cons h .nil))⟩
theorem pqRow (r : List VPoint) : ∃ ds, PqA 2 (r.map ptD) ds := by
  induction r with
  | nil => exact ⟨_, .nil⟩
  | cons q r ih =>
    obtain ⟨d, h⟩ := pqPt q
    obtain ⟨ds, h2⟩ := ih
    exact ⟨_, .cons h h2⟩
theorem any_last {row : List VPoint} (h : row.Pairwise (fun a b => a.t < b.t)) (t : Int) : (row.any fun q => decide (t ≤ q.t)) = match row.getLast? with
    | some q => decide (t ≤ q.t)
    | none => false := by
  cases e : row.getLast? with
  | none => rw [List.getLast?_eq_none_iff.mp e]; rfl
  | some q =>
    obtain ⟨r, rfl⟩ := List.getLast?_eq_some_iff.mp e
    rw [List.any_append]
    show (_ || (decide (t ≤ q.t) || false)) = decide (t ≤ q.t)
    rw [Bool.or_false]
    cases z : decide (t ≤ q.t) with
    | true => simp
    | false =>
      rw [Bool.or_false, List.any_eq_false]
      intro a ha
      rw [List.pairwise_append] at h
      have := h.2.2 a ha q (List.mem_singleton.mpr rfl)
      have := of_decide_eq_false z
      simp; omega
/-- where the number just read stood -/
theorem sgn_place {hi : Nat} {all l l2 : Toks} {t : Int} (st : St all l) (h : sgnF hi l = .ok (t, l2)) : ∃ u, atI (all.map tokD) (((all.length - l2.length : Nat) : Int) - 1) = some (tokD u) ∧ u.place = placeNum l ∧ ∃ n, u.tok = .num n := by
  have h1 := adv_next (t := .sign 45) (by intro z; cases z) st
  unfold sgnF at h
  show ∃ u : PTok, _ ∧ u.place = here (if next (.sign 45) l = true then l.drop 1 else l) ∧ _
  generalize (if next (.sign 45) l = true then l.drop 1 else l) = m at h h1 ⊢
  obtain ⟨⟨q, k⟩, r, rfl⟩ := h1.1.lt.cons
  cases k with
  | num n =>
    simp only at h
    split at h
    · cases h
    · have e2 : r = l2 := (Prod.mk.inj (Except.ok.inj h)).2
      subst e2
      have g := h1.1.get rfl
      have le := h1.1.le
      rw [List.length_cons] at g le
      refine ⟨⟨q, .num n⟩, ?_, rfl, n, rfl⟩
      rw [show (((all.length - r.length : Nat) : Int) - 1) = ((all.length - (r.length + 1) : Nat) : Int) by omega]
      exact atI_nat (by rw [List.getElem?_map, g]; rfl)
  | _ => cases h
theorem f_Reader_point (F : Ma K RC "point" "Reader.point" s_Reader_point) (c : RdC K RC) (T : FaultK P w K mg base FC) (hta : RTakes P w K mg base RC FC) (hwa : RWants P w K mg base RC FC) (hsi : RSigned P w K mg base RC FC) (hva : RValue P w K mg base RC FC) (gT : Glo K mg "MOST_TIME" (.int 100000)) : Mv P w K mg base (L2.CX P w) 6 RC "point" ["self", "points"] (RPoint RC FC) := by
  refine ma_mv F (fun _ _ _ _ _ _ us hl => match us, hl with | [_, _], _ => rfl) fun f fd F => fnX F sc_Reader_point (fun Γ r ⟨p, q, all, l, row, o, e, _⟩ => by subst e; rfl) ?_
  have nd := sc_Reader_point.nd
  rintro cdv A outer s H E _ _ hr ⟨p, q, all, l, row, o, rfl, st, hlen, hup, ho, rfl⟩
  obtain ⟨pd, hpd⟩ := pqRow row
  unfold pointF at ho
  rw [time_sgn] at ho
  refine ss_cons (ss 2 nd (w_rd hsi c.c (hr.mono (by decide)) pcX rfl (by decide) (d_cons (w_glob gT rfl (d_nil ⟨l, rfl, st, _, ⟨100000, rfl, rfl⟩, ?_⟩)))))
  cases e : sgnF 100000 l with
  | error f => rw [e] at ho; subst ho; rfl
  | ok y =>
    rw [e] at ho
    obtain ⟨t, l2⟩ := y
    obtain ⟨u, hu1, hu2, n, hu3⟩ := sgn_place st e
    have st2 := (adv_sgn 100000 all l t l2 st e).1
    have al := any_last hup t
    have ho : o = if (row.any fun q => decide (t ≤ q.t)) = true then .error ⟨7, placeNum l⟩ else (takeSign 58 l2).bind fun m => (takeValue m).bind fun v => (takeSign 59 v.2).map fun r => (⟨t, v.1⟩, r) := ho
    refine ss_cons (s_if (WpT.mono (R := fun b Γ' => b = (row.any fun q => decide (t ≤ q.t)) ∧ Γ' = [.own p (rdr RC all l2), .own q (.lst (row.map ptD)), .im (.int t), .un]) (t_see 1 rfl (t_bool (tw_and (t_cmp (wv 1 rfl (w_new (w_lst (d_nil ⟨len_le, ⟨_, (o_neNil hr.units hpd (by decide)), ⟨fun hF => ⟨?_, rfl⟩, fun hT => (tw_and1 (t_cmp (wv 2 rfl (w_ix (w_ix (wv 1 rfl (w_neg (w_int ⟨_, rfl, ⟨ptD (row.getLast?.getD ⟨0, none⟩), ix2_lst (atL ?_), (w_int ⟨_, (ix2_tup rfl), ⟨_, o_le, ⟨?_, rfl⟩⟩⟩)⟩⟩))))))))⟩⟩⟩)))))))) ?_))
    · have e0 : row = [] := by simpa using hF
      rw [e0]; rfl
    · have e0 : row ≠ [] := by simpa using hT
      rw [List.getLast?_map, List.getLast?_eq_getLast e0]; rfl
    · have e0 : row ≠ [] := by simpa using hT
      rw [al, List.getLast?_eq_getLast e0]
      rfl
    rintro b Γ' ⟨rfl, rfl⟩
    refine ⟨fun hT => ?_, fun hF => ss_nil ?_⟩
    · have ui : ∃ ds, tokD u = .tup ds ∧ atI ds 2 = some (Nd (placeNum l)) := by
        obtain ⟨uq, uk⟩ := u
        cases hu3
        cases hu2
        exact ⟨_, rfl, rfl⟩
      obtain ⟨ud, ud1, ud2⟩ := ui
      rw [ud1] at hu1
      rw [if_pos hT] at ho
      subst ho
      refine ss_one (s_raise T (takes_of rfl rfl rfl rfl) (hr.mono (by decide)) rfl pass (d_cons (w_int (d_cons (w_ix (w_ix (wf 0 rfl c.c c.nt rfl (w_bin (wf 0 rfl c.c c.na rfl (w_int ⟨_, o_subI, ⟨_, ix2_lst hu1, (w_int ⟨_, (ix2_tup ud2), (d_nil ⟨[7, (placeNum l : Nat)], rfl, rfl, by decide, rfl⟩)⟩)⟩⟩))))))))))
    rw [hF, if_neg Bool.false_ne_true] at ho
    have wc := wants_sign (c := 58) st2.lt (by decide)
    refine ss_cons (s_expr (w_rd hwa c.c (hr.mono (by decide)) pcX rfl (by decide) (d_cons (w_str (d_nil ⟨l2, rfl, st2, _, ⟨strB [58], rfl, rfl⟩, ?_⟩)))))
    rw [wc]
    cases e2 : takeSign 58 l2 with
    | error f => rw [show (58 : UInt8).toNat = 58 from rfl, e2]; rw [e2] at ho; subst ho; rfl
    | ok l3 =>
    rw [show (58 : UInt8).toNat = 58 from rfl, e2]
    rw [e2] at ho
    have ho : o = (takeValue l3).bind fun v => (takeSign 59 v.2).map fun r => (⟨t, v.1⟩, r) := ho
    have st3 := (adv_taken (t := .sign 58) (by intro z; cases z) all l2 l3 st2 e2).1
    have sn : stB (Str.ofString "none") l3 = nextWord "none" l3 := by rw [lit_none]; exact stB_word (.inr st3.lt) (by decide)
    refine ss_cons (ss 3 nd (w_none ?_))
    have behind : ∀ (v : Option Frac) (l4 : Toks), takeValue l3 = .ok (v, l4) → WpSs (cxOf (L2.CX P w) P w K mg base n_Reader_point "Reader.point" (defScope s_Reader_point) f cdv A outer s H E) E (xeR (match o with
        | .ok y => Res.ok (ptD y.1) [.own p (rdr RC all y.2), .own q (.lst (row.map ptD))]
        | .error f => Res.ex FC (faultF f.code f.place))) ((defBody s_Reader_point).drop 5) [.own p (rdr RC all l4), .own q (.lst (row.map ptD)), .im (.int t), .im (optFd v)] (retR [.own p (rdr RC all l), .own q (.lst (row.map ptD))] (match o with
        | .ok y => Res.ok (ptD y.1) [.own p (rdr RC all y.2), .own q (.lst (row.map ptD))]
        | .error f => Res.ex FC (faultF f.code f.place))) := fun v l4 ev => by
      have st4 := (adv_value all l3 v l4 st3 ev).1
      rw [ev] at ho
      have ho : o = (takeSign 59 l4).map fun r => (⟨t, v⟩, r) := ho
      have wc := wants_sign (c := 59) st4.lt (by decide)
      refine ss_cons (s_expr (w_rd hwa c.c (hr.mono (by decide)) pcX rfl (by decide) (d_cons (w_str (d_nil ⟨l4, rfl, st4, _, ⟨strB [59], rfl, rfl⟩, ?_⟩)))))
      rw [wc]
      cases e3 : takeSign 59 l4 with
      | error f => rw [show (59 : UInt8).toNat = 59 from rfl, e3]; rw [e3] at ho; subst ho; rfl
      | ok l5 =>
      rw [show (59 : UInt8).toNat = 59 from rfl, e3]
      rw [e3] at ho
      subst ho
      refine ss_one (s_ret (w_tup (d_cons (wv 2 rfl (d_cons (wv 3 rfl (d_nil ⟨len_le, ?_⟩)))))))
      refine ⟨_, rfl, rfl, fun k s hk => ?_⟩
      cases k with
      | zero => cases hk; exact .inr (.inr ⟨p, _, _, rfl, rfl, rfl⟩)
      | succ k =>
        cases k with
        | zero => cases hk; exact .inr (.inr ⟨q, _, _, rfl, rfl, rfl⟩)
        | succ k => cases hk
    refine ss_cons (s_if (t_not (t_val (w_rd hta c.c (hr.mono (by decide)) pass rfl (by decide) (d_cons (w_str (d_nil ⟨l3, rfl, st3, _, ⟨_, rfl, rfl⟩, _, rfl, ⟨fun hT => ?_, fun hF => ?_⟩⟩)))))))
    · rw [sn] at hT
      have hn : nextWord "none" l3 = false := by simpa using hT
      rw [sn, hn]
      refine ss_one (ss 3 nd (w_rd0 hva c.c (hr.mono (by decide)) pcX rfl (by decide) st3 ⟨(takeFrac l3).map fun x => (Fd x.1, x.2), ⟨rfl, rfl⟩, ?_⟩))
      have tv : takeValue l3 = (takeFrac l3).map fun x => (some x.1, x.2) := if_neg (by rw [hn]; decide)
      cases e3 : takeFrac l3 with
      | error f => rw [tv, e3] at ho; subst ho; rfl
      | ok y =>
        exact behind (some y.1) y.2 (by rw [tv, e3]; rfl)
    · rw [sn] at hF
      have hn : nextWord "none" l3 = true := by simpa using hF
      rw [sn, hn]
      exact ss_nil (behind none (l3.drop 1) (if_pos hn))
end
end Fp

set_option Elab.async false
set_option linter.all false
set_option maxRecDepth 100000
set_option maxHeartbeats 2000000
/-! Expressions read. -/
namespace Fp
open PySem PySem.Spec PyProof.Rows L2 Dl
open VatmsBase (Bytes word PTok Toks Frac frac whole wrong here next nextWord taken takeWord takeSign takeName PName RESERVED)
open Vatmsa (takeTime takeFrac takeValue takeExpr takeTwo takeWith takeOne takeFill takeOver takeStep takeLength fillWord overWord pairWord)
def exprD : VExpr → D
  | .name x => .tup [.str "name", .str (strB x.name), Nd x.place]
  | .shift a t => .tup [.str (strB (word "shift")), exprD a, .int t]
  | .scale a v => .tup [.str (strB (word "scale")), exprD a, Fd v]
  | .pair o a b => .tup [.str (strB (pairWord o)), exprD a, exprD b]
  | .asof a b => .tup [.str (strB (word "asof")), exprD a, exprD b]
  | .merge a b => .tup [.str (strB (word "merge")), exprD a, exprD b]
  | .fill a r => .tup [.str (strB (word "fill")), exprD a, .str (strB (fillWord r))]
  | .window a k r => .tup [.str (strB (word "window")), exprD a, Nd k, .str (strB (overWord r))]
  | .diff a => .tup [.str (strB (word "diff")), exprD a]
  | .run a => .tup [.str (strB (word "run")), exprD a]
  | .over a v => .tup [.str (strB (word "over")), exprD a, Fd v]
def twoW : List Bytes := ["add", "sub", "least", "most", "asof", "merge"].map word
def oneW : List Bytes := ["shift", "scale", "over", "fill", "window", "diff", "run"].map word
def fillsW : List Bytes := ["last", "next", "line", "zero"].map word
def windowsW : List Bytes := ["sum", "mean", "least", "most", "first", "last", "count"].map word
/-- one of some words -/
def wordB (ws : List Bytes) (l : Toks) : Except VF (Bytes × Toks) := match l with
  | ⟨_, .name b⟩ :: r => if ws.contains b = true then .ok (b, r) else wrong l
  | _ => wrong l
theorem wordB_eq (ws : List Bytes) (l : Toks) : wordF (ws.map strB) l = (wordB ws l).map fun x => (.str (strB x.1), x.2) := by
  unfold wordF wordB
  cases l with
  | nil => rfl
  | cons t r =>
    obtain ⟨q, k⟩ := t
    cases k with
    | name b =>
      simp only
      have := mem_strB (b := b) (l := ws)
      by_cases h : ws.contains b = true
      · rw [h] at this
        rw [if_pos h, if_pos (of_decide_eq_true this)]; rfl
      · rw [Bool.eq_false_iff.mpr h] at this
        rw [if_neg h, if_neg (of_decide_eq_false this)]; rfl
    | _ => rfl
def restF (part : Toks → Except VF (D × Toks)) (w : Bytes) (l : Toks) : Except VF (List D × Toks) :=
  if w = word "diff" ∨ w = word "run" then .ok ([], l) else (takeSign 44 l).bind fun m =>
    if twoW.contains w = true then (part m).map fun x => ([x.1], x.2)
    else if w = word "shift" then (takeTime m).map fun x => ([.int x.1], x.2)
    else if w = word "fill" then (wordB fillsW m).map fun x => ([.str (strB x.1)], x.2)
    else if w = word "window" then (numF 1 100000 m).bind fun n => (takeSign 44 n.2).bind fun m2 => (wordB windowsW m2).map fun x => ([n.1, .str (strB x.1)], x.2)
    else (takeFrac m).map fun x => ([Fd x.1], x.2)
def exprF : Nat → Toks → Except VF (D × Toks)
  | 0, l => .error ⟨4, here l⟩
  | k + 1, l => match l with
    | ⟨q, .name b⟩ :: r => if RESERVED.contains b = false then .ok (.tup [.str "name", .str (strB b), Nd q], r)
      else if (twoW ++ oneW).contains b = true then (takeSign 40 r).bind fun m => (exprF k m).bind fun a => (restF (exprF k) b a.2).bind fun t => (takeSign 41 t.2).map fun m => (.tup ([.str (strB b), a.1] ++ t.1), m)
      else wrong l
    | _ => wrong l
theorem exprF_name (k q : Nat) (b : Bytes) (r : Toks) : exprF (k + 1) (⟨q, .name b⟩ :: r) = if RESERVED.contains b = false then .ok (.tup [.str "name", .str (strB b), Nd q], r)
      else if (twoW ++ oneW).contains b = true then (takeSign 40 r).bind fun m => (exprF k m).bind fun a => (restF (exprF k) b a.2).bind fun t => (takeSign 41 t.2).map fun m => (.tup ([.str (strB b), a.1] ++ t.1), m)
      else wrong (⟨q, .name b⟩ :: r) := rfl
theorem takeExpr_name (n q : Nat) (b : Bytes) (r : Toks) : takeExpr (n + 1) (⟨q, .name b⟩ :: r) =
    if (b == word "shift") = true then (takeWith (takeExpr n) takeTime r).map fun a => (.shift a.1 a.2.1, a.2.2)
    else if (b == word "scale") = true then (takeWith (takeExpr n) takeFrac r).map fun a => (.scale a.1 a.2.1, a.2.2)
    else if (b == word "add") = true then (takeTwo (takeExpr n) r).map fun a => (.pair .add a.1 a.2.1, a.2.2)
    else if (b == word "sub") = true then (takeTwo (takeExpr n) r).map fun a => (.pair .sub a.1 a.2.1, a.2.2)
    else if (b == word "least") = true then (takeTwo (takeExpr n) r).map fun a => (.pair .least a.1 a.2.1, a.2.2)
    else if (b == word "most") = true then (takeTwo (takeExpr n) r).map fun a => (.pair .most a.1 a.2.1, a.2.2)
    else if (b == word "asof") = true then (takeTwo (takeExpr n) r).map fun a => (.asof a.1 a.2.1, a.2.2)
    else if (b == word "merge") = true then (takeTwo (takeExpr n) r).map fun a => (.merge a.1 a.2.1, a.2.2)
    else if (b == word "fill") = true then (takeWith (takeExpr n) takeFill r).map fun a => (.fill a.1 a.2.1, a.2.2)
    else if (b == word "window") = true then (takeWith (takeExpr n) takeLength r).map fun a => (.window a.1 a.2.1.1 a.2.1.2, a.2.2)
    else if (b == word "diff") = true then (takeOne (takeExpr n) r).map fun a => (.diff a.1, a.2)
    else if (b == word "run") = true then (takeOne (takeExpr n) r).map fun a => (.run a.1, a.2)
    else if (b == word "over") = true then (takeWith (takeExpr n) takeFrac r).map fun a => (.over a.1 a.2.1, a.2.2)
    else (takeName (⟨q, .name b⟩ :: r)).map fun x => (.name x.1, x.2) := rfl
section
variable {n : Nat} {r : Toks}
abbrev tailF (w : Bytes) (n : Nat) (r : Toks) : Except VF (D × Toks) := (takeSign 40 r).bind fun m => (exprF n m).bind fun a => (restF (exprF n) w a.2).bind fun t => (takeSign 41 t.2).map fun m => (.tup ([.str (strB w), a.1] ++ t.1), m)
abbrev enE : VExpr × Toks → D × Toks := fun x => (exprD x.1, x.2)
theorem two_eq {w : Bytes} {f : VExpr → VExpr → VExpr} (ih : ∀ l, exprF n l = (takeExpr n l).map enE) (h1 : ¬ (w = word "diff" ∨ w = word "run")) (h2 : twoW.contains w = true) (h3 : True) (hf : ∀ a b, exprD (f a b) = .tup [.str (strB w), exprD a, exprD b]) :
    tailF w n r = ((takeTwo (takeExpr n) r).map fun a => (f a.1 a.2.1, a.2.2)).map enE := by
  unfold tailF takeTwo
  cases takeSign 40 r with
  | error e => rfl
  | ok m =>
    show (exprF n m).bind _ = _
    rw [ih]
    show _ = (((takeExpr n m).bind _).map _).map _
    cases takeExpr n m with
    | error e => rfl
    | ok a =>
      show (restF (exprF n) w a.2).bind _ = _
      unfold restF
      rw [if_neg h1]
      show _ = (((takeSign 44 a.2).bind _).map _).map _
      cases takeSign 44 a.2 with
      | error e => rfl
      | ok m2 =>
        show (if twoW.contains w = true then _ else _ : Except VF (List D × Toks)).bind _ = _
        rw [if_pos h2, ih]
        show _ = (((takeExpr n m2).bind _).map _).map _
        cases takeExpr n m2 with
        | error e => rfl
        | ok b =>
          show (takeSign 41 b.2).map _ = (((takeSign 41 b.2).map _).map _).map _
          cases takeSign 41 b.2 with
          | error e => rfl
          | ok m3 =>
            show Except.ok (_, _) = Except.ok (exprD (f a.1 b.1), m3)
            rw [hf]; rfl
theorem with_eq {w : Bytes} {A : Type} {f : VExpr → A → VExpr} {g : Toks → Except VF (A × Toks)} {en : A → List D} (ih : ∀ l, exprF n l = (takeExpr n l).map enE) (h1 : ¬ (w = word "diff" ∨ w = word "run"))
    (hg : ∀ l, restF (exprF n) w l = (takeSign 44 l).bind fun m => (g m).map fun x => (en x.1, x.2)) (hf : ∀ a b, exprD (f a b) = .tup ([.str (strB w), exprD a] ++ en b)) :
    tailF w n r = ((takeWith (takeExpr n) g r).map fun a => (f a.1 a.2.1, a.2.2)).map enE := by
  unfold tailF takeWith
  cases takeSign 40 r with
  | error e => rfl
  | ok m =>
    show (exprF n m).bind _ = _
    rw [ih]
    show _ = (((takeExpr n m).bind _).map _).map _
    cases takeExpr n m with
    | error e => rfl
    | ok a =>
      show (restF (exprF n) w a.2).bind _ = _
      rw [hg]
      show _ = (((takeSign 44 a.2).bind _).map _).map _
      cases takeSign 44 a.2 with
      | error e => rfl
      | ok m2 =>
        show ((g m2).map _).bind _ = (((g m2).bind _).map _).map _
        cases g m2 with
        | error e => rfl
        | ok b =>
          show (takeSign 41 b.2).map _ = (((takeSign 41 b.2).map _).map _).map _
          cases takeSign 41 b.2 with
          | error e => rfl
          | ok m3 =>
            show Except.ok (_, _) = Except.ok (exprD (f a.1 b.1), m3)
            rw [hf]
theorem one_eq {w : Bytes} {f : VExpr → VExpr} (ih : ∀ l, exprF n l = (takeExpr n l).map enE) (h1 : w = word "diff" ∨ w = word "run") (hf : ∀ a, exprD (f a) = .tup [.str (strB w), exprD a]) :
    tailF w n r = ((takeOne (takeExpr n) r).map fun a => (f a.1, a.2)).map enE := by
  unfold tailF takeOne
  cases takeSign 40 r with
  | error e => rfl
  | ok m =>
    show (exprF n m).bind _ = _
    rw [ih]
    show _ = (((takeExpr n m).bind _).map _).map _
    cases takeExpr n m with
    | error e => rfl
    | ok a =>
      show (restF (exprF n) w a.2).bind _ = _
      unfold restF
      rw [if_pos h1]
      show (takeSign 41 a.2).map _ = (((takeSign 41 a.2).map _).map _).map _
      cases takeSign 41 a.2 with
      | error e => rfl
      | ok m3 =>
        show Except.ok (_, _) = Except.ok (exprD (f a.1), m3)
        rw [hf]; rfl
theorem rest_with {part : Toks → Except VF (D × Toks)} {w : Bytes} (h1 : ¬ (w = word "diff" ∨ w = word "run")) (h2 : twoW.contains w = false) (l : Toks) : restF part w l = (takeSign 44 l).bind fun m =>
    if w = word "shift" then (takeTime m).map fun x => ([.int x.1], x.2)
    else if w = word "fill" then (wordB fillsW m).map fun x => ([.str (strB x.1)], x.2)
    else if w = word "window" then (numF 1 100000 m).bind fun n => (takeSign 44 n.2).bind fun m2 => (wordB windowsW m2).map fun x => ([n.1, .str (strB x.1)], x.2)
    else (takeFrac m).map fun x => ([Fd x.1], x.2) := by
  unfold restF
  rw [if_neg h1]
  simp only [h2, Bool.false_eq_true, if_false]
theorem fracs_eq {w : Bytes} {f : VExpr → Frac → VExpr} (ih : ∀ l, exprF n l = (takeExpr n l).map enE) (h1 : ¬ (w = word "diff" ∨ w = word "run")) (h2 : twoW.contains w = false) (h3 : w ≠ word "shift") (h4 : w ≠ word "fill") (h5 : w ≠ word "window") (h6 : True) (hf : ∀ a b, exprD (f a b) = .tup [.str (strB w), exprD a, Fd b]) :
    tailF w n r = ((takeWith (takeExpr n) takeFrac r).map fun a => (f a.1 a.2.1, a.2.2)).map enE := by
  refine with_eq (en := fun v => [Fd v]) ih h1 (fun l => ?_) hf
  rw [rest_with h1 h2]
  simp only [if_neg h3, if_neg h4, if_neg h5]
theorem shift_eq (ih : ∀ l, exprF n l = (takeExpr n l).map enE) : tailF (word "shift") n r = ((takeWith (takeExpr n) takeTime r).map fun a => (.shift a.1 a.2.1, a.2.2)).map enE := by
  refine with_eq (f := .shift) (en := fun v => [.int v]) ih (by decide) (fun l => ?_) fun a b => rfl
  rw [rest_with (by decide) (by decide)]
  simp only [if_true]
theorem fill_word (m : Toks) : wordB fillsW m = (takeFill m).map fun x => (fillWord x.1, x.2) := by
  unfold takeFill wordB
  cases m with
  | nil => rfl
  | cons t r =>
    obtain ⟨q, k⟩ := t
    cases k with
    | name b =>
      show (if fillsW.contains b = true then (.ok (b, r) : Except VF (Bytes × Toks)) else _) = Except.map _ (if b = word "last" then _ else _)
      by_cases e1 : b = word "last"
      · subst e1; rfl
      by_cases e2 : b = word "next"
      · subst e2; rfl
      by_cases e3 : b = word "line"
      · subst e3; rfl
      by_cases e4 : b = word "zero"
      · subst e4; rfl
      simp only [show Vatmsa.ruleWord (⟨q, .name b⟩ :: r) = b from rfl, if_neg e1, if_neg e2, if_neg e3, if_neg e4]
      rw [if_neg]
      · rfl
      · intro h
        have h := List.contains_iff_mem.mp h
        simp only [fillsW, List.map_cons, List.map_nil, List.mem_cons, List.not_mem_nil, or_false] at h
        rcases h with h | h | h | h
        · exact e1 h
        · exact e2 h
        · exact e3 h
        · exact e4 h
    | _ => rfl
theorem over_word (m : Toks) : wordB windowsW m = (takeOver m).map fun x => (overWord x.1, x.2) := by
  unfold takeOver wordB
  cases m with
  | nil => rfl
  | cons t r =>
    obtain ⟨q, k⟩ := t
    cases k with
    | name b =>
      show (if windowsW.contains b = true then (.ok (b, r) : Except VF (Bytes × Toks)) else _) = Except.map _ (if b = word "sum" then _ else _)
      by_cases e1 : b = word "sum"
      · subst e1; rfl
      by_cases e2 : b = word "mean"
      · subst e2; rfl
      by_cases e3 : b = word "least"
      · subst e3; rfl
      by_cases e4 : b = word "most"
      · subst e4; rfl
      by_cases e5 : b = word "first"
      · subst e5; rfl
      by_cases e6 : b = word "last"
      · subst e6; rfl
      by_cases e7 : b = word "count"
      · subst e7; rfl
      simp only [show Vatmsa.ruleWord (⟨q, .name b⟩ :: r) = b from rfl, if_neg e1, if_neg e2, if_neg e3, if_neg e4, if_neg e5, if_neg e6, if_neg e7]
      rw [if_neg]
      · rfl
      · intro h
        have h := List.contains_iff_mem.mp h
        simp only [windowsW, List.map_cons, List.map_nil, List.mem_cons, List.not_mem_nil, or_false] at h
        rcases h with h | h | h | h | h | h | h
        · exact e1 h
        · exact e2 h
        · exact e3 h
        · exact e4 h
        · exact e5 h
        · exact e6 h
        · exact e7 h
    | _ => rfl
theorem fill_eq (ih : ∀ l, exprF n l = (takeExpr n l).map enE) : tailF (word "fill") n r = ((takeWith (takeExpr n) takeFill r).map fun a => (.fill a.1 a.2.1, a.2.2)).map enE := by
  refine with_eq (f := .fill) (en := fun v => [.str (strB (fillWord v))]) ih (by decide) (fun l => ?_) fun a b => rfl
  rw [rest_with (by decide) (by decide)]
  congr 1
  funext m
  rw [if_neg (by decide), if_pos rfl, fill_word]
  cases takeFill m <;> rfl
theorem window_eq (ih : ∀ l, exprF n l = (takeExpr n l).map enE) : tailF (word "window") n r = ((takeWith (takeExpr n) takeLength r).map fun a => (.window a.1 a.2.1.1 a.2.1.2, a.2.2)).map enE := by
  refine with_eq (A := Nat × Vatmsa.Over) (f := fun a b => .window a b.1 b.2) (en := fun v => [Nd v.1, .str (strB (overWord v.2))]) ih (by decide) (fun l => ?_) fun a b => rfl
  rw [rest_with (by decide) (by decide)]
  congr 1
  funext m
  rw [if_neg (by decide), if_neg (by decide), if_pos rfl]
  unfold takeLength
  have e : numF 1 100000 m = (takeStep m).map fun x => (Nd x.1, x.2) := by
    unfold numF takeStep
    cases m with
    | nil => rfl
    | cons t r =>
      obtain ⟨q, k⟩ := t
      cases k with
      | num d =>
        simp only
        by_cases h : d = 0 ∨ 100000 < d
        · rw [if_pos (show d = 0 ∨ Vatmsa.STEP < d from h), if_pos (by omega)]; rfl
        · rw [if_neg (show ¬ (d = 0 ∨ Vatmsa.STEP < d) from h), if_neg (by omega)]; rfl
      | _ => rfl
  rw [e]
  cases takeStep m with
  | error f => rfl
  | ok x =>
    show (takeSign 44 x.2).bind _ = ((takeSign 44 x.2).bind _).map _
    cases takeSign 44 x.2 with
    | error f => rfl
    | ok m2 =>
      show (wordB windowsW m2).map _ = ((takeOver m2).map _).map _
      rw [over_word]
      cases takeOver m2 <;> rfl
end
theorem expr_eq : ∀ (n : Nat) (l : Toks), exprF n l = (takeExpr n l).map enE
  | 0, l => rfl
  | n + 1, [] => rfl
  | n + 1, ⟨q, .num _⟩ :: r => rfl
  | n + 1, ⟨q, .sign _⟩ :: r => rfl
  | n + 1, ⟨q, .last⟩ :: r => rfl
  | n + 1, ⟨q, .name b⟩ :: r => by
    have ih := expr_eq n
    by_cases e0 : b = word "shift"
    · subst e0
      rw [takeExpr_name, if_pos (by decide), exprF_name, if_neg (by decide), if_pos (by decide)]
      exact shift_eq ih
    by_cases e1 : b = word "scale"
    · subst e1
      rw [takeExpr_name, if_neg (by decide), if_pos (by decide), exprF_name, if_neg (by decide), if_pos (by decide)]
      exact fracs_eq ih (by decide) (by decide) (by decide) (by decide) (by decide) (by trivial) (fun a b => rfl)
    by_cases e2 : b = word "add"
    · subst e2
      rw [takeExpr_name, if_neg (by decide), if_neg (by decide), if_pos (by decide), exprF_name, if_neg (by decide), if_pos (by decide)]
      exact two_eq (ih := ih) (by decide) (by decide) (by trivial) (fun a b => rfl)
    by_cases e3 : b = word "sub"
    · subst e3
      rw [takeExpr_name, if_neg (by decide), if_neg (by decide), if_neg (by decide), if_pos (by decide), exprF_name, if_neg (by decide), if_pos (by decide)]
      exact two_eq (ih := ih) (by decide) (by decide) (by trivial) (fun a b => rfl)
    by_cases e4 : b = word "least"
    · subst e4
      rw [takeExpr_name, if_neg (by decide), if_neg (by decide), if_neg (by decide), if_neg (by decide), if_pos (by decide), exprF_name, if_neg (by decide), if_pos (by decide)]
      exact two_eq (ih := ih) (by decide) (by decide) (by trivial) (fun a b => rfl)
    by_cases e5 : b = word "most"
    · subst e5
      rw [takeExpr_name, if_neg (by decide), if_neg (by decide), if_neg (by decide), if_neg (by decide), if_neg (by decide), if_pos (by decide), exprF_name, if_neg (by decide), if_pos (by decide)]
      exact two_eq (ih := ih) (by decide) (by decide) (by trivial) (fun a b => rfl)
    by_cases e6 : b = word "asof"
    · subst e6
      rw [takeExpr_name, if_neg (by decide), if_neg (by decide), if_neg (by decide), if_neg (by decide), if_neg (by decide), if_neg (by decide), if_pos (by decide), exprF_name, if_neg (by decide), if_pos (by decide)]
      exact two_eq (ih := ih) (by decide) (by decide) (by trivial) (fun a b => rfl)
    by_cases e7 : b = word "merge"
    · subst e7
      rw [takeExpr_name, if_neg (by decide), if_neg (by decide), if_neg (by decide), if_neg (by decide), if_neg (by decide), if_neg (by decide), if_neg (by decide), if_pos (by decide), exprF_name, if_neg (by decide), if_pos (by decide)]
      exact two_eq (ih := ih) (by decide) (by decide) (by trivial) (fun a b => rfl)
    by_cases e8 : b = word "fill"
    · subst e8
      rw [takeExpr_name, if_neg (by decide), if_neg (by decide), if_neg (by decide), if_neg (by decide), if_neg (by decide), if_neg (by decide), if_neg (by decide), if_neg (by decide), if_pos (by decide), exprF_name, if_neg (by decide), if_pos (by decide)]
      exact fill_eq ih
    by_cases e9 : b = word "window"
    · subst e9
      rw [takeExpr_name, if_neg (by decide), if_neg (by decide), if_neg (by decide), if_neg (by decide), if_neg (by decide), if_neg (by decide), if_neg (by decide), if_neg (by decide), if_neg (by decide), if_pos (by decide), exprF_name, if_neg (by decide), if_pos (by decide)]
      exact window_eq ih
    by_cases e10 : b = word "diff"
    · subst e10
      rw [takeExpr_name, if_neg (by decide), if_neg (by decide), if_neg (by decide), if_neg (by decide), if_neg (by decide), if_neg (by decide), if_neg (by decide), if_neg (by decide), if_neg (by decide), if_neg (by decide), if_pos (by decide), exprF_name, if_neg (by decide), if_pos (by decide)]
      exact one_eq ih (by decide) (fun a => rfl)
    by_cases e11 : b = word "run"
    · subst e11
      rw [takeExpr_name, if_neg (by decide), if_neg (by decide), if_neg (by decide), if_neg (by decide), if_neg (by decide), if_neg (by decide), if_neg (by decide), if_neg (by decide), if_neg (by decide), if_neg (by decide), if_neg (by decide), if_pos (by decide), exprF_name, if_neg (by decide), if_pos (by decide)]
      exact one_eq ih (by decide) (fun a => rfl)
    by_cases e12 : b = word "over"
    · subst e12
      rw [takeExpr_name, if_neg (by decide), if_neg (by decide), if_neg (by decide), if_neg (by decide), if_neg (by decide), if_neg (by decide), if_neg (by decide), if_neg (by decide), if_neg (by decide), if_neg (by decide), if_neg (by decide), if_neg (by decide), if_pos (by decide), exprF_name, if_neg (by decide), if_pos (by decide)]
      exact fracs_eq ih (by decide) (by decide) (by decide) (by decide) (by decide) (by trivial) (fun a b => rfl)
    rw [takeExpr_name, if_neg (by rw [beq_iff_eq]; exact e0), if_neg (by rw [beq_iff_eq]; exact e1), if_neg (by rw [beq_iff_eq]; exact e2), if_neg (by rw [beq_iff_eq]; exact e3), if_neg (by rw [beq_iff_eq]; exact e4), if_neg (by rw [beq_iff_eq]; exact e5), if_neg (by rw [beq_iff_eq]; exact e6), if_neg (by rw [beq_iff_eq]; exact e7), if_neg (by rw [beq_iff_eq]; exact e8), if_neg (by rw [beq_iff_eq]; exact e9), if_neg (by rw [beq_iff_eq]; exact e10), if_neg (by rw [beq_iff_eq]; exact e11), if_neg (by rw [beq_iff_eq]; exact e12)]
    rw [exprF_name]
    have nw : (twoW ++ oneW).contains b = false := by
      cases h : (twoW ++ oneW).contains b with
      | false => rfl
      | true =>
        have h := List.contains_iff_mem.mp h
        simp only [twoW, oneW, List.map_cons, List.map_nil, List.cons_append, List.nil_append, List.mem_cons, List.not_mem_nil, or_false] at h
        simp_all
    unfold takeName
    by_cases hr : RESERVED.contains b = true
    · rw [if_neg (by rw [hr]; decide), if_neg (by rw [nw]; decide)]
      simp only [if_pos hr]
      rfl
    · rw [if_pos (Bool.eq_false_iff.mpr hr)]
      simp only [if_neg hr]
      rfl
theorem adv_wordB (ws : List Bytes) : Adv (wordB ws) := by
  intro all l a l' h e
  obtain ⟨⟨q, k⟩, r, rfl⟩ := h.lt.cons
  unfold wordB at e
  cases k with
  | name b =>
    simp only at e
    split at e
    · cases e
      exact ⟨h.drop rfl (by intro z; cases z), Nat.le_succ _⟩
    · cases e
  | _ => cases e
theorem adv_num (lo hi : Int) : Adv (numF lo hi) := by
  intro all l a l' h e
  obtain ⟨⟨q, k⟩, r, rfl⟩ := h.lt.cons
  unfold numF at e
  cases k with
  | num b =>
    simp only at e
    split at e
    · cases e
    · cases e
      exact ⟨h.drop rfl (by intro z; cases z), Nat.le_succ _⟩
  | _ => cases e
theorem adv_sign (c : Nat) : Adv1 (takeSign c) := adv_taken (by intro z; cases z)
theorem adv_rest {part : Toks → Except VF (D × Toks)} (hp : Adv part) (w : Bytes) : Adv (restF part w) := by
  unfold restF
  by_cases h : w = word "diff" ∨ w = word "run"
  · simp only [if_pos h]
    intro all l a l' st e
    cases e
    exact ⟨st, Nat.le_refl _⟩
  · simp only [if_neg h]
    refine adv_bind1 (adv_sign 44) ?_
    by_cases h2 : twoW.contains w = true
    · simp only [if_pos h2]; exact adv_map (g := fun x => ([x.1], x.2)) hp fun x => rfl
    simp only [if_neg h2]
    by_cases h3 : w = word "shift"
    · simp only [if_pos h3]; exact adv_map (g := fun x => ([D.int x.1], x.2)) adv_time fun x => rfl
    simp only [if_neg h3]
    by_cases h4 : w = word "fill"
    · simp only [if_pos h4]; exact adv_map (g := fun x => ([D.str (strB x.1)], x.2)) (adv_wordB _) fun x => rfl
    simp only [if_neg h4]
    by_cases h5 : w = word "window"
    · simp only [if_pos h5]
      exact adv_bind (g := fun n => (takeSign 44 n.2).bind fun m2 => (wordB windowsW m2).map fun x => ([n.1, D.str (strB x.1)], x.2)) (adv_num 1 100000) fun a => adv_bind1 (adv_sign 44) (adv_map (g := fun x => ([a, D.str (strB x.1)], x.2)) (adv_wordB _) fun x => rfl)
    simp only [if_neg h5]
    exact adv_map (g := fun x => ([Fd x.1], x.2)) adv_frac fun x => rfl
theorem adv_expr : ∀ n, Adv (exprF n)
  | 0 => fun all l a l' st e => by cases e
  | n + 1 => fun all l a l' st e => by
    obtain ⟨⟨q, k⟩, r, rfl⟩ := st.lt.cons
    cases k with
    | name b =>
      rw [exprF_name] at e
      have st1 := st.drop rfl (by intro z; cases z)
      split at e
      · cases e
        exact ⟨st1, Nat.le_succ _⟩
      · split at e
        · have := adv_bind1 (adv_sign 40) (adv_bind (g := fun a => (restF (exprF n) b a.2).bind fun t => (takeSign 41 t.2).map fun m => (D.tup ([.str (strB b), a.1] ++ t.1), m)) (adv_expr n) fun a => adv_bind (g := fun t => (takeSign 41 t.2).map fun m => (D.tup ([.str (strB b), a] ++ t.1), m)) (adv_rest (adv_expr n) b) fun t => adv_map1 (g := fun m => (D.tup ([.str (strB b), a] ++ t), m)) (adv_sign 41) fun x => rfl) all r a l' st1 e
          exact ⟨this.1, Nat.le_trans this.2 (Nat.le_succ _)⟩
        · cases e
    | _ => cases e
end Fp

set_option Elab.async false
set_option linter.all false
set_option maxRecDepth 100000
set_option maxHeartbeats 2000000
namespace Fp
open PySem PySem.Spec PyProof.Rows L2 Dl
open VatmsBase (Bytes word PTok Toks Frac frac whole wrong here next nextWord taken takeWord takeSign takeName PName RESERVED)
open Vatmsa (takeTime takeFrac takeValue takeExpr)
theorem map_ok {ε α β : Type} {x : Except ε α} {f : α → β} {y : β} (h : x.map f = .ok y) : ∃ z, x = .ok z ∧ f z = y := by
  cases x with
  | error e => cases h
  | ok z => exact ⟨z, rfl, Except.ok.inj h⟩
theorem bind_ok {ε α β : Type} {x : Except ε α} {f : α → Except ε β} {y : β} (h : x.bind f = .ok y) : ∃ z, x = .ok z ∧ f z = .ok y := by
  cases x with
  | error e => cases h
  | ok z => exact ⟨z, rfl, h⟩
theorem rest_len {part : Toks → Except VF (D × Toks)} {w : Bytes} {l l' : Toks} {t : List D} (h : restF part w l = .ok (t, l')) : t.length ≤ 2 := by
  unfold restF at h
  split at h
  · cases h; decide
  · obtain ⟨m, _, h⟩ := bind_ok h
    split at h
    · obtain ⟨z, _, h⟩ := map_ok h; cases h; simp
    split at h
    · obtain ⟨z, _, h⟩ := map_ok h; cases h; simp
    split at h
    · obtain ⟨z, _, h⟩ := map_ok h; cases h; simp
    split at h
    · obtain ⟨z, _, h⟩ := bind_ok h
      obtain ⟨z, _, h⟩ := bind_ok h
      obtain ⟨z, _, h⟩ := map_ok h; cases h; simp
    · obtain ⟨z, _, h⟩ := map_ok h; cases h; simp
theorem dec_word {b : Bytes} {s : String} (h : Str.ofString s = strB (word s)) : decide (strB b = Str.ofString s) = decide (b = word s) := by
  rw [Bool.eq_iff_iff, decide_eq_true_iff, decide_eq_true_iff, h]
  exact ⟨strB_inj, fun e => by rw [e]⟩
theorem lit_diff : Str.ofString "diff" = strB (word "diff") := by decide +kernel
theorem lit_run : Str.ofString "run" = strB (word "run") := by decide +kernel
theorem lit_shift : Str.ofString "shift" = strB (word "shift") := by decide +kernel
theorem lit_scale : Str.ofString "scale" = strB (word "scale") := by decide +kernel
theorem lit_over : Str.ofString "over" = strB (word "over") := by decide +kernel
theorem lit_fill : Str.ofString "fill" = strB (word "fill") := by decide +kernel
theorem lit_window : Str.ofString "window" = strB (word "window") := by decide +kernel
theorem lit_name : Str.ofString "name" = strB (word "name") := by decide +kernel
theorem lit_one : [D.str "shift", D.str "scale", D.str "over", D.str "fill", D.str "window", D.str "diff", D.str "run"] = (oneW.map strB).map D.str := by
  rw [show ("shift" : Str) = Str.ofString "shift" from rfl, lit_shift, lit_scale, lit_over, lit_fill, lit_window, lit_diff, lit_run]
  rfl
def qExpr (k : Nat) : List D → Toks → Except VF (D × Toks) → Prop := fun ds l o => ∃ many : Nat, ds = [Nd many] ∧ many + k = 7 ∧ o = exprF k l
def qRest (k : Nat) : List D → Toks → Except VF (D × Toks) → Prop := fun ds l o => ∃ (b : Bytes) (many : Nat), ds = [.str (strB b), Nd many] ∧ many + (k + 1) = 7 ∧ (twoW ++ oneW).contains b = true ∧ o = (restF (exprF k) b l).map fun x => (.tup x.1, x.2)
section
variable {P : Program} {w : World} {K : PySem.W.Frag} {mg : Str → Option Value} {base : Heap} {RC FC : Addr}
abbrev RWord (P : Program) (w : World) (K : PySem.W.Frag) (mg : Str → Option Value) (base : Heap) (RC FC : Addr) : Prop := RX P w K mg base RC FC 3 "word_of" ["self", "some"] qWord
abbrev s_Reader_rest : Stmt := inClass (top 57) 14
abbrev n_Reader_rest : List Str := ["self", "word", "many", "length"]
theorem sc_Reader_rest : FnScope n_Reader_rest ["self", "word", "many"] (defScope s_Reader_rest) := ⟨rfl, rfl, rfl, by decide +kernel, rfl, by decide +kernel, by decide +kernel⟩
theorem f_Reader_rest {k e : Nat} (F : Ma K RC "rest" "Reader.rest" s_Reader_rest) (c : RdC K RC) (he : 5 ≤ e) (hex : RX P w K mg base RC FC e "expression" ["self", "many"] (qExpr k)) (hwa : RWants P w K mg base RC FC) (hsi : RSigned P w K mg base RC FC) (hva : RValue P w K mg base RC FC) (hwo : RWord P w K mg base RC FC) (hnu : RNumber P w K mg base RC FC)
    (gTwo : Glo K mg "TWO" (.tup ((twoW.map strB).map D.str))) (gF : Glo K mg "FILLS" (.tup ((fillsW.map strB).map D.str))) (gW : Glo K mg "WINDOWS" (.tup ((windowsW.map strB).map D.str))) (gT : Glo K mg "MOST_TIME" (.int 100000)) : RX P w K mg base RC FC (e + 1) "rest" ["self", "word", "many"] (qRest k) := by
  refine ma_mv F (fun _ _ _ _ _ _ us hl => match us, hl with | [_, _, _], _ => rfl) fun f fd F => fnX F sc_Reader_rest (fun Γ r ⟨p, all, l, ds, o, e, _, ⟨b, many, e2, _⟩, _⟩ => by subst e; subst e2; rfl) ?_
  have nd := sc_Reader_rest.nd
  rintro cdv A outer s H E _ _ hr ⟨p, all, l, ds, o, rfl, st, ⟨b, many, rfl, hm, hb, ho⟩, rfl⟩
  refine ss_cons (s_if (WpT.mono (R := fun b' Γ' => b' = decide (b = word "diff" ∨ b = word "run") ∧ Γ' = [.own p (rdr RC all l), .im (.str (strB b)), .im (Nd many), .un]) (t_bool (tw_or (t_cmp (wv 1 rfl (w_str ⟨_, o_eqS, ⟨fun hT => ⟨?_, rfl⟩, fun hF => (tw_or1 (t_cmp (wv 1 rfl (w_str ⟨_, o_eqS, ⟨?_, rfl⟩⟩))))⟩⟩))))) ?_))
  · rw [dec_word lit_diff] at hT
    exact (decide_eq_true (.inl (of_decide_eq_true hT))).symm
  · rw [dec_word lit_diff] at hF
    rw [dec_word lit_run, Bool.eq_iff_iff, decide_eq_true_iff, decide_eq_true_iff]
    exact ⟨.inr, fun h => h.resolve_left (of_decide_eq_false hF)⟩
  rintro b' Γ' ⟨rfl, rfl⟩
  refine ⟨fun hT => ?_, fun hF => ss_nil ?_⟩
  · have h1 := of_decide_eq_true hT
    unfold restF at ho
    rw [if_pos h1] at ho
    subst ho
    exact ss_one (s_ret (w_tup (d_nil ⟨len_le, finM (l' := l) rfl rfl⟩)))
  have h1 := of_decide_eq_false hF
  unfold restF at ho
  rw [if_neg h1] at ho
  have wc := wants_sign (c := 44) st.lt (by decide)
  refine ss_cons (s_expr (w_rd hwa c.c (hr.mono (by omega)) pcX rfl (by decide) (d_cons (w_str (d_nil ⟨l, rfl, st, _, ⟨strB [44], rfl, rfl⟩, ?_⟩)))))
  rw [wc]
  cases e2 : takeSign 44 l with
  | error f => rw [show (44 : UInt8).toNat = 44 from rfl, e2]; rw [e2] at ho; subst ho; rfl
  | ok l3 =>
  rw [show (44 : UInt8).toNat = 44 from rfl, e2]
  rw [e2] at ho
  have st3 := (adv_sign 44 all l l3 st e2).1
  have ho : o = (if twoW.contains b = true then (exprF k l3).map fun x => ([x.1], x.2)
    else if b = word "shift" then (takeTime l3).map fun x => ([.int x.1], x.2)
    else if b = word "fill" then (wordB fillsW l3).map fun x => ([.str (strB x.1)], x.2)
    else if b = word "window" then (numF 1 100000 l3).bind fun n => (takeSign 44 n.2).bind fun m2 => (wordB windowsW m2).map fun x => ([n.1, .str (strB x.1)], x.2)
    else (takeFrac l3).map fun x => ([Fd x.1], x.2) : Except VF (List D × Toks)).map fun x => (.tup x.1, x.2) := ho
  refine ss_cons (s_if (t_cmp (wv 1 rfl (w_glob gTwo rfl ⟨decide (strB b ∈ twoW.map strB), o_inST, ⟨fun hT => ?_, fun hF => ss_nil ?_⟩⟩))))
  · rw [mem_strB] at hT
    rw [if_pos hT] at ho
    refine ss_one (s_ret (w_tup (d_cons (w_rd hex c.c (hr.mono (Nat.le_refl _)) pcX rfl (by decide) (d_cons (w_bin (wv 2 rfl (w_int ⟨_, o_addI, (d_nil ⟨l3, rfl, st3, exprF k l3, ⟨many + 1, rfl, by omega, rfl⟩, ?_⟩)⟩))))))))
    cases e3 : exprF k l3 with
    | error f => rw [e3] at ho; subst ho; rfl
    | ok y => rw [e3] at ho; subst ho; exact d_nil ⟨len_le, finM (l' := y.2) rfl rfl⟩
  rw [mem_strB] at hF
  rw [if_neg (by rw [hF]; decide)] at ho
  refine ss_cons (s_if (t_cmp (wv 1 rfl (w_str ⟨_, o_eqS, ⟨fun hT => ?_, fun hF => ss_nil ?_⟩⟩))))
  · rw [dec_word lit_shift] at hT
    rw [if_pos (of_decide_eq_true hT), time_sgn] at ho
    refine ss_one (s_ret (w_tup (d_cons (w_rd hsi c.c (hr.mono (by omega)) pcX rfl (by decide) (d_cons (w_glob gT rfl (d_nil ⟨l3, rfl, st3, (sgnF 100000 l3).map fun x => (.int x.1, x.2), ⟨100000, rfl, rfl⟩, ?_⟩)))))))
    cases e3 : sgnF 100000 l3 with
    | error f => rw [e3] at ho; subst ho; rfl
    | ok y => rw [e3] at ho; subst ho; exact d_nil ⟨len_le, finM (l' := y.2) rfl rfl⟩
  rw [dec_word lit_shift] at hF
  rw [if_neg (of_decide_eq_false hF)] at ho
  refine ss_cons (s_if (t_cmp (wv 1 rfl (w_str ⟨_, o_eqS, ⟨fun hT => ?_, fun hF => ss_nil ?_⟩⟩))))
  · rw [dec_word lit_fill] at hT
    rw [if_pos (of_decide_eq_true hT)] at ho
    refine ss_one (s_ret (w_tup (d_cons (w_rd hwo c.c (hr.mono (by omega)) pcX rfl (by decide) (d_cons (w_glob gF rfl (d_nil ⟨l3, rfl, st3, (wordB fillsW l3).map fun x => (.str (strB x.1), x.2), ⟨fillsW.map strB, rfl, (wordB_eq _ _).symm⟩, ?_⟩)))))))
    cases e3 : wordB fillsW l3 with
    | error f => rw [e3] at ho; subst ho; rfl
    | ok y => rw [e3] at ho; subst ho; exact d_nil ⟨len_le, finM (l' := y.2) rfl rfl⟩
  rw [dec_word lit_fill] at hF
  rw [if_neg (of_decide_eq_false hF)] at ho
  refine ss_cons (s_if (t_cmp (wv 1 rfl (w_str ⟨_, o_eqS, ⟨fun hT => ?_, fun hF => ss_nil ?_⟩⟩))))
  · rw [dec_word lit_window] at hT
    rw [if_pos (of_decide_eq_true hT)] at ho
    refine ss_cons (ss 3 nd (w_rd hnu c.c (hr.mono (by omega)) pcX rfl (by decide) (d_cons (w_int (d_cons (w_glob gT rfl (d_nil ⟨l3, rfl, st3, numF 1 100000 l3, ⟨1, 100000, rfl, rfl⟩, ?_⟩)))))))
    cases e3 : numF 1 100000 l3 with
    | error f => rw [e3] at ho; subst ho; rfl
    | ok y =>
    obtain ⟨n, hn⟩ := numF_ok e3
    obtain ⟨y1, l4⟩ := y
    have hn : y1 = Nd n := hn
    subst hn
    rw [e3] at ho
    have st4 := (adv_num 1 100000 all l3 _ l4 st3 e3).1
    have ho : o = ((takeSign 44 l4).bind fun m2 => (wordB windowsW m2).map fun x => ([Nd n, .str (strB x.1)], x.2)).map fun x => (.tup x.1, x.2) := ho
    have wc := wants_sign (c := 44) st4.lt (by decide)
    refine ss_cons (s_expr (w_rd hwa c.c (hr.mono (by omega)) pcX rfl (by decide) (d_cons (w_str (d_nil ⟨l4, rfl, st4, _, ⟨strB [44], rfl, rfl⟩, ?_⟩)))))
    rw [wc]
    cases e4 : takeSign 44 l4 with
    | error f => rw [show (44 : UInt8).toNat = 44 from rfl, e4]; rw [e4] at ho; subst ho; rfl
    | ok l5 =>
    rw [show (44 : UInt8).toNat = 44 from rfl, e4]
    rw [e4] at ho
    have ho : o = ((wordB windowsW l5).map fun x => ([Nd n, .str (strB x.1)], x.2)).map fun x => (.tup x.1, x.2) := ho
    have st5 := (adv_sign 44 all l4 l5 st4 e4).1
    refine ss_one (s_ret (w_tup (d_cons (wv 3 rfl (d_cons (w_rd hwo c.c (hr.mono (by omega)) pcX rfl (by decide) (d_cons (w_glob gW rfl (d_nil ⟨l5, rfl, st5, (wordB windowsW l5).map fun x => (.str (strB x.1), x.2), ⟨windowsW.map strB, rfl, (wordB_eq _ _).symm⟩, ?_⟩)))))))))
    cases e5 : wordB windowsW l5 with
    | error f => rw [e5] at ho; subst ho; rfl
    | ok y => rw [e5] at ho; subst ho; exact d_nil ⟨len_le, finM (l' := y.2) rfl rfl⟩
  rw [dec_word lit_window] at hF
  rw [if_neg (of_decide_eq_false hF)] at ho
  refine ss_one (s_ret (w_tup (d_cons (w_rd0 hva c.c (hr.mono (by omega)) pcX rfl (by decide) st3 ⟨(takeFrac l3).map fun x => (Fd x.1, x.2), ⟨rfl, rfl⟩, ?_⟩))))
  cases e3 : takeFrac l3 with
  | error f => rw [e3] at ho; subst ho; rfl
  | ok y => rw [e3] at ho; subst ho; exact d_nil ⟨len_le, finM (l' := y.2) rfl rfl⟩
/-! ### expression -/
abbrev s_Reader_expression : Stmt := inClass (top 57) 13
abbrev n_Reader_expression : List Str := ["self", "many", "sort", "what", "place", "word", "found"]
theorem sc_Reader_expression : FnScope n_Reader_expression ["self", "many"] (defScope s_Reader_expression) := ⟨rfl, rfl, rfl, by decide +kernel, rfl, by decide +kernel, by decide +kernel⟩
theorem tok_parts (t : PTok) : ∃ (so : Str) (wh : D), tokD t = .tup [.str so, wh, Nd t.place] ∧ (so = "name" ↔ ∃ b, t.tok = .name b) := by
  obtain ⟨q, k⟩ := t
  cases k with
  | name b => exact ⟨_, _, rfl, fun _ => ⟨b, rfl⟩, fun _ => rfl⟩
  | num n => exact ⟨_, _, rfl, fun h => absurd h (by decide), fun ⟨b, h⟩ => by cases h⟩
  | sign n => exact ⟨_, _, rfl, fun h => absurd h (by decide), fun ⟨b, h⟩ => by cases h⟩
  | last => exact ⟨_, _, rfl, fun h => absurd h (by decide), fun ⟨b, h⟩ => by cases h⟩
theorem f_Reader_expr0 (F : Ma K RC "expression" "Reader.expression" s_Reader_expression) (c : RdC K RC) (T : FaultK P w K mg base FC) (gM : Glo K mg "MOST_WITHIN" (.int 6)) : RX P w K mg base RC FC 6 "expression" ["self", "many"] (qExpr 0) := by
  refine ma_mv F (fun _ _ _ _ _ _ us hl => match us, hl with | [_, _], _ => rfl) fun f fd F => fnX F sc_Reader_expression (fun Γ r ⟨p, all, l, ds, o, e, _, ⟨many, e2, _⟩, _⟩ => by subst e; subst e2; rfl) ?_
  have nd := sc_Reader_expression.nd
  rintro cdv A outer s H E _ _ hr ⟨p, all, l, ds, o, rfl, st, ⟨many, rfl, hm, rfl⟩, rfl⟩
  have hm : many = 7 := by omega
  subst hm
  obtain ⟨t, r, rfl⟩ := st.lt.cons
  obtain ⟨so, wh, e1, _⟩ := tok_parts t
  refine ss_cons (s_asg (js := [2, 3, 4]) (w_tok c rfl st rfl ?_))
  rw [e1]
  refine (g1_tup rfl (gs_cons (gn 2 nd (gs_cons (gn 3 nd (gs_cons (gn 4 nd (gs_nil ?_))))))))
  refine ss_cons (s_if (t_cmp (wv 1 rfl (w_glob gM rfl ⟨_, o_gt, ⟨fun hT => ?_, fun hF => absurd hF (by decide)⟩⟩))))
  refine ss_one (s_raise T (takes_of rfl rfl rfl rfl) (hr.mono (by decide)) rfl pass (d_cons (w_int (d_cons (wv 4 rfl (d_nil ⟨[4, (t.place : Nat)], rfl, rfl, by decide, rfl⟩))))))
theorem f_Reader_exprS {k e : Nat} (F : Ma K RC "expression" "Reader.expression" s_Reader_expression) (c : RdC K RC) (T : FaultK P w K mg base FC) (he : 5 ≤ e) (hex : RX P w K mg base RC FC e "expression" ["self", "many"] (qExpr k)) (hre : RX P w K mg base RC FC (e + 1) "rest" ["self", "word", "many"] (qRest k)) (hwa : RWants P w K mg base RC FC) (hwo : RWord P w K mg base RC FC)
    (gM : Glo K mg "MOST_WITHIN" (.int 6)) (gR : Glo K mg "RESERVED" (.tup (reservedS.map D.str))) (gTwo : Glo K mg "TWO" (.tup ((twoW.map strB).map D.str))) : RX P w K mg base RC FC (e + 2) "expression" ["self", "many"] (qExpr (k + 1)) := by
  refine ma_mv F (fun _ _ _ _ _ _ us hl => match us, hl with | [_, _], _ => rfl) fun f fd F => fnX F sc_Reader_expression (fun Γ r ⟨p, all, l, ds, o, e, _, ⟨many, e2, _⟩, _⟩ => by subst e; subst e2; rfl) ?_
  have nd := sc_Reader_expression.nd
  rintro cdv A outer s H E _ _ hr ⟨p, all, l, ds, o, rfl, st, ⟨many, rfl, hm, ho⟩, rfl⟩
  obtain ⟨⟨q, kk⟩, r, rfl⟩ := st.lt.cons
  have hargs : D.tup (((twoW.map strB).map D.str) ++ [D.str "shift", D.str "scale", D.str "over", D.str "fill", D.str "window", D.str "diff", D.str "run"]) = .tup (((twoW ++ oneW).map strB).map D.str) := by
    rw [lit_one, List.map_append, List.map_append]
  cases kk with
  | name b =>
    rw [exprF_name] at ho
    refine ss_cons (s_asg (js := [2, 3, 4]) (w_tok c rfl st rfl (g1_tup rfl (gs_cons (gn 2 nd (gs_cons (gn 3 nd (gs_cons (gn 4 nd (gs_nil ?_)))))))) ))
    refine ss_cons (s_if (t_cmp (wv 1 rfl (w_glob gM rfl ⟨_, o_gt, ⟨fun hT => absurd (of_decide_eq_true hT) (by omega), fun hF => ss_nil ?_⟩⟩))))
    refine ss_cons (s_if (t_bool (tw_and (t_cmp (wv 2 rfl (w_str ⟨_, o_eqS, ⟨fun hF => absurd hF (by decide), fun hT => (tw_and1 (t_cmp (wv 3 rfl (w_glob gR rfl ⟨!decide (strB b ∈ RESERVED.map strB), o_notInST, ⟨fun hT => ?_, fun hF => ss_nil ?_⟩⟩))))⟩⟩))))))
    · rw [mem_strB] at hT
      rw [if_pos (by simpa using hT)] at ho
      subst ho
      exact (ss_cons (s_step c rfl st (ss_one (s_ret (w_tup (d_cons (w_str (d_cons (wv 3 rfl (d_cons (wv 4 rfl (d_nil ⟨len_le, finM (l' := r) rfl rfl⟩))))))))))))
    · rw [mem_strB] at hF
      have hr' : RESERVED.contains b = true := by simpa using hF
      rw [if_neg (by rw [hr']; decide)] at ho
      refine ss_cons (ss 5 nd (w_rd hwo c.c (hr.mono (by omega)) pcX rfl (by decide) (d_cons (w_bin (w_glob gTwo rfl (w_tup (d_cons (w_str (d_cons (w_str (d_cons (w_str (d_cons (w_str (d_cons (w_str (d_cons (w_str (d_cons (w_str (d_nil ⟨len_le, ⟨_, (o_catT (by decide) len_le), (d_nil ⟨⟨q, .name b⟩ :: r, rfl, st, (wordB (twoW ++ oneW) (⟨q, .name b⟩ :: r)).map fun x => (.str (strB x.1), x.2), ⟨(twoW ++ oneW).map strB, by rw [hargs], (wordB_eq _ _).symm⟩, ?_⟩)⟩⟩)))))))))))))))))))))
      by_cases hw : (twoW ++ oneW).contains b = true
      · have e1 : wordB (twoW ++ oneW) (⟨q, .name b⟩ :: r) = .ok (b, r) := if_pos hw
        have st1 := st.drop rfl (by intro z; cases z)
        rw [e1]
        rw [if_pos hw] at ho
        have wc := wants_sign (c := 40) st1.lt (by decide)
        refine ss_cons (s_expr (w_rd hwa c.c (hr.mono (by omega)) pcX rfl (by decide) (d_cons (w_str (d_nil ⟨r, rfl, st1, _, ⟨strB [40], rfl, rfl⟩, ?_⟩)))))
        rw [wc]
        cases e2 : takeSign 40 r with
        | error f => rw [show (40 : UInt8).toNat = 40 from rfl, e2]; rw [e2] at ho; subst ho; rfl
        | ok l2 =>
        rw [show (40 : UInt8).toNat = 40 from rfl, e2]
        rw [e2] at ho
        have st2 := (adv_sign 40 all r l2 st1 e2).1
        have ho : o = (exprF k l2).bind fun a => (restF (exprF k) b a.2).bind fun t => (takeSign 41 t.2).map fun m => (.tup ([.str (strB b), a.1] ++ t.1), m) := ho
        refine ss_cons (ss 6 nd (w_bin (w_tup (d_cons (wv 5 rfl (d_cons (w_rd hex c.c (hr.mono (by omega)) pcX rfl (by decide) (d_cons (w_bin (wv 1 rfl (w_int ⟨_, o_addI, (d_nil ⟨l2, rfl, st2, exprF k l2, ⟨many + 1, rfl, by omega, rfl⟩, ?_⟩)⟩)))))))))))
        cases e3 : exprF k l2 with
        | error f => rw [e3] at ho; subst ho; rfl
        | ok y =>
        obtain ⟨y1, l3⟩ := y
        rw [e3] at ho
        have st3 := (adv_expr k all l2 _ l3 st2 e3).1
        have ho : o = (restF (exprF k) b l3).bind fun t => (takeSign 41 t.2).map fun m => (.tup ([.str (strB b), y1] ++ t.1), m) := ho
        refine d_nil ⟨len_le, (w_rd hre c.c (hr.mono (Nat.le_refl _)) pcX rfl (by decide) (d_cons (wv 5 rfl (d_cons (wv 1 rfl (d_nil ⟨l3, rfl, st3, (restF (exprF k) b l3).map fun x => (.tup x.1, x.2), ⟨b, many, rfl, by omega, hw, rfl⟩, ?_⟩)))))) ⟩
        cases e4 : restF (exprF k) b l3 with
        | error f => rw [e4] at ho; subst ho; rfl
        | ok y =>
        obtain ⟨t1, l4⟩ := y
        rw [e4] at ho
        have st4 := (adv_rest (adv_expr k) b all l3 _ l4 st3 e4).1
        have ho : o = (takeSign 41 l4).map fun m => (.tup ([.str (strB b), y1] ++ t1), m) := ho
        have tl : ([.str (strB b), y1] : List D).length + t1.length ≤ sizeLine := by
          have := rest_len e4
          rw [sizeLine_eq]
          show 2 + t1.length ≤ _
          omega
        refine ⟨_, o_catT (by simp) tl, ?_⟩
        have wc := wants_sign (c := 41) st4.lt (by decide)
        refine ss_cons (s_expr (w_rd hwa c.c (hr.mono (by omega)) pcX rfl (by decide) (d_cons (w_str (d_nil ⟨l4, rfl, st4, _, ⟨strB [41], rfl, rfl⟩, ?_⟩)))))
        rw [wc]
        cases e5 : takeSign 41 l4 with
        | error f => rw [show (41 : UInt8).toNat = 41 from rfl, e5]; rw [e5] at ho; subst ho; rfl
        | ok l5 =>
        rw [show (41 : UInt8).toNat = 41 from rfl, e5]
        rw [e5] at ho
        subst ho
        exact ss_one (s_ret (wv 6 rfl (finM (l' := l5) rfl rfl)))
      · have e1 : wordB (twoW ++ oneW) (⟨q, .name b⟩ :: r) = wrong (⟨q, .name b⟩ :: r) := if_neg hw
        rw [if_neg hw] at ho
        rw [e1]
        subst ho
        rfl
  | _ =>
    subst ho
    refine ss_cons (s_asg (js := [2, 3, 4]) (w_tok c rfl st rfl (g1_tup rfl (gs_cons (gn 2 nd (gs_cons (gn 3 nd (gs_cons (gn 4 nd (gs_nil ?_)))))))) ))
    refine ss_cons (s_if (t_cmp (wv 1 rfl (w_glob gM rfl ⟨_, o_gt, ⟨fun hT => absurd (of_decide_eq_true hT) (by omega), fun hF => ss_nil ?_⟩⟩))))
    refine ss_cons (s_if (t_bool (tw_and (t_cmp (wv 2 rfl (w_str ⟨_, o_eqS, ⟨fun hF => ⟨fun hT => (Bool.false_ne_true hT).elim, fun _ => ss_nil ?_⟩, fun hT => absurd hT (by decide)⟩⟩))))))
    refine ss_cons (ss 5 nd (w_rd hwo c.c (hr.mono (by omega)) pcX rfl (by decide) (d_cons (w_bin (w_glob gTwo rfl (w_tup (d_cons (w_str (d_cons (w_str (d_cons (w_str (d_cons (w_str (d_cons (w_str (d_cons (w_str (d_cons (w_str (d_nil ⟨len_le, ⟨_, (o_catT (by decide) len_le), (d_nil ⟨_, rfl, st, (wordB (twoW ++ oneW) _).map fun x => (.str (strB x.1), x.2), ⟨(twoW ++ oneW).map strB, by rw [hargs], (wordB_eq _ _).symm⟩, ?_⟩)⟩⟩)))))))))))))))))))))
    rfl
end
end Fp

set_option Elab.async false
set_option linter.all false
set_option maxRecDepth 100000
set_option maxHeartbeats 2000000
namespace Fp
open PySem PySem.Spec PyProof.Rows L2 Dl
open VatmsBase (Bytes word PTok Toks Frac frac whole wrong here next nextWord taken takeWord takeSign takeName PName RESERVED)
open Vatmsa (takeTime takeFrac takeValue takeExpr takePoints takeLets takeSeries placeNum Series Let Prog)
section
variable {P : Program} {w : World} {K : PySem.W.Frag} {mg : Str → Option Value} {base : Heap} {RC FC : Addr}
theorem f_Reader_expression (F : Ma K RC "expression" "Reader.expression" s_Reader_expression) (G : Ma K RC "rest" "Reader.rest" s_Reader_rest) (c : RdC K RC) (T : FaultK P w K mg base FC) (hwa : RWants P w K mg base RC FC) (hsi : RSigned P w K mg base RC FC) (hva : RValue P w K mg base RC FC) (hwo : RWord P w K mg base RC FC) (hnu : RNumber P w K mg base RC FC)
    (gM : Glo K mg "MOST_WITHIN" (.int 6)) (gR : Glo K mg "RESERVED" (.tup (reservedS.map D.str))) (gTwo : Glo K mg "TWO" (.tup ((twoW.map strB).map D.str))) (gF : Glo K mg "FILLS" (.tup ((fillsW.map strB).map D.str))) (gW : Glo K mg "WINDOWS" (.tup ((windowsW.map strB).map D.str))) (gT : Glo K mg "MOST_TIME" (.int 100000)) : ∀ k, RX P w K mg base RC FC (6 + 2 * k) "expression" ["self", "many"] (qExpr k)
  | 0 => f_Reader_expr0 F c T gM
  | k + 1 => by
    have ih := f_Reader_expression F G c T hwa hsi hva hwo hnu gM gR gTwo gF gW gT k
    have h5 : 5 ≤ 6 + 2 * k := by omega
    exact f_Reader_exprS (e := 6 + 2 * k) F c T h5 ih (f_Reader_rest (e := 6 + 2 * k) G c h5 ih hwa hsi hva hwo hnu gTwo gF gW gT) hwa hwo gM gR gTwo
/-! ### one_let -/
abbrev s_Reader_one_let : Stmt := inClass (top 57) 12
abbrev n_Reader_one_let : List Str := ["self", "name", "place", "found"]
theorem sc_Reader_one_let : FnScope n_Reader_one_let ["self"] (defScope s_Reader_one_let) := ⟨rfl, rfl, rfl, by decide +kernel, rfl, by decide +kernel, by decide +kernel⟩
def letF (l : Toks) : Except VF (Let × Toks) := (takeName l).bind fun x => (takeSign 61 x.2).bind fun m => (takeExpr 7 m).bind fun e => (takeSign 59 e.2).map fun m => (⟨x.1, e.1⟩, m)
def letD (x : Let) : D := .tup [.str (strB x.x.name), exprD x.e, Nd x.x.place]
def qLet : List D → Toks → Except VF (D × Toks) → Prop := fun ds l o => ds = [] ∧ o = (letF l).map fun x => (letD x.1, x.2)
abbrev RLet (P : Program) (w : World) (K : PySem.W.Frag) (mg : Str → Option Value) (base : Heap) (RC FC : Addr) : Prop := RX P w K mg base RC FC 21 "one_let" ["self"] qLet
theorem adv_takeExpr (n : Nat) {all l l' : Toks} {a : VExpr} (st : St all l) (h : takeExpr n l = .ok (a, l')) : St all l' ∧ l'.length ≤ l.length := by
  have := expr_eq n l
  rw [h] at this
  exact adv_expr n all l _ l' st this
theorem f_Reader_one_let (F : Ma K RC "one_let" "Reader.one_let" s_Reader_one_let) (c : RdC K RC) (hna : RName P w K mg base RC FC) (hwa : RWants P w K mg base RC FC) (hex : RX P w K mg base RC FC 20 "expression" ["self", "many"] (qExpr 7)) : RLet P w K mg base RC FC := by
  refine ma_mv F (fun _ _ _ _ _ _ us hl => match us, hl with | [_], _ => rfl) fun f fd F => fnX F sc_Reader_one_let (fun Γ r ⟨p, all, l, ds, o, e, _, ⟨e2, _⟩, _⟩ => by subst e; subst e2; rfl) ?_
  have nd := sc_Reader_one_let.nd
  rintro cdv A outer s H E _ _ hr ⟨p, all, l, ds, o, rfl, st, ⟨rfl, ho⟩, rfl⟩
  unfold letF at ho
  refine ss_cons (s_asg (js := [1, 2]) (w_rd0 hna c.c (hr.mono (by decide)) pcX rfl (by decide) st ⟨(takeName l).map fun x => (.tup [.str (strB x.1.name), Nd x.1.place], x.2), ⟨rfl, rfl⟩, ?_⟩))
  cases e1 : takeName l with
  | error f => rw [e1] at ho; subst ho; rfl
  | ok y =>
  obtain ⟨nm, l1⟩ := y
  rw [e1] at ho
  have st1 := (adv_name all l nm l1 st e1).1
  have ho : o = ((takeSign 61 l1).bind fun m => (takeExpr 7 m).bind fun e => (takeSign 59 e.2).map fun m => ((⟨nm, e.1⟩ : Let), m)).map fun x => (letD x.1, x.2) := ho
  refine (g1_tup rfl (gs_cons (gn 1 nd (gs_cons (gn 2 nd (gs_nil ?_))))))
  have wc := wants_sign (c := 61) st1.lt (by decide)
  refine ss_cons (s_expr (w_rd hwa c.c (hr.mono (by decide)) pcX rfl (by decide) (d_cons (w_str (d_nil ⟨l1, rfl, st1, _, ⟨strB [61], rfl, rfl⟩, ?_⟩)))))
  rw [wc]
  cases e2 : takeSign 61 l1 with
  | error f => rw [show (61 : UInt8).toNat = 61 from rfl, e2]; rw [e2] at ho; subst ho; rfl
  | ok l2 =>
  rw [show (61 : UInt8).toNat = 61 from rfl, e2]
  rw [e2] at ho
  have st2 := (adv_sign 61 all l1 l2 st1 e2).1
  have ho : o = ((takeExpr 7 l2).bind fun e => (takeSign 59 e.2).map fun m => ((⟨nm, e.1⟩ : Let), m)).map fun x => (letD x.1, x.2) := ho
  refine ss_cons (ss 3 nd (w_rd hex c.c (hr.mono (by decide)) pcX rfl (by decide) (d_cons (w_int (d_nil ⟨l2, rfl, st2, (takeExpr 7 l2).map enE, ⟨0, rfl, rfl, (expr_eq 7 l2).symm⟩, ?_⟩)))))
  cases e3 : takeExpr 7 l2 with
  | error f => rw [e3] at ho; subst ho; rfl
  | ok y =>
  obtain ⟨ex, l3⟩ := y
  rw [e3] at ho
  have st3 := (adv_takeExpr 7 st2 e3).1
  have ho : o = ((takeSign 59 l3).map fun m => ((⟨nm, ex⟩ : Let), m)).map fun x => (letD x.1, x.2) := ho
  have wc := wants_sign (c := 59) st3.lt (by decide)
  refine ss_cons (s_expr (w_rd hwa c.c (hr.mono (by decide)) pcX rfl (by decide) (d_cons (w_str (d_nil ⟨l3, rfl, st3, _, ⟨strB [59], rfl, rfl⟩, ?_⟩)))))
  rw [wc]
  cases e4 : takeSign 59 l3 with
  | error f => rw [show (59 : UInt8).toNat = 59 from rfl, e4]; rw [e4] at ho; subst ho; rfl
  | ok l4 =>
  rw [show (59 : UInt8).toNat = 59 from rfl, e4]
  rw [e4] at ho
  subst ho
  exact ss_one (s_ret (w_tup (d_cons (wv 1 rfl (d_cons (wv 3 rfl (d_cons (wv 2 rfl (d_nil ⟨len_le, finM (l' := l4) rfl rfl⟩)))))))))
/-! ### one_series -/
abbrev s_Reader_one_series : Stmt := inClass (top 57) 11
abbrev n_Reader_one_series : List Str := ["self", "name", "place", "points"]
theorem sc_Reader_one_series : FnScope n_Reader_one_series ["self"] (defScope s_Reader_one_series) := ⟨rfl, rfl, rfl, by decide +kernel, rfl, by decide +kernel, by decide +kernel⟩
def seriesF (l : Toks) : Except VF (Series × Toks) := (takeName l).bind fun x => (takeSign 123 x.2).bind fun m => (takePoints (m.length + 1) [] m).map fun p => (⟨x.1, p.1⟩, p.2)
def seriesD (x : Series) : D := .tup [.str (strB x.x.name), rowD x.row, Nd x.x.place]
def qSeries : List D → Toks → Except VF (D × Toks) → Prop := fun ds l o => ds = [] ∧ o = (seriesF l).map fun x => (seriesD x.1, x.2)
abbrev RSeries (P : Program) (w : World) (K : PySem.W.Frag) (mg : Str → Option Value) (base : Heap) (RC FC : Addr) : Prop := RX P w K mg base RC FC 7 "one_series" ["self"] qSeries
theorem takePoints_succ (n : Nat) (ps : List VPoint) (l : Toks) : takePoints (n + 1) ps l = if next (.sign 125) l = true then .ok (ps, l.drop 1) else if 16 ≤ ps.length then .error ⟨4, here l⟩ else (pointF ps l).bind fun x => takePoints n (ps ++ [x.1]) x.2 := by
  rw [takePoints]
  by_cases h1 : next (.sign 125) l = true
  · rw [if_pos h1, if_pos h1]
  rw [if_neg h1, if_neg h1]
  by_cases h2 : 16 ≤ ps.length
  · rw [if_pos h2, if_pos (show Vatmsa.POINTS ≤ ps.length from h2)]
  rw [if_neg h2, if_neg (show ¬ Vatmsa.POINTS ≤ ps.length from h2)]
  unfold pointF
  cases takeTime l with
  | error f => rfl
  | ok t =>
    show (if (ps.any fun p => decide (t.1 ≤ p.t)) = true then _ else _ : Except VF _) = Except.bind (if (ps.any fun p => decide (t.1 ≤ p.t)) = true then _ else _) _
    by_cases h3 : (ps.any fun p => decide (t.1 ≤ p.t)) = true
    · rw [if_pos h3, if_pos h3]; rfl
    rw [if_neg h3, if_neg h3]
    cases takeSign 58 t.2 with
    | error f => rfl
    | ok m =>
      show (takeValue m).bind _ = Except.bind ((takeValue m).bind _) _
      cases takeValue m with
      | error f => rfl
      | ok v =>
        show (takeSign 59 v.2).bind _ = Except.bind ((takeSign 59 v.2).map _) _
        cases takeSign 59 v.2 <;> rfl
theorem adv_point {row : List VPoint} {all l l' : Toks} {a : VPoint} (st : St all l) (h : pointF row l = .ok (a, l')) : St all l' ∧ l'.length < l.length ∧ ∀ q ∈ row, q.t < a.t := by
  unfold pointF at h
  obtain ⟨t, e1, h⟩ := bind_ok h
  split at h
  · cases h
  rename_i hb
  obtain ⟨m, e2, h⟩ := bind_ok h
  obtain ⟨v, e3, h⟩ := bind_ok h
  obtain ⟨r, e4, h⟩ := map_ok h
  have a1 := adv_time all l t.1 t.2 st e1
  have a2 := adv_sign 58 all t.2 m a1.1 e2
  have a3 := adv_value all m v.1 v.2 a2.1 e3
  have a4 := adv_sign 59 all v.2 r a3.1 e4
  cases h
  refine ⟨a4.1, by omega, fun q hq => ?_⟩
  show q.t < t.1
  have hb : (row.any fun q => decide (t.1 ≤ q.t)) = false := Bool.eq_false_iff.mpr hb
  rw [List.any_eq_false] at hb
  have := hb q hq
  simp at this
  exact this
theorem bak_two {Γ1 : En} {p C q : Addr} {fs fs' : List (Str × D)} {o : Ow} (i : Nat) (hi : i ≠ 0) (h : Γ1[0]? = some (.own p (.ins C fs))) (h2 : Γ1[i]? = some (.own q o)) : Bak Γ1 [Ag.o 0, Ag.o i] [.own p (.ins C fs'), .own q o] (Γ1.set 0 (.own p (.ins C fs'))) := by
  have hl : 0 < Γ1.length := by
    cases Γ1 with
    | nil => cases h
    | cons a r => exact Nat.succ_pos _
  refine ⟨List.length_set, fun j => ?_⟩
  by_cases hj : j = 0
  · subst hj; exact .inl ⟨0, p, .ins C fs', rfl, rfl, by rw [List.getElem?_set_self hl]⟩
  by_cases hji : j = i
  · subst hji; exact .inl ⟨1, q, o, rfl, rfl, by rw [List.getElem?_set_ne (Ne.symm hj)]; exact h2⟩
  refine .inr ⟨fun k hk => ?_, by rw [List.getElem?_set_ne (Ne.symm hj)]⟩
  match k, hk with
  | 0, hk => cases hk; exact hj rfl
  | 1, hk => cases hk; exact hji rfl
  | k + 2, hk => cases hk
theorem f_Reader_one_series (F : Ma K RC "one_series" "Reader.one_series" s_Reader_one_series) (c : RdC K RC) (T : FaultK P w K mg base FC) (hna : RName P w K mg base RC FC) (hwa : RWants P w K mg base RC FC) (hta : RTakes P w K mg base RC FC) (hnp : RNext P w K mg base RC FC) (hpo : Mv P w K mg base (L2.CX P w) 6 RC "point" ["self", "points"] (RPoint RC FC)) (nlen : mg "len" = none) (gP : Glo K mg "MOST_POINTS" (.int 16)) : RSeries P w K mg base RC FC := by
  refine ma_mv F (fun _ _ _ _ _ _ us hl => match us, hl with | [_], _ => rfl) fun f fd F => fnX F sc_Reader_one_series (fun Γ r ⟨p, all, l, ds, o, e, _, ⟨e2, _⟩, _⟩ => by subst e; subst e2; rfl) ?_
  have nd := sc_Reader_one_series.nd
  rintro cdv A outer s H E _ _ hr ⟨p, all, l, ds, o, rfl, st, ⟨rfl, ho⟩, rfl⟩
  have hz : sizeLine = 16777216 := sizeLine_eq
  unfold seriesF at ho
  refine ss_cons (s_asg (js := [1, 2]) (w_rd0 hna c.c (hr.mono (by decide)) pcX rfl (by decide) st ⟨(takeName l).map fun x => (.tup [.str (strB x.1.name), Nd x.1.place], x.2), ⟨rfl, rfl⟩, ?_⟩))
  cases e1 : takeName l with
  | error f => rw [e1] at ho; subst ho; rfl
  | ok y =>
  obtain ⟨nm, l1⟩ := y
  rw [e1] at ho
  have st1 := (adv_name all l nm l1 st e1).1
  have ho : o = ((takeSign 123 l1).bind fun m => (takePoints (m.length + 1) [] m).map fun p => ((⟨nm, p.1⟩ : Series), p.2)).map fun x => (seriesD x.1, x.2) := ho
  refine (g1_tup rfl (gs_cons (gn 1 nd (gs_cons (gn 2 nd (gs_nil ?_))))))
  have wc := wants_sign (c := 123) st1.lt (by decide)
  refine ss_cons (s_expr (w_rd hwa c.c (hr.mono (by decide)) pcX rfl (by decide) (d_cons (w_str (d_nil ⟨l1, rfl, st1, _, ⟨strB [123], rfl, rfl⟩, ?_⟩)))))
  rw [wc]
  cases e2 : takeSign 123 l1 with
  | error f => rw [show (123 : UInt8).toNat = 123 from rfl, e2]; rw [e2] at ho; subst ho; rfl
  | ok l2 =>
  rw [show (123 : UInt8).toNat = 123 from rfl, e2]
  rw [e2] at ho
  have st2 := (adv_sign 123 all l1 l2 st1 e2).1
  have ho : o = ((takePoints (l2.length + 1) [] l2).map fun p => ((⟨nm, p.1⟩ : Series), p.2)).map fun x => (seriesD x.1, x.2) := ho
  refine ss_cons (ssN 3 nd (w_lst (d_nil ⟨len_le, fun q => ?_⟩)))
  refine ss_cons (s_while _ (passes_of rfl) (while_m (fun (u : List VPoint × Toks) => [.own p (rdr RC all u.2), .im (.str (strB nm.name)), .im (Nd nm.place), .own q (.lst (u.1.map ptD))]) (fun u => u.2.length)
    (fun u => St all u.2 ∧ u.1.length ≤ 16 ∧ u.1.Pairwise (fun a b => a.t < b.t) ∧ ∃ n, u.2.length < n ∧ o = ((takePoints n u.1 u.2).map fun p => ((⟨nm, p.1⟩ : Series), p.2)).map fun x => (seriesD x.1, x.2)) ?_ ([], l2) ⟨st2, Nat.zero_le _, .nil, _, Nat.lt_succ_self _, ho⟩))
  clear ho
  rintro ⟨row, m⟩ k ⟨st3, h1, h2, n, hn, ho⟩ ih
  have st3 : St all m := st3
  have h1 : row.length ≤ 16 := h1
  have h2 : row.Pairwise (fun a b => a.t < b.t) := h2
  have hn : m.length < n := hn
  obtain ⟨n, rfl⟩ : ∃ k, n = k + 1 := ⟨n - 1, by omega⟩
  have ho : o = ((takePoints (n + 1) row m).map fun p => ((⟨nm, p.1⟩ : Series), p.2)).map fun x => (seriesD x.1, x.2) := ho
  rw [takePoints_succ] at ho
  have sb : stB (Str.ofString "}") m = next (.sign 125) m := stB_sign (c := 125) st3.lt (by decide)
  refine (t_not (t_val (w_rd hta c.c (hr.mono (by decide)) pass rfl (by decide) (d_cons (w_str (d_nil ⟨m, rfl, st3, _, ⟨_, rfl, rfl⟩, _, rfl, ⟨fun hF => ?_, fun hT => ?_⟩⟩))))))
  · rw [sb] at hF
    have e : next (.sign 125) m = true := by simpa using hF
    rw [if_pos e] at ho
    subst ho
    rw [sb, e]
    refine ss_one (s_ret (w_tup (d_cons (wv 1 rfl (d_cons (wg 3 rfl (d_cons (wv 2 rfl (d_nil ⟨len_le, finM (l' := m.drop 1) rfl rfl⟩)))))))))
  rw [sb] at hT
  have e : next (.sign 125) m = false := by simpa using hT
  rw [if_neg (by rw [e]; decide)] at ho
  rw [sb, e]
  refine ss_cons (s_if (t_cmp (w_see 3 rfl (w_callB rfl nlen boot_len (d_cons (wv 3 rfl (d_nil ⟨_, c_lenL, .int _, (w_glob gP rfl ⟨_, o_eqI, ⟨fun hT => ?_, fun hF => ss_nil ?_⟩⟩)⟩)))))))
  · have hT : (((row.map ptD).length : Nat) : Int) = 16 := of_decide_eq_true hT
    rw [List.length_map] at hT
    rw [if_pos (by omega)] at ho
    subst ho
    exact ss_one (s_raise T (takes_of rfl rfl rfl rfl) (hr.mono (by decide)) rfl pass (d_cons (w_int (d_cons (w_rd0 hnp c.c (hr.mono (by decide)) pass rfl (by decide) st3 ⟨_, ⟨rfl, rfl⟩, (d_nil ⟨[4, (here m : Nat)], rfl, rfl, by decide, rfl⟩)⟩)))))
  · have hF : ¬ (((row.map ptD).length : Nat) : Int) = 16 := of_decide_eq_false hF
    rw [List.length_map] at hF
    rw [if_neg (by omega)] at ho
    refine ss_one (s_append 3 rfl (.inl rfl) rfl (w_meth 0 hpo c.c (hr.mono (Nat.le_refl _)) pcX rfl (.inl rfl) rfl rfl (g_own 3 rfl (.inl rfl) rfl (g_nil ⟨⟨_, _, rfl⟩, ⟨_, _, rfl⟩, fun j k i' hj hk => ?_, _, ⟨p, q, all, m, row, _, rfl, st3, h1, h2, rfl, rfl⟩, ?_⟩))))
    · match j, k, hj, hk with
      | 0, 0, _, _ => rfl
      | 1, 1, _, _ => rfl
      | 0, 1, hj, hk => cases hj; cases hk
      | 1, 0, hj, hk => cases hj; cases hk
      | j + 2, _, hj, _ => cases hj
      | 0, k + 2, _, hk => cases hk
      | 1, k + 2, _, hk => cases hk
    cases e3 : pointF row m with
    | error f => rw [e3] at ho; subst ho; rfl
    | ok y =>
    obtain ⟨pt, m2⟩ := y
    rw [e3] at ho
    obtain ⟨st4, hl4, hq4⟩ := adv_point st3 e3
    refine ⟨_, bak_two 3 (by decide) rfl rfl, _, rfl, by rw [List.length_map]; omega, ?_⟩
    have := ih (row ++ [pt], m2) ⟨st4, by show (row ++ [pt]).length ≤ 16; rw [List.length_append]; show row.length + 1 ≤ 16; omega, ?_, n, by show m2.length < n; omega, ho⟩ hl4
    · rw [List.map_append] at this
      exact this
    · rw [List.pairwise_append]
      exact ⟨h2, List.pairwise_singleton _ _, fun a ha b hb => by rw [List.mem_singleton.mp hb]; exact hq4 a ha⟩
end
end Fp

set_option Elab.async false
set_option linter.all false
set_option maxRecDepth 100000
set_option maxHeartbeats 2000000
namespace Fp
open PySem PySem.Spec PyProof.Rows L2 Dl
open VatmsBase (Bytes word PTok Toks Frac frac whole wrong here next nextWord taken takeWord takeSign takeName PName RESERVED)
open Vatmsa (takeTime takeFrac takeValue takeExpr takePoints takeLets takeSeries placeNum Series Let Prog)
def progD (PC : Addr) (pr : Prog) : D := .ins PC [("series", .lst (pr.ins.map seriesD)), ("lets", .lst (pr.lets.map letD))]
def progF (l : Toks) : Except VF Prog := (takeSeries (l.length + 1) [] l).bind fun s => (takeLets (l.length + 1) [] s.2).map fun ls => ⟨s.1, ls⟩
def pMake2 (C : Addr) (f1 f2 : Str) : En → Res → Prop := fun Γ r => ∃ p a b, Γ = [.own p (.ins C []), .im a, .im b] ∧ r = .ok .non [.own p (.ins C [(f1, a), (f2, b)]), .im a, .im b]
def RProgram (RC FC PC : Addr) : En → Res → Prop := fun Γ r => ∃ p all o, Γ = [.own p (rdr RC all all)] ∧ St all all ∧ o = progF all ∧ r = match o with
  | .ok pr => .ok (progD PC pr) [.own p (rdr RC all (all.drop (all.length - 1)))]
  | .error f => .ex FC (faultF f.code f.place)
theorem takeSeries_succ (n : Nat) (ss : List Series) (l : Toks) : takeSeries (n + 1) ss l = if nextWord "series" l = true then (if 4 ≤ ss.length then .error ⟨4, here l⟩ else (seriesF (l.drop 1)).bind fun x => takeSeries n (ss ++ [x.1]) x.2) else .ok (ss, l) := by
  rw [takeSeries]
  by_cases h1 : nextWord "series" l = true
  · rw [if_pos h1, if_pos h1]
    by_cases h2 : 4 ≤ ss.length
    · rw [if_pos h2, if_pos (show Vatmsa.SERIES ≤ ss.length from h2)]
    rw [if_neg h2, if_neg (show ¬ Vatmsa.SERIES ≤ ss.length from h2)]
    unfold seriesF
    cases takeName (l.drop 1) with
    | error f => rfl
    | ok x =>
      show (takeSign 123 x.2).bind _ = Except.bind ((takeSign 123 x.2).bind _) _
      cases takeSign 123 x.2 with
      | error f => rfl
      | ok m =>
        show (takePoints (m.length + 1) [] m).bind _ = Except.bind ((takePoints (m.length + 1) [] m).map _) _
        cases takePoints (m.length + 1) [] m <;> rfl
  · rw [if_neg h1, if_neg h1]
theorem takeLets_succ (n : Nat) (ls : List Let) (l : Toks) : takeLets (n + 1) ls l = if next .last l = true then .ok ls else if nextWord "let" l = true then (if 8 ≤ ls.length then .error ⟨4, here l⟩ else (letF (l.drop 1)).bind fun x => takeLets n (ls ++ [x.1]) x.2) else wrong l := by
  rw [takeLets]
  by_cases h1 : next .last l = true
  · rw [if_pos h1, if_pos h1]
  rw [if_neg h1, if_neg h1]
  unfold takeWord taken
  by_cases h2 : nextWord "let" l = true
  · rw [if_pos h2, if_pos (show next (.name (word "let")) l = true from h2)]
    show (if Vatmsa.LETS ≤ ls.length then _ else _ : Except VF (List Let)) = _
    by_cases h3 : 8 ≤ ls.length
    · rw [if_pos h3, if_pos (show Vatmsa.LETS ≤ ls.length from h3)]
    rw [if_neg h3, if_neg (show ¬ Vatmsa.LETS ≤ ls.length from h3)]
    unfold letF
    cases takeName (l.drop 1) with
    | error f => rfl
    | ok x =>
      show (takeSign 61 x.2).bind _ = Except.bind ((takeSign 61 x.2).bind _) _
      cases takeSign 61 x.2 with
      | error f => rfl
      | ok m =>
        show (takeExpr 7 m).bind _ = Except.bind ((takeExpr 7 m).bind _) _
        cases takeExpr 7 m with
        | error f => rfl
        | ok e =>
          show (takeSign 59 e.2).bind _ = Except.bind ((takeSign 59 e.2).map _) _
          cases takeSign 59 e.2 <;> rfl
  · rw [if_neg h2, if_neg (show ¬ next (.name (word "let")) l = true from h2)]
    rfl
theorem adv_points : ∀ (n : Nat) (row : List VPoint) (all l l' : Toks) (r : List VPoint), St all l → takePoints n row l = .ok (r, l') → St all l' ∧ l'.length ≤ l.length
  | 0, row, all, l, l', r, st, h => by cases h
  | n + 1, row, all, l, l', r, st, h => by
    rw [takePoints_succ] at h
    split at h
    · rename_i hn
      cases h
      have := adv_taken (t := .sign 125) (by intro z; cases z) all l (l.drop 1) st (by unfold taken; rw [if_pos hn])
      exact ⟨this.1, Nat.le_of_lt this.2⟩
    split at h
    · cases h
    obtain ⟨x, e, h⟩ := bind_ok h
    obtain ⟨a1, a2, _⟩ := adv_point st e
    have := adv_points n _ all x.2 l' r a1 h
    exact ⟨this.1, by omega⟩
theorem adv_series {all l l' : Toks} {a : Series} (st : St all l) (h : seriesF l = .ok (a, l')) : St all l' ∧ l'.length ≤ l.length := by
  unfold seriesF at h
  obtain ⟨x, e1, h⟩ := bind_ok h
  obtain ⟨m, e2, h⟩ := bind_ok h
  obtain ⟨p, e3, h⟩ := map_ok h
  have a1 := adv_name all l x.1 x.2 st e1
  have a2 := adv_sign 123 all x.2 m a1.1 e2
  have a3 := adv_points _ _ all m p.2 p.1 a2.1 e3
  cases h
  exact ⟨a3.1, by omega⟩
theorem adv_let {all l l' : Toks} {a : Let} (st : St all l) (h : letF l = .ok (a, l')) : St all l' ∧ l'.length ≤ l.length := by
  unfold letF at h
  obtain ⟨x, e1, h⟩ := bind_ok h
  obtain ⟨m, e2, h⟩ := bind_ok h
  obtain ⟨e, e3, h⟩ := bind_ok h
  obtain ⟨r, e4, h⟩ := map_ok h
  have a1 := adv_name all l x.1 x.2 st e1
  have a2 := adv_sign 61 all x.2 m a1.1 e2
  have a3 := adv_takeExpr 7 (all := all) a2.1 (show takeExpr 7 m = .ok (e.1, e.2) from e3)
  have a4 := adv_sign 59 all e.2 r a3.1 e4
  cases h
  exact ⟨a4.1, by omega⟩
theorem st_last {all l : Toks} (st : St all l) (h : next .last l = true) : l = all.drop (all.length - 1) := by
  obtain ⟨init, q, e, hn⟩ := st.lt.last
  obtain ⟨k, hk⟩ := st.suf
  cases init with
  | cons t init =>
    rw [e] at h
    have h : VatmsBase.tokEq t.tok .last = true := h
    have := hn t List.mem_cons_self
    revert h this
    cases t.tok <;> intro h this <;> first | exact (this rfl).elim | cases h
  | nil =>
    have : l.length = 1 := by rw [e]; rfl
    rw [hk, List.length_drop] at this
    rw [hk]
    congr 1
    omega
section
variable {P : Program} {w : World} {K : PySem.W.Frag} {mg : Str → Option Value} {base : Heap} {RC FC PC : Addr}
abbrev s_Program___init__ : Stmt := inClass (top 51) 0
abbrev n_Program___init__ : List Str := ["self", "series", "lets"]
abbrev s_Reader_program : Stmt := inClass (top 57) 15
abbrev n_Reader_program : List Str := ["self", "series", "lets"]
theorem sc_Reader_program : FnScope n_Reader_program ["self"] (defScope s_Reader_program) := ⟨rfl, rfl, rfl, by decide +kernel, rfl, by decide +kernel, by decide +kernel⟩
theorem f_Reader_program (F : Ma K RC "program" "Reader.program" s_Reader_program) (c : RdC K RC) (T : FaultK P w K mg base FC) (hst : RN P w K mg base RC FC 1 "stands" ["self", "what"] qStands) (hwa : RWants P w K mg base RC FC) (hnp : RNext P w K mg base RC FC) (hse : RSeries P w K mg base RC FC) (hle : RLet P w K mg base RC FC) (hmk : Mkv P w K mg base 1 "Program" PC ["self", "series", "lets"] (pMake2 PC "series" "lets"))
    (nlen : mg "len" = none) (gS : Glo K mg "MOST_SERIES" (.int 4)) (gL : Glo K mg "MOST_LETS" (.int 8)) : Mv P w K mg base (L2.CX P w) 22 RC "program" ["self"] (RProgram RC FC PC) := by
  refine ma_mv F (fun _ _ _ _ _ _ us hl => match us, hl with | [_], _ => rfl) fun f fd F => fnX F sc_Reader_program (fun Γ r ⟨p, all, o, e, _⟩ => by subst e; rfl) ?_
  have nd := sc_Reader_program.nd
  rintro cdv A outer s H E _ _ hr ⟨p, all, o, rfl, st, ho, rfl⟩
  have hz : sizeLine = 16777216 := sizeLine_eq
  have hal := st.len
  unfold progF at ho
  refine ss_cons (ssN 1 nd (w_lst (d_nil ⟨len_le, fun q1 => ?_⟩)))
  refine ss_cons (ssN 2 nd (w_lst (d_nil ⟨len_le, fun q2 => ?_⟩)))
  refine ss_cons (s_while _ (passes_of rfl) (while_m (fun (u : List Series × Toks) => [.own p (rdr RC all u.2), .own q1 (.lst (u.1.map seriesD)), .own q2 (.lst [])]) (fun u => u.2.length)
    (fun u => St all u.2 ∧ u.1.length ≤ 4 ∧ ∃ n, u.2.length < n ∧ o = (takeSeries n u.1 u.2).bind fun s => (takeLets (all.length + 1) [] s.2).map fun ls => (⟨s.1, ls⟩ : Prog)) ?_ ([], all) ⟨st, Nat.zero_le _, _, Nat.lt_succ_self _, ho⟩))
  clear ho
  rintro ⟨ss, m⟩ k ⟨st1, h1, n, hn, ho⟩ ih
  have st1 : St all m := st1
  have h1 : ss.length ≤ 4 := h1
  have hn : m.length < n := hn
  obtain ⟨n, rfl⟩ : ∃ k, n = k + 1 := ⟨n - 1, by omega⟩
  have ho : o = (takeSeries (n + 1) ss m).bind fun s => (takeLets (all.length + 1) [] s.2).map fun ls => (⟨s.1, ls⟩ : Prog) := ho
  rw [takeSeries_succ] at ho
  have sb : stB (Str.ofString "series") m = nextWord "series" m := by rw [lit_series]; exact stB_word (.inr st1.lt) (by decide)
  refine (t_val (w_rd hst c.c (hr.mono (by decide)) pass rfl (by decide) (d_cons (w_str (d_nil ⟨m, rfl, st1, _, ⟨_, rfl, rfl⟩, _, rfl, ⟨fun hF => ?_, fun hT => ?_⟩⟩)))))
  · -- the lets
    rw [sb] at hF
    rw [if_neg (by rw [hF]; decide)] at ho
    have ho : o = (takeLets (all.length + 1) [] m).map fun ls => (⟨ss, ls⟩ : Prog) := ho
    refine ss_cons (s_while _ (passes_of rfl) (while_m (fun (u : List Let × Toks) => [.own p (rdr RC all u.2), .own q1 (.lst (ss.map seriesD)), .own q2 (.lst (u.1.map letD))]) (fun u => u.2.length)
      (fun u => St all u.2 ∧ u.1.length ≤ 8 ∧ ∃ n, u.2.length < n ∧ o = (takeLets n u.1 u.2).map fun ls => (⟨ss, ls⟩ : Prog)) ?_ ([], m) ⟨st1, Nat.zero_le _, _, Nat.lt_succ_of_le st1.le, ho⟩))
    clear ho ih
    rintro ⟨ls, m2⟩ k ⟨st2, h2, n2, hn2, ho⟩ ih
    have st2 : St all m2 := st2
    have h2 : ls.length ≤ 8 := h2
    have hn2 : m2.length < n2 := hn2
    obtain ⟨n2, rfl⟩ : ∃ k, n2 = k + 1 := ⟨n2 - 1, by omega⟩
    have ho : o = (takeLets (n2 + 1) ls m2).map fun ls => (⟨ss, ls⟩ : Prog) := ho
    rw [takeLets_succ] at ho
    have sb2 : stB (Str.ofString "let") m2 = nextWord "let" m2 := by rw [lit_let]; exact stB_word (.inr st2.lt) (by decide)
    refine (t_val (w_rd hst c.c (hr.mono (by decide)) pass rfl (by decide) (d_cons (w_str (d_nil ⟨m2, rfl, st2, _, ⟨_, rfl, rfl⟩, _, rfl, ⟨fun hF => ?_, fun hT => ?_⟩⟩)))))
    · rw [sb2] at hF
      rw [if_neg (show ¬ nextWord "let" m2 = true by rw [hF]; decide)] at ho
      obtain ⟨t, r, rfl⟩ := st2.lt.cons
      have en : ∃ (so : Str) (rest : List D), tokD t = .tup (.str so :: rest) ∧ (so = "end" ↔ next .last (t :: r) = true) := by
        obtain ⟨q, kk⟩ := t
        cases kk with
        | name b => exact ⟨_, _, rfl, fun h => absurd h (by decide), fun h => by cases h⟩
        | num n => exact ⟨_, _, rfl, fun h => absurd h (by decide), fun h => by cases h⟩
        | sign n => exact ⟨_, _, rfl, fun h => absurd h (by decide), fun h => by cases h⟩
        | last => exact ⟨_, _, rfl, fun _ => rfl, fun _ => rfl⟩
      obtain ⟨so, rest, e1, e2⟩ := en
      refine ss_cons (s_if (t_cmp (w_ix (w_tok c rfl st2 rfl ?_))))
      rw [e1]
      refine (w_int ⟨_, (ix2_tup at0), (w_str ⟨_, o_neS, ⟨fun hT => ?_, fun hF => ss_nil ?_⟩⟩)⟩)
      · have hT : ¬ so = "end" := by simpa using hT
        rw [if_neg (fun z => hT (e2.mpr z))] at ho
        subst ho
        exact ss_one (s_raise T (takes_of rfl rfl rfl rfl) (hr.mono (by decide)) rfl pass (d_cons (w_int (d_cons (w_rd0 hnp c.c (hr.mono (by decide)) pass rfl (by decide) st2 ⟨_, ⟨rfl, rfl⟩, (d_nil ⟨[3, (here (t :: r) : Nat)], rfl, rfl, by decide, rfl⟩)⟩)))))
      · have hF : so = "end" := by simpa using hF
        have hl := e2.mp hF
        rw [if_pos hl] at ho
        subst ho
        rw [st_last st2 hl]
        refine ss_one (s_ret (w_new (w_make hmk (hr.mono (by decide)) rfl pass (d_cons (wg 1 rfl (d_cons (wg 2 rfl (d_nil ⟨[("series", .lst (ss.map seriesD)), ("lets", .lst (ls.map letD))], fun p => ⟨p, _, _, rfl, rfl⟩, ?_⟩))))))))
        refine ⟨_, rfl, rfl, fun k s hk => ?_⟩
        cases k with
        | zero => cases hk; exact .inr (.inr ⟨p, _, _, rfl, rfl, rfl⟩)
        | succ k => cases hk
    · rw [sb2] at hT
      have nl : ¬ next .last m2 = true := by
        obtain ⟨⟨q, kk⟩, r, rfl⟩ := st2.lt.cons
        cases kk with
        | last => cases hT
        | _ => exact fun h => by cases h
      rw [if_neg nl, if_pos hT] at ho
      refine ss_cons (s_if (t_cmp (w_see 2 rfl (w_callB rfl nlen boot_len (d_cons (wv 2 rfl (d_nil ⟨_, c_lenL, .int _, (w_glob gL rfl ⟨_, o_eqI, ⟨fun hT => ?_, fun hF => ss_nil ?_⟩⟩)⟩)))))))
      · have hT : (((ls.map letD).length : Nat) : Int) = 8 := of_decide_eq_true hT
        rw [List.length_map] at hT
        rw [if_pos (by omega)] at ho
        subst ho
        exact ss_one (s_raise T (takes_of rfl rfl rfl rfl) (hr.mono (by decide)) rfl pass (d_cons (w_int (d_cons (w_rd0 hnp c.c (hr.mono (by decide)) pass rfl (by decide) st2 ⟨_, ⟨rfl, rfl⟩, (d_nil ⟨[4, (here m2 : Nat)], rfl, rfl, by decide, rfl⟩)⟩)))))
      · have hF : ¬ (((ls.map letD).length : Nat) : Int) = 8 := of_decide_eq_false hF
        rw [List.length_map] at hF
        rw [if_neg (by omega)] at ho
        have st3 := adv_taken (t := .name (word "let")) (by intro z; cases z) all m2 (m2.drop 1) st2 (by unfold taken; rw [if_pos (show next (.name (word "let")) m2 = true from hT)])
        refine ss_cons (s_expr (w_rd hwa c.c (hr.mono (by decide)) pcX rfl (by decide) (d_cons (w_str (d_nil ⟨m2, rfl, st2, .ok (.non, m2.drop 1), ⟨_, rfl, by rw [sb2, if_pos hT]⟩, ?_⟩)))))
        refine ss_one (s_append 2 rfl (.inl rfl) rfl (w_rd0 hle c.c (hr.mono (by decide)) pcX rfl (by decide) st3.1 ⟨(letF (m2.drop 1)).map fun x => (letD x.1, x.2), ⟨rfl, rfl⟩, ?_⟩))
        cases e3 : letF (m2.drop 1) with
        | error f => rw [e3] at ho; subst ho; rfl
        | ok y =>
        obtain ⟨x, m3⟩ := y
        rw [e3] at ho
        have st4 := adv_let st3.1 e3
        refine ⟨_, rfl, by rw [List.length_map]; show ls.length < _; omega, ?_⟩
        have lt := st3.2
        have := ih (ls ++ [x], m3) ⟨st4.1, by show (ls ++ [x]).length ≤ 8; rw [List.length_append]; show ls.length + 1 ≤ 8; omega, n2, by show m3.length < n2; omega, ho⟩ (by show m3.length < m2.length; omega)
        rw [List.map_append] at this
        exact this
  · rw [sb] at hT
    rw [if_pos hT] at ho
    refine ss_cons (s_if (t_cmp (w_see 1 rfl (w_callB rfl nlen boot_len (d_cons (wv 1 rfl (d_nil ⟨_, c_lenL, .int _, (w_glob gS rfl ⟨_, o_eqI, ⟨fun hT => ?_, fun hF => ss_nil ?_⟩⟩)⟩)))))))
    · have hT : (((ss.map seriesD).length : Nat) : Int) = 4 := of_decide_eq_true hT
      rw [List.length_map] at hT
      rw [if_pos (by omega)] at ho
      subst ho
      exact ss_one (s_raise T (takes_of rfl rfl rfl rfl) (hr.mono (by decide)) rfl pass (d_cons (w_int (d_cons (w_rd0 hnp c.c (hr.mono (by decide)) pass rfl (by decide) st1 ⟨_, ⟨rfl, rfl⟩, (d_nil ⟨[4, (here m : Nat)], rfl, rfl, by decide, rfl⟩)⟩)))))
    · have hF : ¬ (((ss.map seriesD).length : Nat) : Int) = 4 := of_decide_eq_false hF
      rw [List.length_map] at hF
      rw [if_neg (by omega)] at ho
      have st3 := adv_taken (t := .name (word "series")) (by intro z; cases z) all m (m.drop 1) st1 (by unfold taken; rw [if_pos (show next (.name (word "series")) m = true from hT)])
      refine ss_cons (s_expr (w_rd hwa c.c (hr.mono (by decide)) pcX rfl (by decide) (d_cons (w_str (d_nil ⟨m, rfl, st1, .ok (.non, m.drop 1), ⟨_, rfl, by rw [sb, if_pos hT]⟩, ?_⟩)))))
      refine ss_one (s_append 1 rfl (.inl rfl) rfl (w_rd0 hse c.c (hr.mono (by decide)) pcX rfl (by decide) st3.1 ⟨(seriesF (m.drop 1)).map fun x => (seriesD x.1, x.2), ⟨rfl, rfl⟩, ?_⟩))
      cases e3 : seriesF (m.drop 1) with
      | error f => rw [e3] at ho; subst ho; rfl
      | ok y =>
      obtain ⟨x, m3⟩ := y
      rw [e3] at ho
      have st4 := adv_series st3.1 e3
      refine ⟨_, rfl, by rw [List.length_map]; show ss.length < _; omega, ?_⟩
      have lt := st3.2
      have := ih (ss ++ [x], m3) ⟨st4.1, by show (ss ++ [x]).length ≤ 4; rw [List.length_append]; show ss.length + 1 ≤ 4; omega, n, by show m3.length < n; omega, ho⟩ (by show m3.length < m.length; omega)
      rw [List.map_append] at this
      exact this
end
end Fp

set_option Elab.async false
set_option linter.all false
set_option maxRecDepth 100000
set_option maxHeartbeats 2000000
namespace Fp
open PySem PySem.Spec PyProof.Rows L2 Dl
open VatmsBase (Bytes word PTok Toks Frac frac whole wrong here next nextWord)
open Vatmsa (Series Let Prog)
/-- a class of the text, its __init__ a def of the text -/
structure Mf (K : PySem.W.Frag) (mg : Str → Option Value) (x : Str) (C : Addr) (qual : Str) (st : Stmt) : Prop where
  ex : ∃ f fd, mg x = some (.ref C) ∧ Mk K C f ∧ Fun K "__init__" qual st f fd
theorem mf_mkv {P : Program} {w : World} {K : PySem.W.Frag} {mg : Str → Option Value} {base : Heap} {k : Nat} {C : Addr} {x qual : Str} {st : Stmt} {ps : List Str} {pre : En → Res → Prop} (F : Mf K mg x C qual st)
    (b : ∀ (kV doc pm : Value) (an : Option Addr) (cdv ct : Value) (us : List Value), us.length = ps.length → bindArgs (PySem.W.fnOf "__init__" qual (defArgs st) (defBody st) (defScope st) .none kV doc pm an cdv ct) ⟨us, []⟩ = pure (ps.zip us))
    (h : ∀ f fd, Fun K "__init__" qual st f fd → FnOk P w K mg base CX0 k f fd ps (Cg K pre)) : Mkv P w K mg base k x C ps pre := by
  obtain ⟨f, fd, hm, M, F⟩ := F.ex
  exact ⟨f, fd, hm, M, F.binds b, h f fd F⟩
section
variable {P : Program} {w : World} {K : PySem.W.Frag} {mg : Str → Option Value} {base : Heap} {RC FC PC : Addr}
theorem sc_Program___init__ : FnScope n_Program___init__ ["self", "series", "lets"] (defScope s_Program___init__) := ⟨rfl, rfl, rfl, by decide +kernel, rfl, by decide +kernel, by decide +kernel⟩
theorem fin_own {p C : Addr} {fs fs' : List (Str × D)} {ds : List D} {Γ' : En} (h : Γ'[0]? = some (.own p (.ins C fs'))) : FinR (.own p (.ins C fs) :: ds.map Sl.im) (.ok .non (.own p (.ins C fs') :: ds.map Sl.im)) .non Γ' := by
  refine ⟨_, rfl, by simp, fun k s hk => ?_⟩
  cases k with
  | zero => cases hk; exact .inr (.inr ⟨p, _, _, rfl, h, rfl⟩)
  | succ k =>
    rw [List.getElem?_cons_succ, List.getElem?_map] at hk
    cases e : ds[k]? with
    | none => rw [e] at hk; cases hk
    | some d0 =>
      rw [e] at hk; cases hk
      exact .inr (.inl ⟨d0, rfl, by rw [List.getElem?_cons_succ, List.getElem?_map, e] <;> rfl⟩)
theorem f_Program_init (F : Mf K mg "Program" PC "Program.__init__" s_Program___init__) (c : Cls K PC) (n1 : NoAttr K PC "series") (n2 : NoAttr K PC "lets") : Mkv P w K mg base 1 "Program" PC ["self", "series", "lets"] (pMake2 PC "series" "lets") := by
  refine mf_mkv F (fun _ _ _ _ _ _ us hl => match us, hl with | [_, _, _], _ => rfl) fun f fd F => fn0 F sc_Program___init__ (fun Γ r ⟨p, a, b, e, _⟩ => by subst e; rfl) ?_
  rintro cdv A outer s H E _ _ hr ⟨p, a, b, rfl, rfl⟩
  refine ss_cons (s_fld 0 rfl (.inl rfl) c n1 (wv 1 rfl ⟨_, rfl, by decide, ?_⟩))
  refine ss_one (s_fld 0 rfl (.inl rfl) c n2 (wv 2 rfl ⟨_, rfl, by show (1 : Nat) < 1000; decide, ?_⟩))
  exact fin_own (ds := [a, b]) rfl
abbrev s_Reader___init__ : Stmt := inClass (top 57) 0
abbrev n_Reader___init__ : List Str := ["self", "tokens"]
theorem sc_Reader___init__ : FnScope n_Reader___init__ ["self", "tokens"] (defScope s_Reader___init__) := ⟨rfl, rfl, rfl, by decide +kernel, rfl, by decide +kernel, by decide +kernel⟩
def pReader (RC : Addr) : En → Res → Prop := fun Γ r => ∃ p a, Γ = [.own p (.ins RC []), .im a] ∧ r = .ok .non [.own p (.ins RC [("tokens", a), ("at", .int 0)]), .im a]
theorem f_Reader_init (F : Mf K mg "Reader" RC "Reader.__init__" s_Reader___init__) (c : RdC K RC) : Mkv P w K mg base 1 "Reader" RC ["self", "tokens"] (pReader RC) := by
  refine mf_mkv F (fun _ _ _ _ _ _ us hl => match us, hl with | [_, _], _ => rfl) fun f fd F => fn0 F sc_Reader___init__ (fun Γ r ⟨p, a, e, _⟩ => by subst e; rfl) ?_
  rintro cdv A outer s H E _ _ hr ⟨p, a, rfl, rfl⟩
  refine ss_cons (s_fld 0 rfl (.inl rfl) c.c c.nt (wv 1 rfl ⟨_, rfl, by decide, ?_⟩))
  refine ss_one (s_fld 0 rfl (.inl rfl) c.c c.na (w_int ⟨_, rfl, by show (1 : Nat) < 1000; decide, ?_⟩))
  exact fin_own (ds := [a]) rfl
end
end Fp

set_option Elab.async false
set_option linter.all false
set_option maxRecDepth 100000
set_option maxHeartbeats 2000000
/-! Texts shown. -/
namespace Fp
open PySem PySem.Spec PyProof.Rows L2 Dl
open VatmsBase (Bytes word PTok Toks Frac frac whole wrong here next nextWord showNat showInt)
open Vatmsa (Series Let Prog showFrac showValue showExpr fillWord overWord pairWord call2 line shown)
theorem digit_small {n : Nat} : ∀ c ∈ Nat.toDigits 10 n, c.toNat < 128 ∧ 48 ≤ c.toNat := by
  intro c hc
  have := Nat.isDigit_of_mem_toDigits (by decide) (by decide) hc
  unfold Char.isDigit at this
  simp at this
  have h1 : c.val.toNat ≤ 57 := this.2
  have h2 : 48 ≤ c.val.toNat := this.1
  exact ⟨by show c.val.toNat < 128; omega, h2⟩
theorem ascii_word {l : List Char} (h : ∀ c ∈ l, c.toNat < 128) : Str.ofString (String.ofList l) = strB (l.map fun c => UInt8.ofNat c.toNat) := by
  apply str_ext
  rw [strB_cps, Str.ofString_eq_toList, List.map_map]
  simp
  intro c hc
  have := h c hc
  show c.toNat = c.toNat % 256
  omega
theorem str_nat (n : Nat) : Str.ofString (toString n) = strB (showNat n) := by
  have : toString n = String.ofList (Nat.toDigits 10 n) := rfl
  rw [this, ascii_word fun c hc => (digit_small c hc).1]
  rfl
theorem str_int (i : Int) : Str.ofString (toString i) = strB (showInt i) := by
  cases i with
  | ofNat n =>
    have e : toString (Int.ofNat n) = toString n := rfl
    rw [e, str_nat]
    unfold showInt
    rw [if_neg (show ¬ Int.ofNat n < 0 from Int.not_lt.mpr (Int.natCast_nonneg n))]
    rfl
  | negSucc n =>
    have e : toString (Int.negSucc n) = String.ofList ('-' :: Nat.toDigits 10 (n + 1)) := by
      show "-" ++ toString (n + 1) = _
      have : toString (n + 1) = String.ofList (Nat.toDigits 10 (n + 1)) := rfl
      rw [this]
      apply String.ext
      simp
    rw [e, ascii_word]
    · unfold showInt
      rw [if_pos (by omega)]
      rfl
    · intro c hc
      rcases List.mem_cons.mp hc with rfl | hc
      · decide
      · exact (digit_small c hc).1
theorem showNat_len {n : Nat} (k : Nat) (h : n < 10 ^ k) (hk : 0 < k) : (showNat n).length ≤ k := by
  unfold showNat
  rw [List.length_map]
  exact (Nat.length_toDigits_le_iff (by decide) hk).mpr h
theorem showInt_len {n : Int} (k : Nat) (h : n.natAbs < 10 ^ k) (hk : 0 < k) : (showInt n).length ≤ k + 1 := by
  unfold showInt
  have := showNat_len k h hk
  split <;> simp <;> omega
/-! ### expressions' parts -/
def isE : D → Bool
  | .tup (.str _ :: _) => true
  | _ => false
inductive PartOk : D → Prop
  | int (i : Int) : PartOk (.int i)
  | str (s : Str) : PartOk (.str s)
  | tupS (s : Str) (r : List D) : PartOk (.tup (.str s :: r))
  | tupI (i : Int) (r : List D) : PartOk (.tup (.int i :: r))
def subs : VExpr → List VExpr
  | .name _ => []
  | .shift a _ => [a] | .scale a _ => [a] | .pair _ a b => [a, b] | .asof a b => [a, b] | .merge a b => [a, b]
  | .fill a _ => [a] | .window a _ _ => [a] | .diff a => [a] | .run a => [a] | .over a _ => [a]
def wordE : VExpr → Bytes
  | .name _ => word "name"
  | .shift _ _ => word "shift" | .scale _ _ => word "scale" | .pair o _ _ => pairWord o | .asof _ _ => word "asof" | .merge _ _ => word "merge"
  | .fill _ _ => word "fill" | .window _ _ _ => word "window" | .diff _ => word "diff" | .run _ => word "run" | .over _ _ => word "over"
/-- what stands behind the expressions in an expression -/
def moreE : VExpr → List D
  | .shift _ t => [.int t] | .scale _ v => [Fd v] | .fill _ r => [.str (strB (fillWord r))] | .window _ k r => [Nd k, .str (strB (overWord r))] | .over _ v => [Fd v]
  | _ => []
def isNm : VExpr → Bool
  | .name _ => true
  | _ => false
theorem isE_expr (e : VExpr) : isE (exprD e) = true := by cases e <;> rfl
theorem ok_expr (e : VExpr) : PartOk (exprD e) := by cases e <;> exact .tupS _ _
theorem expr_shape {e : VExpr} (h : isNm e = false) : exprD e = .tup (.str (strB (wordE e)) :: ((subs e).map exprD ++ moreE e)) := by
  cases e <;> first | rfl | cases h
theorem more_ok (e : VExpr) : (∀ d ∈ moreE e, PartOk d ∧ isE d = false) := by
  cases e <;> simp only [moreE, List.mem_cons, List.not_mem_nil, or_false, forall_eq_or_imp, forall_eq, false_implies, implies_true, and_true]
  · exact ⟨.int _, rfl⟩
  · exact ⟨.tupI _ _, rfl⟩
  · exact ⟨.str _, rfl⟩
  · exact ⟨⟨.int _, rfl⟩, .str _, rfl⟩
  · exact ⟨.tupI _ _, rfl⟩
theorem filter_parts (e : VExpr) : ((subs e).map exprD ++ moreE e).filter isE = (subs e).map exprD := by
  rw [List.filter_append, List.filter_eq_self.mpr, List.filter_eq_nil_iff.mpr, List.append_nil]
  · intro d hd; rw [(more_ok e d hd).2]; decide
  · intro d hd
    obtain ⟨x, _, rfl⟩ := List.mem_map.mp hd
    exact isE_expr x
def dep : VExpr → Nat
  | .name _ => 1
  | .shift a _ => dep a + 1 | .scale a _ => dep a + 1 | .pair _ a b => max (dep a) (dep b) + 1 | .asof a b => max (dep a) (dep b) + 1 | .merge a b => max (dep a) (dep b) + 1
  | .fill a _ => dep a + 1 | .window a _ _ => dep a + 1 | .diff a => dep a + 1 | .run a => dep a + 1 | .over a _ => dep a + 1
theorem dep_subs {e : VExpr} {n : Nat} (h : dep e ≤ n + 1) : ∀ x ∈ subs e, dep x ≤ n := by
  cases e <;> simp only [dep, subs, List.mem_cons, List.not_mem_nil, or_false, forall_eq_or_imp, forall_eq, false_implies, implies_true] at h ⊢ <;> omega
theorem subs_len (e : VExpr) : (subs e).length ≤ 2 := by cases e <;> simp [subs]
theorem names_subs {e : VExpr} (h : isNm e = false) : Vatmsa.namesE e = (subs e).flatMap Vatmsa.namesE := by
  cases e <;> simp [subs, Vatmsa.namesE] <;> cases h
section
variable {P : Program} {w : World} {K : PySem.W.Frag} {mg : Str → Option Value} {base : Heap}
abbrev s_inside : Stmt := top 58
abbrev n_inside : List Str := ["expression", "part"]
theorem sc_inside : FnScope n_inside ["expression"] (defScope s_inside) := ⟨rfl, rfl, rfl, by decide +kernel, rfl, by decide +kernel, by decide +kernel⟩
def p_inside : List D → D → Prop := fun ds d => ∃ (h : D) (ps : List D), ds = [.tup (h :: ps)] ∧ ps.length ≤ 100 ∧ (∀ x ∈ ps, PartOk x) ∧ d = .lst (ps.filter isE)
theorem f_inside (F : Fa K mg "inside" s_inside) (nisi : mg "isinstance" = none) (ntup : mg "tuple" = none) (nstr : mg "str" = none) : Fv P w K mg base CX0 1 "inside" ["expression"] (PureP p_inside) := by
  refine fa_fv F (fun _ _ _ _ _ _ us hl => match us, hl with | [_], _ => rfl) fun f fd F => fn0 F sc_inside (fun Γ r ⟨ds, d, e, _, h, ps, e2, _⟩ => by subst e; subst e2; rfl) ?_
  have nd := sc_inside.nd
  rintro cdv A outer s H E _ _ hr ⟨_, _, rfl, rfl, h, ps, rfl, hl, hp, rfl⟩
  have hz : sizeLine = 16777216 := sizeLine_eq
  have cut : cutL (h :: ps) (some 1) none = ps := by rw [cut_drop]; rfl
  refine ss_one (s_ret (w_new (wlc [("part", 1)] [1] (fun x : D => x) isE (fun x => x) nd (blkOk_by (by show blkC n_inside (defScope s_inside) _ _ = true; decide +kernel)) (i_tup (w_slice (wv 0 rfl (w_int ⟨_, rfl, ⟨_, (sl2_tup ?_), ⟨_, rfl, ⟨ps, by rw [cut, List.map_id'], by omega, ?_, ?_⟩⟩⟩⟩)))))))
  · rintro ⟨z, _⟩
    rw [show (1 : Int) = ((1 : Nat) : Int) from rfl, HT.sIx_nat] at z
    have : 0 < (h :: ps).length := Nat.succ_pos _
    omega
  · refine fin_eq ?_
    show D.lst (List.map (fun x => x) _) = _
    rw [List.map_id']
  · intro x hx
    cases hp x hx with
    | int i => exact ⟨_, fun s H0 C cl fp => (gn 1 nd rfl), fun s H0 C cl fp => (t_bool (tw_and (t_val (w_isi (T := "tuple") (.inl rfl) rfl nisi rfl ntup (by decide +kernel) (by decide) (wv 1 rfl ⟨_, rfl, _, rfl, ⟨fun hF => ⟨rfl, rfl⟩, fun hT => absurd hT (by decide)⟩⟩))))), fun _ s H0 C cl fp => (wv 1 rfl rfl)⟩
    | str z => exact ⟨_, fun s H0 C cl fp => (gn 1 nd rfl), fun s H0 C cl fp => (t_bool (tw_and (t_val (w_isi (T := "tuple") (.inl rfl) rfl nisi rfl ntup (by decide +kernel) (by decide) (wv 1 rfl ⟨_, rfl, _, rfl, ⟨fun hF => ⟨rfl, rfl⟩, fun hT => absurd hT (by decide)⟩⟩))))), fun _ s H0 C cl fp => (wv 1 rfl rfl)⟩
    | tupS z r => exact ⟨_, fun s H0 C cl fp => (gn 1 nd rfl), fun s H0 C cl fp => (t_bool (tw_and (t_val (w_isi (T := "tuple") (.inl rfl) rfl nisi rfl ntup (by decide +kernel) (by decide) (wv 1 rfl ⟨_, rfl, _, rfl, ⟨fun hF => absurd hF (by decide), fun hT => (tw_and1 (t_val (w_isi (T := "str") (.inr rfl) rfl nisi rfl nstr (by decide +kernel) (by decide) (w_ix (wv 1 rfl (w_int ⟨_, ix2_tup at0, ⟨_, rfl, _, rfl, ⟨rfl, rfl⟩⟩⟩))))))⟩⟩))))), fun _ s H0 C cl fp => (wv 1 rfl rfl)⟩
    | tupI z r => exact ⟨_, fun s H0 C cl fp => (gn 1 nd rfl), fun s H0 C cl fp => (t_bool (tw_and (t_val (w_isi (T := "tuple") (.inl rfl) rfl nisi rfl ntup (by decide +kernel) (by decide) (wv 1 rfl ⟨_, rfl, _, rfl, ⟨fun hF => absurd hF (by decide), fun hT => (tw_and1 (t_val (w_isi (T := "str") (.inr rfl) rfl nisi rfl nstr (by decide +kernel) (by decide) (w_ix (wv 1 rfl (w_int ⟨_, ix2_tup at0, ⟨_, rfl, _, rfl, ⟨rfl, rfl⟩⟩⟩))))))⟩⟩))))), fun _ s H0 C cl fp => (wv 1 rfl rfl)⟩
theorem inside_expr {e : VExpr} (h : isNm e = false) : p_inside [exprD e] (.lst ((subs e).map exprD)) := by
  refine ⟨_, _, by rw [expr_shape h], ?_, fun x hx => ?_, by rw [filter_parts]⟩
  · rw [List.length_append, List.length_map]
    have := subs_len e
    have : (moreE e).length ≤ 2 := by cases e <;> simp [moreE]
    omega
  · rcases List.mem_append.mp hx with hx | hx
    · obtain ⟨y, _, rfl⟩ := List.mem_map.mp hx
      exact ok_expr y
    · exact (more_ok e x hx).1
abbrev FvInside (P : Program) (w : World) (K : PySem.W.Frag) (mg : Str → Option Value) (base : Heap) : Prop := Fv P w K mg base CX0 1 "inside" ["expression"] (PureP p_inside)
/-! ### names_in -/
abbrev s_names_in : Stmt := top 59
abbrev n_names_in : List Str := ["expression", "found", "part"]
theorem sc_names_in : FnScope n_names_in ["expression"] (defScope s_names_in) := ⟨rfl, rfl, rfl, by decide +kernel, rfl, by decide +kernel, by decide +kernel⟩
def nmD (x : VatmsBase.PName) : D := .tup [.str (strB x.name), Nd x.place]
def p_names_in (n : Nat) : List D → D → Prop := fun ds d => ∃ e : VExpr, ds = [exprD e] ∧ dep e ≤ n ∧ d = .lst ((Vatmsa.namesE e).map nmD)
theorem wordE_not {e : VExpr} (h : isNm e = false) : decide (strB (wordE e) = Str.ofString "name") = false := by
  rw [dec_word lit_name]
  refine decide_eq_false ?_
  cases e with
  | name x => cases h
  | pair o a b => cases o <;> (show ¬ word _ = _; decide)
  | _ => show ¬ word _ = _; decide
theorem names_len : ∀ (n : Nat) (e : VExpr), dep e ≤ n → (Vatmsa.namesE e).length ≤ 2 ^ n
  | 0, e, h => by cases e <;> simp [dep] at h
  | n + 1, e, h => by
    by_cases hn : isNm e = false
    · rw [names_subs hn]
      have ih := fun x hx => names_len n x (dep_subs h x hx)
      have hs := subs_len e
      revert ih hs
      generalize subs e = l
      intro ih hs
      match l, hs with
      | [], _ => simp
      | [a], _ =>
        have := ih a List.mem_cons_self
        simp
        rw [Nat.pow_succ]; omega
      | [a, b], _ =>
        have := ih a List.mem_cons_self
        have := ih b (by simp)
        simp
        rw [Nat.pow_succ]; omega
    · cases e with
      | name x => exact Nat.one_le_two_pow
      | _ => exact (hn rfl).elim
end
end Fp

set_option Elab.async false
set_option linter.all false
set_option maxRecDepth 100000
set_option maxHeartbeats 2000000
namespace Fp
open PySem PySem.Spec PyProof.Rows L2 Dl
open VatmsBase (Bytes word PTok Toks Frac frac whole wrong here next nextWord showNat showInt PName)
open Vatmsa (Series Let Prog showFrac showValue showExpr fillWord overWord pairWord call2 line shown namesE)
section
variable {P : Program} {w : World} {K : PySem.W.Frag} {mg : Str → Option Value} {base : Heap}
theorem ix_expr0 {X : Cx} {e : VExpr} : Ix2 X (exprD e) (.int 0) (.str (strB (wordE e))) := by
  by_cases h : isNm e = false
  · rw [expr_shape h]; exact ix2_tup at0
  · cases e with
    | name x =>
      show Ix2 X (.tup [.str "name", .str (strB x.name), Nd x.place]) (.int 0) (.str (strB (word "name")))
      rw [← lit_name]
      exact ix2_tup at0
    | _ => exact (h rfl).elim
theorem wordE_is {e : VExpr} : decide (strB (wordE e) = Str.ofString "name") = isNm e := by
  by_cases h : isNm e = false
  · rw [wordE_not h, h]
  · cases e with
    | name x =>
      show decide (strB (word "name") = _) = true
      rw [lit_name]; simp
    | _ => exact (h rfl).elim
theorem f_names_in (F : Fa K mg "names_in" s_names_in) (hin : FvInside P w K mg base) : ∀ n, n ≤ 8 → Fv P w K mg base CX0 (2 + n) "names_in" ["expression"] (PureP (p_names_in n))
  | 0, _ => by
    refine fa_fv F (fun _ _ _ _ _ _ us hl => match us, hl with | [_], _ => rfl) fun f fd F => fn0 F sc_names_in (fun Γ r ⟨ds, d, e, _, x, e2, _⟩ => by subst e; subst e2; rfl) ?_
    rintro cdv A outer s H E _ _ hr ⟨_, _, rfl, rfl, e, rfl, hd, rfl⟩
    cases e <;> simp [dep] at hd
  | n + 1, hn => by
    have ih := f_names_in F hin n (by omega)
    have r1 : 1 ≤ 2 + n := by omega
    have r2 : 2 + n ≤ 2 + n := Nat.le_refl _
    refine fa_fv F (fun _ _ _ _ _ _ us hl => match us, hl with | [_], _ => rfl) fun f fd F => fn0 F sc_names_in (fun Γ r ⟨ds, d, e, _, x, e2, _⟩ => by subst e; subst e2; rfl) ?_
    have nd := sc_names_in.nd
    rintro cdv A outer s H E _ _ hr ⟨_, _, rfl, rfl, e, rfl, hd, rfl⟩
    have hz : sizeLine = 16777216 := sizeLine_eq
    have hnl := names_len (n + 1) e hd
    have hp : 2 ^ (n + 1) ≤ 2 ^ 9 := Nat.pow_le_pow_right (by decide) (by omega)
    refine ss_cons (s_if (t_cmp (w_ix (wv 0 rfl (w_int ⟨_, ix_expr0, (w_str ⟨_, o_eqS, ⟨fun hT => ?_, fun hF => ss_nil ?_⟩⟩)⟩)))))
    · rw [wordE_is] at hT
      cases e with
      | name x =>
        have cut : cutL [D.str "name", D.str (strB x.name), Nd x.place] (some 1) none = [D.str (strB x.name), Nd x.place] := by rw [cut_drop]; rfl
        refine ss_one (s_ret (w_new (w_lst (d_cons (w_slice (wv 0 rfl (w_int ⟨_, rfl, ⟨_, (sl2_tup (ds := [D.str "name", D.str (strB x.name), Nd x.place]) (by show ¬ (HT.sIx 3 0 (some 1) = 0 ∧ HT.sIx 3 3 none = 3); decide)), (d_nil ⟨len_le, ?_⟩)⟩⟩)))))))
        rw [cut]
        exact fin_eq rfl
      | _ => cases hT
    · rw [wordE_is] at hF
      refine ss_cons (ssN 1 nd (w_lst (d_nil ⟨len_le, fun pf => ?_⟩)))
      refine ss_cons (s_for (js := [2]) .never rfl (i_list (w_callP hin (hr.mono r1) rfl pass (d_cons (wv 0 rfl (d_nil ⟨_, inside_expr hF, ⟨_, rfl, ?_⟩⟩))))))
      refine for_ind exprD (fun (t : List PName × Sl) => [.im (exprD e), .own pf (.lst (t.1.map nmD)), t.2]) (fun t rest => (∀ x ∈ rest, dep x ≤ n) ∧ t.1 ++ rest.flatMap namesE = namesE e) ?_ ?_ _ ([], .un) ⟨dep_subs hd, (names_subs hF).symm⟩
      · rintro ⟨acc, sl⟩ x rest ⟨h1, h2⟩ nx hnx
        have h2 : acc ++ (namesE x ++ rest.flatMap namesE) = namesE e := h2
        have hlen := congrArg List.length h2
        rw [List.length_append, List.length_append] at hlen
        refine (gn 2 nd ?_)
        refine ss_one (s_extend 1 rfl (.inl rfl) rfl (w_callP ih (hr.mono r2) rfl pass (d_cons (wv 2 rfl (d_nil ⟨_, ⟨x, rfl, h1 x List.mem_cons_self, rfl⟩, ⟨_, _, rfl, rfl, by rw [List.length_map, List.length_map]; show acc.length + _ ≤ _; omega, ?_⟩⟩)))))
        have := hnx (acc ++ namesE x, .im (exprD x)) ⟨fun y hy => h1 y (List.mem_cons_of_mem _ hy), by show (acc ++ namesE x) ++ _ = _; rw [List.append_assoc]; exact h2⟩
        rw [List.map_append] at this
        exact this
      · rintro ⟨acc, sl⟩ ⟨_, h2⟩
        refine ss_one (s_ret (wg 1 rfl (fin_eq ?_)))
        rw [← h2]
        show D.lst (acc.map nmD) = D.lst ((acc ++ []).map nmD)
        rw [List.append_nil]
/-! ### value_text -/
abbrev s_value_text : Stmt := top 61
abbrev n_value_text : List Str := ["value"]
theorem sc_value_text : FnScope n_value_text ["value"] (defScope s_value_text) := ⟨rfl, rfl, rfl, by decide +kernel, rfl, by decide +kernel, by decide +kernel⟩
structure SmallF (f : Frac) : Prop where
  num : f.num.natAbs ≤ 1000000
  den : f.den ≤ 1000
  pos : 0 < f.den
  nm : Nat.gcd f.num.natAbs f.den = 1
def SmallV (v : Option Frac) : Prop := ∀ f, v = some f → SmallF f
def p_value_text : List D → D → Prop := fun ds d => ∃ v : Option Frac, ds = [optFd v] ∧ SmallV v ∧ d = .str (strB (showValue v))
theorem log_small {n : Nat} (h : n ≤ 1000000) : n.log2 < 1920 := by
  by_cases h0 : n = 0
  · subst h0; decide
  · exact (Nat.log2_lt h0).mpr (Nat.lt_of_le_of_lt h (Nat.lt_of_lt_of_le (show 1000000 < 2 ^ 20 by decide) (Nat.pow_le_pow_right (by decide) (by decide))))
theorem frac_len {f : Frac} (h : SmallF f) : (showInt f.num).length ≤ 8 ∧ (showNat f.den).length ≤ 4 := by
  have h1 := h.num
  have h2 := h.den
  exact ⟨showInt_len 7 (Nat.lt_of_le_of_lt h1 (by decide)) (by decide), showNat_len 4 (Nat.lt_of_le_of_lt h2 (by decide)) (by decide)⟩
theorem f_value_text (F : Fa K mg "value_text" s_value_text) (nstr : mg "str" = none) : Fv P w K mg base CX0 1 "value_text" ["value"] (PureP p_value_text) := by
  refine fa_fv F (fun _ _ _ _ _ _ us hl => match us, hl with | [_], _ => rfl) fun f fd F => fn0 F sc_value_text (fun Γ r ⟨ds, d, e, _, v, e2, _⟩ => by subst e; subst e2; rfl) ?_
  have nd := sc_value_text.nd
  rintro cdv A outer s H E _ _ hr ⟨_, _, rfl, rfl, v, rfl, hv, rfl⟩
  have hz : sizeLine = 16777216 := sizeLine_eq
  cases v with
  | none =>
    refine ss_cons (s_if (t_cmp (wv 0 rfl (w_none ⟨_, o_is, ⟨fun hT => ?_, fun hF => absurd hF (by decide)⟩⟩))))
    refine ss_one (s_ret (w_str (fin_eq ?_)))
    rw [lit_none]; rfl
  | some f =>
    have sf := hv f rfl
    obtain ⟨l1, l2⟩ := frac_len sf
    have s1 := sf.num
    have s2 := sf.den
    refine ss_cons (s_if (t_cmp (wv 0 rfl (w_none ⟨_, o_is, ⟨fun hT => (nomatch hT), fun hF => ss_nil ?_⟩⟩))))
    refine ss_cons (s_if (t_cmp (w_ix (wv 0 rfl (w_int ⟨_, (ix2_tup rfl), (w_int ⟨_, o_eqI, ⟨fun hT => ?_, fun hF => ss_nil ?_⟩⟩)⟩)))))
    · have hT : ((f.den : Nat) : Int) = 1 := of_decide_eq_true hT
      refine ss_one (s_ret (w_callTy rfl nstr boot_str (d_cons (w_ix (wv 0 rfl (w_int ⟨_, (ix2_tup rfl), (d_nil ⟨_, (c_str (log_small s1)), fin_eq ?_⟩)⟩))))))
      rw [str_int]
      show _ = D.str (strB (showInt f.num ++ (if f.den = 1 then [] else _)))
      rw [if_pos (by omega), List.append_nil]
    · have hF : ¬ ((f.den : Nat) : Int) = 1 := of_decide_eq_false hF
      refine ss_one (s_ret (w_bin (w_bin (w_callTy rfl nstr boot_str (d_cons (w_ix (wv 0 rfl (w_int ⟨_, (ix2_tup rfl), (d_nil ⟨_, (c_str (log_small s1)), (w_str ⟨_, (o_addS ?_), (w_callTy rfl nstr boot_str (d_cons (w_ix (wv 0 rfl (w_int ⟨_, (ix2_tup rfl), (d_nil ⟨_, (c_str (log_small (by omega))), ⟨_, (o_addS ?_), fin_eq ?_⟩⟩)⟩)))))⟩)⟩)⟩))))))))
      · rw [str_int, strB_len]; show _ + 1 ≤ _; omega
      · have : (Str.ofString (toString f.num) ++ Str.ofString "/").length = (showInt f.num).length + 1 := by
          rw [str_int, lit_slash, strB_append, strB_len, List.length_append]; rfl
        rw [this, str_int, strB_len]
        have : (showInt ((f.den : Nat) : Int)).length ≤ 5 := showInt_len 4 (by rw [Int.natAbs_natCast]; exact Nat.lt_of_le_of_lt s2 (by decide)) (by decide)
        omega
      · rw [str_int, str_int, lit_slash, strB_append, strB_append]
        show _ = D.str (strB (showInt f.num ++ (if f.den = 1 then [] else word "/" ++ showNat f.den)))
        rw [if_neg (by omega), List.append_assoc]
        rfl
end
end Fp

set_option Elab.async false
set_option linter.all false
set_option maxRecDepth 100000
set_option maxHeartbeats 2000000
namespace Fp
open PySem PySem.Spec PyProof.Rows L2 Dl
open VatmsBase (Bytes word PTok Toks Frac frac whole wrong here next nextWord showNat showInt PName)
open Vatmsa (Series Let Prog showFrac showValue showExpr fillWord overWord pairWord call2 line shown namesE)
theorem c_strS {X : Cx} {z : Str} : Cl X (.type "str") [.str z] (.str z) := .of SkE.call_str_str fun I H us Q e r k => by
  cases r with
  | cons q r =>
    cases q
    cases r
    exact ⟨z, rfl, k _ I H (.refl e) (.str z)⟩
def WfE : VExpr → Prop
  | .name x => x.name.length ≤ 16
  | .shift a t => WfE a ∧ t.natAbs ≤ 100000
  | .scale a v => WfE a ∧ SmallF v
  | .pair _ a b => WfE a ∧ WfE b
  | .asof a b => WfE a ∧ WfE b
  | .merge a b => WfE a ∧ WfE b
  | .fill a _ => WfE a
  | .window a k _ => WfE a ∧ 1 ≤ k ∧ k ≤ 100000
  | .diff a => WfE a
  | .run a => WfE a
  | .over a v => WfE a ∧ SmallF v
theorem wf_subs {e : VExpr} (h : WfE e) : ∀ x ∈ subs e, WfE x := by
  cases e <;> simp only [WfE, subs, List.mem_cons, List.not_mem_nil, or_false, forall_eq_or_imp, forall_eq, false_implies, implies_true] at h ⊢ <;> first | exact h | exact h.1 | exact ⟨h.1, h.2⟩
/-- with something between each two -/
def joinB (sep : Bytes) (l : List Bytes) : Bytes := match l with
  | [] => []
  | a :: r => a ++ r.flatMap fun s => sep ++ s
def moreT : VExpr → List Bytes
  | .shift _ t => [showInt t] | .scale _ v => [showFrac v] | .fill _ r => [fillWord r] | .window _ k r => [showNat k, overWord r] | .over _ v => [showFrac v]
  | _ => []
theorem show_shape {e : VExpr} (h : isNm e = false) : showExpr e = wordE e ++ (word "(" ++ (joinB (word ", ") ((subs e).map showExpr ++ moreT e) ++ word ")")) := by
  cases e with
  | name x => cases h
  | diff a =>
    show word "diff(" ++ (showExpr a ++ word ")") = word "diff" ++ (word "(" ++ ((showExpr a ++ []) ++ word ")"))
    rw [List.append_nil, ← List.append_assoc (word "diff")]; rfl
  | run a =>
    show word "run(" ++ (showExpr a ++ word ")") = word "run" ++ (word "(" ++ ((showExpr a ++ []) ++ word ")"))
    rw [List.append_nil, ← List.append_assoc (word "run")]; rfl
  | _ => simp [showExpr, call2, wordE, joinB, subs, moreT, List.append_assoc]
theorem show_len : ∀ (n : Nat) (e : VExpr), dep e ≤ n → WfE e → (showExpr e).length + 40 ≤ 60 * 2 ^ n
  | 0, e, h, _ => by cases e <;> simp [dep] at h
  | n + 1, e, h, hw => by
    have ih := fun x hx => show_len n x (dep_subs h x hx) (wf_subs hw x hx)
    have hp : 1 ≤ 2 ^ n := Nat.one_le_two_pow
    rw [Nat.pow_succ]
    have w1 : ∀ o : Vatmsa.Pair, (pairWord o).length ≤ 6 := by intro o; cases o <;> decide
    have w2 : ∀ o : Vatmsa.Fill, (fillWord o).length ≤ 6 := by intro o; cases o <;> decide
    have w3 : ∀ o : Vatmsa.Over, (overWord o).length ≤ 6 := by intro o; cases o <;> decide
    have wf : ∀ v : Frac, SmallF v → (showFrac v).length ≤ 14 := fun v hv => by
      obtain ⟨a, b⟩ := frac_len hv
      unfold showFrac
      split <;> simp <;> (try have : (word "/").length = 1 := by decide) <;> omega
    have l1 : (word "shift").length = 5 := by decide
    have l2 : (word "scale").length = 5 := by decide
    have l3 : (word "asof").length = 4 := by decide
    have l4 : (word "merge").length = 5 := by decide
    have l5 : (word "fill").length = 4 := by decide
    have l6 : (word "window").length = 6 := by decide
    have l7 : (word "diff(").length = 5 := by decide
    have l8 : (word "run(").length = 4 := by decide
    have l9 : (word "over").length = 4 := by decide
    have la : (word "(").length = 1 := by decide
    have lb : (word ")").length = 1 := by decide
    have lc : (word ", ").length = 2 := by decide
    cases e with
    | name x => have : x.name.length ≤ 16 := hw; show x.name.length + 40 ≤ _; omega
    | shift a t =>
      have i1 := ih a List.mem_cons_self
      have := showInt_len (n := t) 6 (Nat.lt_of_le_of_lt hw.2 (by decide)) (by decide)
      simp [showExpr, call2]; omega
    | scale a v =>
      have i1 := ih a List.mem_cons_self
      have := wf v hw.2
      simp [showExpr, call2]; omega
    | over a v =>
      have i1 := ih a List.mem_cons_self
      have := wf v hw.2
      simp [showExpr, call2]; omega
    | pair o a b =>
      have i1 := ih a List.mem_cons_self
      have i2 := ih b (by simp [subs])
      have := w1 o
      simp [showExpr, call2]; omega
    | asof a b =>
      have i1 := ih a List.mem_cons_self
      have i2 := ih b (by simp [subs])
      simp [showExpr, call2]; omega
    | merge a b =>
      have i1 := ih a List.mem_cons_self
      have i2 := ih b (by simp [subs])
      simp [showExpr, call2]; omega
    | fill a r =>
      have i1 := ih a List.mem_cons_self
      have := w2 r
      simp [showExpr, call2]; omega
    | window a k r =>
      have i1 := ih a List.mem_cons_self
      have := w3 r
      have := showNat_len (n := k) 6 (Nat.lt_of_le_of_lt hw.2.2 (by decide)) (by decide)
      simp [showExpr, call2]; omega
    | diff a =>
      have i1 := ih a List.mem_cons_self
      simp [showExpr]; omega
    | run a =>
      have i1 := ih a List.mem_cons_self
      simp [showExpr]; omega
theorem join_sum (sep : Bytes) (l : List Bytes) : (l.map List.length).sum ≤ (joinB sep l).length := by
  cases l with
  | nil => exact Nat.le_refl _
  | cons a r =>
    rw [List.map_cons, List.sum_cons]
    show _ ≤ (a ++ _).length
    rw [List.length_append]
    have : (r.map List.length).sum ≤ (r.flatMap fun s => sep ++ s).length := by
      induction r with
      | nil => exact Nat.le_refl _
      | cons b r ih =>
        rw [List.map_cons, List.sum_cons, List.flatMap_cons, List.length_append, List.length_append]
        omega
    omega
def isVal : VExpr → Bool
  | .scale _ _ => true | .over _ _ => true | _ => false
def isMore : VExpr → Bool
  | .shift _ _ => true | .fill _ _ => true | .window _ _ _ => true | _ => false
theorem val_word (e : VExpr) : decide (strB (wordE e) ∈ [Str.ofString "scale", Str.ofString "over"]) = isVal e := by
  rw [lit_scale, lit_over]
  have := mem_strB (b := wordE e) (l := [word "scale", word "over"])
  rw [List.map_cons, List.map_cons, List.map_nil] at this
  rw [this]
  cases e with
  | pair o a b => cases o <;> (show List.contains _ (word _) = false; decide)
  | scale a v => show List.contains _ (word _) = true; decide
  | over a v => show List.contains _ (word _) = true; decide
  | _ => show List.contains _ (word _) = false; decide
theorem more_word (e : VExpr) : decide (strB (wordE e) ∈ [Str.ofString "shift", Str.ofString "fill", Str.ofString "window"]) = isMore e := by
  rw [lit_shift, lit_fill, lit_window]
  have := mem_strB (b := wordE e) (l := [word "shift", word "fill", word "window"])
  rw [List.map_cons, List.map_cons, List.map_cons, List.map_nil] at this
  rw [this]
  cases e with
  | pair o a b => cases o <;> (show List.contains _ (word _) = false; decide)
  | shift a v => show List.contains _ (word _) = true; decide
  | fill a v => show List.contains _ (word _) = true; decide
  | window a k v => show List.contains _ (word _) = true; decide
  | _ => show List.contains _ (word _) = false; decide
def textD : D → Str
  | .int i => Str.ofString (toString i)
  | .str s => s
  | _ => Str.ofString ""
theorem lit_sep : Str.ofString ", " = strB (word ", ") := by decide +kernel
section
variable {P : Program} {w : World} {K : PySem.W.Frag} {mg : Str → Option Value} {base : Heap}
abbrev s_expression_text : Stmt := top 62
abbrev n_expression_text : List Str := ["expression", "word", "some", "part"]
theorem sc_expression_text : FnScope n_expression_text ["expression"] (defScope s_expression_text) := ⟨rfl, rfl, rfl, by decide +kernel, rfl, by decide +kernel, by decide +kernel⟩
def p_expr_text (n : Nat) : List D → D → Prop := fun ds d => ∃ e : VExpr, ds = [exprD e] ∧ dep e ≤ n ∧ WfE e ∧ d = .str (strB (showExpr e))
abbrev FvVText (P : Program) (w : World) (K : PySem.W.Frag) (mg : Str → Option Value) (base : Heap) : Prop := Fv P w K mg base CX0 1 "value_text" ["value"] (PureP p_value_text)
theorem f_expression_text (F : Fa K mg "expression_text" s_expression_text) (hin : FvInside P w K mg base) (hvt : FvVText P w K mg base) (nstr : mg "str" = none) : ∀ n, n ≤ 8 → Fv P w K mg base CX0 (2 + n) "expression_text" ["expression"] (PureP (p_expr_text n))
  | 0, _ => by
    refine fa_fv F (fun _ _ _ _ _ _ us hl => match us, hl with | [_], _ => rfl) fun f fd F => fn0 F sc_expression_text (fun Γ r ⟨ds, d, e, _, x, e2, _⟩ => by subst e; subst e2; rfl) ?_
    rintro cdv A outer s H E _ _ hr ⟨_, _, rfl, rfl, e, rfl, hd, _⟩
    cases e <;> simp [dep] at hd
  | n + 1, hn => by
    have ih := f_expression_text F hin hvt nstr n (by omega)
    have r1 : 1 ≤ 2 + n := by omega
    have r2 : 2 + n ≤ 2 + n := Nat.le_refl _
    refine fa_fv F (fun _ _ _ _ _ _ us hl => match us, hl with | [_], _ => rfl) fun f fd F => fn0 F sc_expression_text (fun Γ r ⟨ds, d, e, _, x, e2, _⟩ => by subst e; subst e2; rfl) ?_
    have nd := sc_expression_text.nd
    rintro cdv A outer s H E _ _ hr ⟨_, _, rfl, rfl, e, rfl, hd, hw, rfl⟩
    have hz : sizeLine = 16777216 := sizeLine_eq
    refine ss_cons (ss 1 nd (w_ix (wv 0 rfl (w_int ⟨_, ix_expr0, ?_⟩))))
    refine ss_cons (s_if (t_cmp (wv 1 rfl (w_str ⟨_, o_eqS, ⟨fun hT => ?_, fun hF => ss_nil ?_⟩⟩))))
    · rw [wordE_is] at hT
      cases e with
      | name x => exact ss_one (s_ret (w_ix (wv 0 rfl (w_int ⟨_, (ix2_tup rfl), fin_eq rfl⟩))))
      | _ => cases hT
    rw [wordE_is] at hF
    have es := expr_shape hF
    have ml : (moreT e).length ≤ 2 := by cases e <;> simp [moreT]
    have sl := subs_len e
    have tot := show_len (n + 1) e hd hw
    have hp : 2 ^ (n + 1) ≤ 2 ^ 9 := Nat.pow_le_pow_right (by decide) (by omega)
    have shp := show_shape hF
    have shl := congrArg List.length shp
    rw [List.length_append, List.length_append, List.length_append] at shl
    have lo : (word "(").length = 1 := by decide
    have lc : (word ")").length = 1 := by decide
    have js := join_sum (word ", ") ((subs e).map showExpr ++ moreT e)
    have fin : ∀ pf, WpSs (cxOf CX0 P w K mg base n_expression_text "expression_text" (defScope s_expression_text) f cdv A outer s H E).nox E0 noX ((defBody s_expression_text).drop 5) [.im (exprD e), .im (.str (strB (wordE e))), .own pf (.lst ((((subs e).map showExpr ++ moreT e).map strB).map D.str)), .un] (retR [.im (exprD e)] (.ok (.str (strB (showExpr e))) [.im (exprD e)])) := fun pf => by
      refine ss_one (s_ret (w_bin (w_bin (w_bin (wv 1 rfl (w_str ⟨_, (o_addS ?_), (w_see 2 rfl (w_join (w_str ⟨_, rfl, (wv 2 rfl ⟨((subs e).map showExpr ++ moreT e).map strB, rfl, ?_, .str _, ⟨_, (o_addS ?_), (w_str ⟨_, (o_addS ?_), ?_⟩)⟩⟩)⟩)))⟩))))))
      · rw [strB_len]; show _ + 1 ≤ _; omega
      · rw [List.map_map, List.length_map, List.length_append, List.length_map]
        have e1 : ((subs e).map showExpr ++ moreT e).map ((fun x : Str => x.length) ∘ strB) = ((subs e).map showExpr ++ moreT e).map List.length := List.map_congr_left fun x _ => strB_len x
        rw [e1]
        show _ + _ * 2 ≤ _
        omega
      · rw [lit_open, strB_append, strB_len, lit_sep, join_sep, strB_len]
        show (wordE e ++ word "(").length + (joinB (word ", ") _).length ≤ _
        rw [List.length_append]; omega
      · rw [lit_open, strB_append, lit_sep, join_sep, strB_append, strB_len]
        show ((wordE e ++ word "(") ++ joinB (word ", ") _).length + 1 ≤ _
        rw [List.length_append, List.length_append]; omega
      · refine fin_eq (ds := [exprD e]) ?_
        rw [lit_open, strB_append, lit_sep, join_sep, strB_append, lit_close, strB_append, shp]
        show D.str (strB (((wordE e ++ word "(") ++ joinB (word ", ") _) ++ word ")")) = _
        rw [List.append_assoc, List.append_assoc]
    have behind : ∀ pf, ∀ l : List Bytes, (isMore e = true → l = (subs e).map showExpr) → (isMore e = false → l = (subs e).map showExpr ++ moreT e) → WpSs (cxOf CX0 P w K mg base n_expression_text "expression_text" (defScope s_expression_text) f cdv A outer s H E).nox E0 noX ((defBody s_expression_text).drop 4) [.im (exprD e), .im (.str (strB (wordE e))), .own pf (.lst ((l.map strB).map D.str)), .un] (retR [.im (exprD e)] (.ok (.str (strB (showExpr e))) [.im (exprD e)])) := fun pf l h1 h2 => by
      refine ss_cons (s_if (t_cmp (wv 1 rfl (w_tup (d_cons (w_str (d_cons (w_str (d_cons (w_str (d_nil ⟨len_le, ⟨decide (strB (wordE e) ∈ [Str.ofString "shift", Str.ofString "fill", Str.ofString "window"]), o_inST (l := ["shift", "fill", "window"]), ⟨fun hT => ?_, fun hF => ss_nil ?_⟩⟩⟩)))))))))))
      · rw [more_word] at hT
        have hl := h1 hT
        subst hl
        have s1 : ∃ a, subs e = [a] := by cases e <;> first | (cases hT; done) | exact ⟨_, rfl⟩
        obtain ⟨a, s1⟩ := s1
        have cut : cutL (D.str (strB (wordE e)) :: ((subs e).map exprD ++ moreE e)) (some 2) none = moreE e := by
          unfold cutL
          rw [s1, show (2 : Int) = ((2 : Nat) : Int) from rfl, HT.sIx_nat, HT.sIx_none]
          simp
        have nw : ¬ (HT.sIx (D.str (strB (wordE e)) :: ((subs e).map exprD ++ moreE e)).length 0 (some 2) = 0 ∧ HT.sIx (D.str (strB (wordE e)) :: ((subs e).map exprD ++ moreE e)).length (D.str (strB (wordE e)) :: ((subs e).map exprD ++ moreE e)).length none = (D.str (strB (wordE e)) :: ((subs e).map exprD ++ moreE e)).length) := by
          rintro ⟨z, _⟩
          rw [s1, show (2 : Int) = ((2 : Nat) : Int) from rfl, HT.sIx_nat] at z
          simp at z
        have mt : (moreE e).map (fun d => D.str (textD d)) = ((moreT e).map strB).map D.str := by
          cases e <;> first | (cases hT; done) | skip
          · show [D.str (Str.ofString (toString _))] = [D.str (strB (showInt _))]; rw [str_int]
          · rfl
          · rename_i k r
            show [D.str (Str.ofString (toString ((k : Nat) : Int))), _] = [D.str (strB (showNat k)), _]
            rw [str_int]; rfl
        have sl2 : Sl2 (cxOf CX0 P w K mg base n_expression_text "expression_text" (defScope s_expression_text) f cdv A outer s H E).nox (exprD e) (some 2) none (.tup (moreE e)) := by
          rw [es]
          have := sl2_tup (X := (cxOf CX0 P w K mg base n_expression_text "expression_text" (defScope s_expression_text) f cdv A outer s H E).nox) nw
          rw [cut] at this
          exact this
        have mlE : (moreE e).length ≤ 2 := by cases e <;> simp [moreE]
        refine ss_one (s_extend 2 rfl (.inl rfl) rfl (w_new (wlc [("part", 3)] [3] (fun d : D => d) (fun _ => true) (fun d => .str (textD d)) nd (blkOk_by (by show blkC n_expression_text (defScope s_expression_text) _ _ = true; decide +kernel)) (i_tup (w_slice (wv 0 rfl (w_int ⟨_, rfl, ⟨_, sl2, ⟨_, rfl, ⟨moreE e, by rw [List.map_id'], by omega, ⟨_, _, rfl, rfl, ?_, ?_⟩, ?_⟩⟩⟩⟩)))))))
        · rw [List.length_map, List.length_map, List.length_map, List.filter_eq_self.mpr (fun _ _ => rfl), List.length_map]; omega
        · rw [List.filter_eq_self.mpr (fun _ _ => rfl), mt, ← List.map_append, ← List.map_append]
          exact fin pf
        · intro x hx
          refine ⟨_, fun s H0 C cl fp => (gn 3 nd rfl), fun s H0 C cl fp => ⟨rfl, rfl⟩, fun _ s H0 C cl fp => ?_⟩
          have : (∃ i : Int, x = .int i ∧ i.natAbs ≤ 1000000) ∨ ∃ z, x = .str z := by
            cases e <;> first | (cases hT; done) | skip
            · simp [moreE] at hx; subst hx; exact .inl ⟨_, rfl, Nat.le_trans hw.2 (by decide)⟩
            · simp [moreE] at hx; subst hx; exact .inr ⟨_, rfl⟩
            · simp [moreE] at hx
              rcases hx with rfl | rfl
              · exact .inl ⟨_, rfl, by rw [Int.natAbs_natCast]; exact Nat.le_trans hw.2.2 (by decide)⟩
              · exact .inr ⟨_, rfl⟩
          rcases this with ⟨i, rfl, hi⟩ | ⟨z, rfl⟩
          · exact (w_callTy rfl nstr boot_str (d_cons (wv 3 rfl (d_nil ⟨_, (c_str (log_small hi)), rfl⟩))))
          · exact (w_callTy rfl nstr boot_str (d_cons (wv 3 rfl (d_nil ⟨_, c_strS, rfl⟩))))
      · rw [more_word] at hF
        rw [h2 hF]
        exact fin pf
    refine ss_cons (ssLc 2 [("part", 3)] [3] exprD (fun x => true) (fun x => .str (strB (showExpr x))) nd (blkOk_by (by show blkC n_expression_text (defScope s_expression_text) _ _ = true; decide +kernel)) (i_list (w_callP hin (hr.mono r1) rfl pass (d_cons (wv 0 rfl (d_nil ⟨_, inside_expr hF, ⟨_, rfl, ⟨subs e, rfl, by omega, fun psome => ?_, ?_⟩⟩⟩))))))
    · rw [List.filter_eq_self.mpr (fun _ _ => rfl), show (subs e).map (fun x => D.str (strB (showExpr x))) = (((subs e).map showExpr).map strB).map D.str by rw [List.map_map, List.map_map]; rfl]
      refine ss_cons (s_if (t_cmp (wv 1 rfl (w_tup (d_cons (w_str (d_cons (w_str (d_nil ⟨len_le, ⟨decide (strB (wordE e) ∈ [Str.ofString "scale", Str.ofString "over"]), o_inST (l := ["scale", "over"]), ⟨fun hT => ?_, fun hF => ss_nil ?_⟩⟩⟩)))))))))
      · rw [val_word] at hT
        have hv : ∃ a v, subs e = [a] ∧ moreE e = [Fd v] ∧ moreT e = [showFrac v] ∧ SmallF v ∧ isMore e = false := by
          cases e <;> first | (cases hT; done) | exact ⟨_, _, rfl, rfl, rfl, hw.2, rfl⟩
        obtain ⟨a, v, v1, v2, v3, v4, v5⟩ := hv
        have i2 : Ix2 (cxOf CX0 P w K mg base n_expression_text "expression_text" (defScope s_expression_text) f cdv A outer s H E).nox (exprD e) (.int 2) (optFd (some v)) := by
          rw [es, v1, v2]
          exact ix2_tup rfl
        refine ss_one (s_append 2 rfl (.inl rfl) rfl (w_callP hvt (hr.mono r1) rfl pass (d_cons (w_ix (wv 0 rfl (w_int ⟨_, i2, (d_nil ⟨_, ⟨some v, rfl, fun f hf => by cases hf; exact v4, rfl⟩, ⟨_, rfl, by rw [List.length_map, List.length_map, List.length_map]; omega, ?_⟩⟩)⟩))))))
        have := behind psome ((subs e).map showExpr ++ moreT e) (fun z => by rw [v5] at z; cases z) (fun _ => rfl)
        rw [v3, List.map_append, List.map_append] at this
        exact this
      · rw [val_word] at hF
        refine behind psome ((subs e).map showExpr) (fun _ => rfl) fun hm => ?_
        have : moreT e = [] := by cases e <;> first | rfl | (cases hF; done) | (cases hm; done)
        rw [this, List.append_nil]
    · intro x hx
      exact ⟨_, fun s H0 C cl fp => (gn 3 nd rfl), fun s H0 C cl fp => ⟨rfl, rfl⟩, fun _ s H0 C cl fp => (w_callP ih (hr.mono r2) rfl pass (d_cons (wv 3 rfl (d_nil ⟨_, ⟨x, rfl, dep_subs hd x hx, wf_subs hw x hx, rfl⟩, rfl⟩))))⟩
end
end Fp

set_option Elab.async false
set_option linter.all false
set_option maxRecDepth 100000
set_option maxHeartbeats 2000000
namespace Fp
open PySem PySem.Spec PyProof.Rows L2 Dl
open VatmsBase (Bytes word PTok Toks Frac frac whole wrong here next nextWord showNat showInt PName)
open Vatmsa (Series Let Prog showFrac showValue showExpr fillWord overWord pairWord call2 line shown namesE unknown checkS checkL)
structure SerOk (s : Series) : Prop where
  nm : s.x.name.length ≤ 16
  len : s.row.length ≤ 16
  up : s.row.Pairwise (fun a b => a.t < b.t)
  tm : ∀ q ∈ s.row, q.t.natAbs ≤ 100000
  sv : ∀ q ∈ s.row, SmallV q.v
structure LetOk (x : Let) : Prop where
  nm : x.x.name.length ≤ 16
  dp : dep x.e ≤ 7
  wf : WfE x.e
structure PrOk (pr : Prog) : Prop where
  i : pr.ins.length ≤ 4
  l : pr.lets.length ≤ 8
  ins : ∀ s ∈ pr.ins, SerOk s
  lets : ∀ x ∈ pr.lets, LetOk x
structure PrC (K : PySem.W.Frag) (PC : Addr) : Prop where
  c : Cls K PC
  n1 : NoAttr K PC "series"
  n2 : NoAttr K PC "lets"
section
variable {P : Program} {w : World} {K : PySem.W.Frag} {mg : Str → Option Value} {base : Heap} {FC PC : Addr}
abbrev s_look_at_names : Stmt := top 60
abbrev n_look_at_names : List Str := ["program", "known", "name", "points", "place", "expression", "own", "own_place"]
theorem sc_look_at_names : FnScope n_look_at_names ["program"] (defScope s_look_at_names) := ⟨rfl, rfl, rfl, by decide +kernel, rfl, by decide +kernel, by decide +kernel⟩
def p_look (FC PC : Addr) : List D → Ox → Prop := fun ds o => ∃ pr : Prog, ds = [progD PC pr] ∧ PrOk pr ∧ o = outX FC (fun _ : Unit => D.non) ((checkS [] pr.ins).bind fun ns => checkL ns pr.lets)
theorem f_look_at_names (F : Fa K mg "look_at_names" s_look_at_names) (T : FaultK P w K mg base FC) (cP : PrC K PC) (hnm : Fv P w K mg base CX0 9 "names_in" ["expression"] (PureP (p_names_in 7))) : Fv P w K mg base (L2.CX P w) 10 "look_at_names" ["program"] (PureX (p_look FC PC)) := by
  refine fa_fv F (fun _ _ _ _ _ _ us hl => match us, hl with | [_], _ => rfl) fun f fd F => fnX F sc_look_at_names (fun Γ r h => by obtain ⟨ds, o, e, ⟨b, e2, _⟩, _⟩ := h; subst e; subst e2; rfl) ?_
  have nd := sc_look_at_names.nd
  intro cdv A outer s H E Γ r hr hp
  obtain ⟨_, o, rfl, ⟨pr, rfl, ok, ho⟩, rfl⟩ := pureX_of hp
  have hz : sizeLine = 16777216 := sizeLine_eq
  have tk : Takes (cxOf (L2.CX P w) P w K mg base n_look_at_names "look_at_names" (defScope s_look_at_names) f cdv A outer s H E) fun cls d _ H => E cls d H := takes_of rfl rfl rfl rfl
  refine ss_cons (ssN 1 nd (w_lst (d_nil ⟨len_le, fun pk => ?_⟩)))
  refine ss_cons (s_for (js := [2, 3, 4]) (passes_of rfl) rfl (i_list (w_fld (wv 0 rfl ⟨PC, _, _, rfl, cP.c, cP.n1, rfl, ⟨_, rfl, ?_⟩⟩))))
  refine for_ind seriesD (fun (t : List Bytes × Sl × Sl × Sl) => [.im (progD PC pr), .own pk (.lst ((t.1.map strB).map D.str)), t.2.1, t.2.2.1, t.2.2.2, .un, .un, .un])
    (fun t rest => t.1.length + rest.length ≤ 4 ∧ o = outX FC (fun _ : Unit => D.non) ((checkS t.1 rest).bind fun ns => checkL ns pr.lets)) ?_ ?_ _ ([], .un, .un, .un) ⟨by show 0 + pr.ins.length ≤ 4; have := ok.i; omega, ho⟩
  · clear ho
    rintro ⟨ns, s1, s2, s3⟩ x rest ⟨h1, ho⟩ nx hn
    have h1 : ns.length + (rest.length + 1) ≤ 4 := h1
    have ho : o = outX FC (fun _ : Unit => D.non) ((if ns.contains x.x.name = true then .error ⟨5, x.x.place⟩ else checkS (ns ++ [x.x.name]) rest).bind fun ns => checkL ns pr.lets) := ho
    refine (g1_tup rfl (gs_cons (gn 2 nd (gs_cons (gn 3 nd (gs_cons (gn 4 nd (gs_nil ?_))))))))
    refine ss_cons (s_if (t_see 1 rfl (t_cmp (wv 2 rfl (wv 1 rfl ⟨decide (strB x.x.name ∈ ns.map strB), o_inSL, ⟨fun hT => ?_, fun hF => ss_nil ?_⟩⟩)))))
    · rw [mem_strB] at hT
      rw [if_pos hT] at ho
      subst ho
      exact ss_one (s_raise T tk (hr.mono (by decide)) rfl pass (d_cons (w_int (d_cons (wv 4 rfl (d_nil ⟨[5, (x.x.place : Nat)], rfl, rfl, by decide, rfl⟩))))))
    · rw [mem_strB] at hF
      rw [if_neg (by rw [hF]; decide)] at ho
      refine ss_one (s_append 1 rfl (.inl rfl) rfl (wv 2 rfl ⟨_, rfl, by rw [List.length_map, List.length_map]; omega, ?_⟩))
      have := hn (ns ++ [x.x.name], .im (.str (strB x.x.name)), .im (rowD x.row), .im (Nd x.x.place)) ⟨by show (ns ++ [_]).length + rest.length ≤ 4; rw [List.length_append]; show ns.length + 1 + rest.length ≤ 4; omega, ho⟩
      rw [List.map_append, List.map_append] at this
      exact this
  · clear ho
    rintro ⟨ns, s1, s2, s3⟩ ⟨h1, ho⟩
    have h1 : ns.length ≤ 4 := h1
    have ho : o = outX FC (fun _ : Unit => D.non) (checkL ns pr.lets) := ho
    refine ss_one (s_for (js := [2, 5, 4]) (passes_of rfl) rfl (i_list (w_fld (wv 0 rfl ⟨PC, _, _, rfl, cP.c, cP.n2, rfl, ⟨_, rfl, ?_⟩⟩))))
    refine for_ind letD (fun (t : List Bytes × Sl × Sl × Sl × Sl × Sl × Sl) => [.im (progD PC pr), .own pk (.lst ((t.1.map strB).map D.str)), t.2.1, t.2.2.1, t.2.2.2.1, t.2.2.2.2.1, t.2.2.2.2.2.1, t.2.2.2.2.2.2])
      (fun t rest => (∀ x ∈ rest, LetOk x) ∧ t.1.length + rest.length ≤ 12 ∧ o = outX FC (fun _ : Unit => D.non) (checkL t.1 rest)) ?_ ?_ _ (ns, s1, s2, s3, .un, .un, .un) ⟨ok.lets, by show ns.length + pr.lets.length ≤ 12; have := ok.l; omega, ho⟩
    · clear ho h1
      rintro ⟨ns, s1, s2, s3, s4, s5, s6⟩ x rest ⟨hk, h1, ho⟩ nx hn
      have h1 : ns.length + (rest.length + 1) ≤ 12 := h1
      have kx := hk x List.mem_cons_self
      have ho : o = outX FC (fun _ : Unit => D.non) (if ns.contains x.x.name = true then .error ⟨5, x.x.place⟩ else match unknown ns x.e with
        | some y => .error ⟨8, y.place⟩
        | none => checkL (ns ++ [x.x.name]) rest) := ho
      refine (g1_tup rfl (gs_cons (gn 2 nd (gs_cons (gn 5 nd (gs_cons (gn 4 nd (gs_nil ?_))))))))
      refine ss_cons (s_if (t_see 1 rfl (t_cmp (wv 2 rfl (wv 1 rfl ⟨decide (strB x.x.name ∈ ns.map strB), o_inSL, ⟨fun hT => ?_, fun hF => ss_nil ?_⟩⟩)))))
      · rw [mem_strB] at hT
        rw [if_pos hT] at ho
        subst ho
        exact ss_one (s_raise T tk (hr.mono (by decide)) rfl pass (d_cons (w_int (d_cons (wv 4 rfl (d_nil ⟨[5, (x.x.place : Nat)], rfl, rfl, by decide, rfl⟩))))))
      rw [mem_strB] at hF
      rw [if_neg (by rw [hF]; decide)] at ho
      refine ss_cons (s_for (js := [6, 7]) (passes_of rfl) rfl (i_list (w_callP hnm (hr.mono (by decide)) rfl pass (d_cons (wv 5 rfl (d_nil ⟨_, ⟨x.e, rfl, kx.dp, rfl⟩, ⟨_, rfl, ?_⟩⟩))))))
      refine for_ind nmD (fun (t : Sl × Sl) => [.im (progD PC pr), .own pk (.lst ((ns.map strB).map D.str)), .im (.str (strB x.x.name)), s2, .im (Nd x.x.place), .im (exprD x.e), t.1, t.2])
        (fun _ ys => ys.find? (fun y => !ns.contains y.name) = unknown ns x.e) ?_ ?_ _ (s5, s6) rfl
      · rintro ⟨t1, t2⟩ y ys hy nx2 hn2
        have hy : (y :: ys).find? (fun y => !ns.contains y.name) = unknown ns x.e := hy
        rw [List.find?_cons] at hy
        refine (g1_tup rfl (gs_cons (gn 6 nd (gs_cons (gn 7 nd (gs_nil ?_))))))
        refine ss_one (s_if (t_see 1 rfl (t_cmp (wv 6 rfl (wv 1 rfl ⟨!decide (strB y.name ∈ ns.map strB), o_notInSL, ⟨fun hT => ?_, fun hF => ss_nil ?_⟩⟩)))))
        · rw [mem_strB] at hT
          rw [hT] at hy
          rw [← hy] at ho
          subst ho
          exact ss_one (s_raise T tk (hr.mono (by decide)) rfl pass (d_cons (w_int (d_cons (wv 7 rfl (d_nil ⟨[8, (y.place : Nat)], rfl, rfl, by decide, rfl⟩))))))
        · rw [mem_strB] at hF
          rw [hF] at hy
          exact hn2 (_, _) hy
      · rintro ⟨t1, t2⟩ hy
        have hy : none = unknown ns x.e := hy
        rw [← hy] at ho
        refine ss_one (s_append 1 rfl (.inl rfl) rfl (wv 2 rfl ⟨_, rfl, by rw [List.length_map, List.length_map]; omega, ?_⟩))
        have := hn (ns ++ [x.x.name], .im (.str (strB x.x.name)), s2, .im (Nd x.x.place), .im (exprD x.e), t1, t2) ⟨fun z hz => hk z (List.mem_cons_of_mem _ hz), by show (ns ++ [_]).length + rest.length ≤ 12; rw [List.length_append]; show ns.length + 1 + rest.length ≤ 12; omega, ho⟩
        rw [List.map_append, List.map_append] at this
        exact this
    · rintro ⟨ns, s1, s2, s3, s4, s5, s6⟩ ⟨_, _, ho⟩
      exact finX ho
end
end Fp

set_option Elab.async false
set_option linter.all false
set_option maxRecDepth 100000
set_option maxHeartbeats 2000000
namespace Fp
open PySem PySem.Spec PyProof.Rows L2 Dl
open VatmsBase (Bytes word PTok Toks Frac frac whole wrong here next nextWord showNat showInt PName)
open Vatmsa (Series Let Prog showFrac showValue showExpr fillWord overWord pairWord call2 line namesE unknown checkS checkL)
def ptLine (q : VPoint) : Bytes := showInt q.t ++ (word " : " ++ (showValue q.v ++ word " ;"))
def serLines (s : Series) : List Bytes := (word "series " ++ (s.x.name ++ word " {")) :: (s.row.map ptLine ++ [word "}"])
def letLine (x : Let) : Bytes := word "let " ++ (x.x.name ++ (word " = " ++ (showExpr x.e ++ word " ;")))
def linesOf (pr : Prog) : List Bytes := pr.ins.flatMap serLines ++ pr.lets.map letLine
theorem shown_lines (pr : Prog) : Vatmsa.shown pr = (linesOf pr).flatMap line := by
  unfold Vatmsa.shown linesOf
  rw [List.flatMap_append]
  congr 1
  · induction pr.ins with
    | nil => rfl
    | cons s l ih =>
      rw [List.flatMap_cons, List.flatMap_cons, List.flatMap_append, ← ih]
      congr 1
      unfold serLines
      rw [List.flatMap_cons, List.flatMap_append]
      congr 1
      congr 1
      rw [List.flatMap_map]; rfl
  · rw [List.flatMap_map]; rfl
theorem lit_series2 : Str.ofString "series " = strB (word "series ") := by decide +kernel
theorem lit_lb2 : Str.ofString " {" = strB (word " {") := by decide +kernel
theorem lit_rb2 : Str.ofString "}" = strB (word "}") := by decide +kernel
theorem lit_colon2 : Str.ofString " : " = strB (word " : ") := by decide +kernel
theorem lit_semi2 : Str.ofString " ;" = strB (word " ;") := by decide +kernel
theorem lit_let2 : Str.ofString "let " = strB (word "let ") := by decide +kernel
theorem lit_eq2 : Str.ofString " = " = strB (word " = ") := by decide +kernel
theorem lit_nl : Str.ofString "\n" = strB [10] := by decide +kernel
theorem val_len {v : Option Frac} (h : SmallV v) : (showValue v).length ≤ 14 := by
  cases v with
  | none => show (word "none").length ≤ 14; decide
  | some f =>
    obtain ⟨a, b⟩ := frac_len (h f rfl)
    show (showFrac f).length ≤ 14
    unfold showFrac
    split <;> simp <;> (try have : (word "/").length = 1 := by decide) <;> omega
def Sh (l : List Bytes) : Prop := ∀ b ∈ l, b.length ≤ 10000
theorem lw1 : (word "series ").length = 7 := by decide
theorem lw2 : (word " {").length = 2 := by decide
theorem lw3 : (word "}").length = 1 := by decide
theorem lw4 : (word " : ").length = 3 := by decide
theorem lw5 : (word " ;").length = 2 := by decide
theorem lw6 : (word "let ").length = 4 := by decide
theorem lw7 : (word " = ").length = 3 := by decide
theorem pt_len {q : VPoint} (h1 : q.t.natAbs ≤ 100000) (h2 : SmallV q.v) : (showInt q.t).length ≤ 7 ∧ (showValue q.v).length ≤ 14 ∧ (ptLine q).length ≤ 10000 := by
  have a := showInt_len (n := q.t) 6 (Nat.lt_of_le_of_lt h1 (by decide)) (by decide)
  have b := val_len h2
  refine ⟨a, b, ?_⟩
  unfold ptLine
  simp only [List.length_append, lw4, lw5]
  omega
theorem let_len {x : Let} (h : LetOk x) : (showExpr x.e).length ≤ 7680 ∧ (letLine x).length ≤ 10000 := by
  have a := show_len 7 x.e h.dp h.wf
  have b := h.nm
  refine ⟨by omega, ?_⟩
  unfold letLine
  simp only [List.length_append, lw6, lw7, lw5]
  omega
section
variable {P : Program} {w : World} {K : PySem.W.Frag} {mg : Str → Option Value} {base : Heap} {FC PC : Addr}
abbrev s_one_form : Stmt := top 63
abbrev n_one_form : List Str := ["program", "lines", "name", "points", "place", "one", "line", "time", "value"]
theorem sc_one_form : FnScope n_one_form ["program"] (defScope s_one_form) := ⟨rfl, rfl, rfl, by decide +kernel, rfl, by decide +kernel, by decide +kernel⟩
def p_one_form (PC : Addr) : List D → D → Prop := fun ds d => ∃ pr : Prog, ds = [progD PC pr] ∧ PrOk pr ∧ d = .str (strB (Vatmsa.shown pr))
abbrev enS (b : Bytes) : D := .str (strB b)
theorem enS_map (l : List Bytes) : l.map enS = (l.map strB).map D.str := by rw [List.map_map]; rfl
theorem f_one_form (F : Fa K mg "one_form" s_one_form) (cP : PrC K PC) (hvt : FvVText P w K mg base) (hex : Fv P w K mg base CX0 9 "expression_text" ["expression"] (PureP (p_expr_text 7))) (nstr : mg "str" = none) : Fv P w K mg base CX0 10 "one_form" ["program"] (PureP (p_one_form PC)) := by
  refine fa_fv F (fun _ _ _ _ _ _ us hl => match us, hl with | [_], _ => rfl) fun f fd F => fn0 F sc_one_form (fun Γ r ⟨ds, d, e, _, x, e2, _⟩ => by subst e; subst e2; rfl) ?_
  have nd := sc_one_form.nd
  rintro cdv A outer s H E _ _ hr ⟨_, _, rfl, rfl, pr, rfl, ok, rfl⟩
  have hz : sizeLine = 16777216 := sizeLine_eq
  refine ss_cons (ssN 1 nd (w_lst (d_nil ⟨len_le, fun pl => ?_⟩)))
  refine ss_cons (s_for (js := [2, 3, 4]) .never rfl (i_list (w_fld (wv 0 rfl ⟨PC, _, _, rfl, cP.c, cP.n1, rfl, ⟨_, rfl, ?_⟩⟩))))
  refine for_ind seriesD (fun (t : List Bytes × Sl × Sl × Sl) => [.im (progD PC pr), .own pl (.lst (t.1.map enS)), t.2.1, t.2.2.1, t.2.2.2, .un, .un, .un, .un])
    (fun t rest => (∀ x ∈ rest, SerOk x) ∧ t.1.length + 18 * rest.length ≤ 72 ∧ Sh t.1 ∧ t.1 ++ (rest.flatMap serLines ++ pr.lets.map letLine) = linesOf pr) ?_ ?_ _ ([], .un, .un, .un) ⟨ok.ins, by show 0 + 18 * pr.ins.length ≤ 72; have := ok.i; omega, (fun _ h => by cases h), rfl⟩
  · rintro ⟨acc, s1, s2, s3⟩ x rest ⟨hk, h1, h2, h3⟩ nx hn
    have h1 : acc.length + 18 * (rest.length + 1) ≤ 72 := h1
    have h2 : Sh acc := h2
    have h3 : acc ++ ((x :: rest).flatMap serLines ++ pr.lets.map letLine) = linesOf pr := h3
    have kx := hk x List.mem_cons_self
    have kn := kx.nm
    have kl := kx.len
    refine (g1_tup rfl (gs_cons (gn 2 nd (gs_cons (gn 3 nd (gs_cons (gn 4 nd (gs_nil ?_))))))))
    refine ss_cons (s_append 1 rfl (.inl rfl) rfl (w_bin (w_bin (w_str (wv 2 rfl ⟨_, (o_addS ?_), (w_str ⟨_, (o_addS ?_), ⟨_, rfl, by rw [List.length_map]; omega, ?_⟩⟩)⟩)))))
    · rw [lit_series2, strB_len, strB_len, lw1]; omega
    · rw [lit_series2, strB_append, strB_len, lit_lb2, strB_len, List.length_append, lw1, lw2]; omega
    rw [lit_series2, strB_append, lit_lb2, strB_append]
    refine ss_cons (s_extend 1 rfl (.inl rfl) rfl (w_new (wlc [("time", 7), ("value", 8)] [7, 8] ptD (fun _ => true) (fun q => enS (ptLine q)) nd (blkOk_by (by show blkC n_one_form (defScope s_one_form) _ _ = true; decide +kernel)) (i_list (wv 3 rfl ⟨_, rfl, ⟨x.row, rfl, by omega, ⟨_, _, rfl, rfl, ?_, ?_⟩, ?_⟩⟩)))))
    · rw [List.filter_eq_self.mpr (fun _ _ => rfl), List.length_map, List.length_append, List.length_map]
      show _ + 1 + _ ≤ _
      omega
    · rw [List.filter_eq_self.mpr (fun _ _ => rfl)]
      refine ss_one (s_append 1 rfl (.inl rfl) rfl (w_str ⟨_, rfl, ?_, ?_⟩))
      · rw [List.length_append, List.length_append, List.length_map, List.length_map]
        show _ + 1 + _ < _
        omega
      · rw [lit_rb2]
        have := hn (acc ++ serLines x, .im (.str (strB x.x.name)), .im (rowD x.row), .im (Nd x.x.place)) ⟨fun z hz => hk z (List.mem_cons_of_mem _ hz), ?_, ?_, ?_⟩
        · have e : (acc ++ serLines x).map enS = acc.map enS ++ [D.str (strB (word "series " ++ x.x.name ++ word " {"))] ++ x.row.map (fun q => enS (ptLine q)) ++ [D.str (strB (word "}"))] := by
            unfold serLines
            rw [List.map_append, List.map_cons, List.map_append, List.map_map]
            simp [List.append_assoc]
          rw [e] at this
          exact this
        · show (acc ++ serLines x).length + 18 * rest.length ≤ 72
          unfold serLines
          simp only [List.length_append, List.length_cons, List.length_map, List.length_nil]
          omega
        · intro b hb
          rcases List.mem_append.mp hb with hb | hb
          · exact h2 b hb
          · unfold serLines at hb
            rcases List.mem_cons.mp hb with rfl | hb
            · simp only [List.length_append, lw1, lw2]; omega
            rcases List.mem_append.mp hb with hb | hb
            · obtain ⟨q, hq, rfl⟩ := List.mem_map.mp hb
              exact (pt_len (kx.tm q hq) (kx.sv q hq)).2.2
            · rw [List.mem_singleton.mp hb, lw3]; decide
        · rw [← h3]
          show (acc ++ serLines x) ++ _ = acc ++ _
          rw [List.flatMap_cons, List.append_assoc, List.append_assoc]
    · intro q hq
      obtain ⟨l1, l2, _⟩ := pt_len (kx.tm q hq) (kx.sv q hq)
      have tq := kx.tm q hq
      refine ⟨_, fun s H0 C cl fp => (g1_tup rfl (gs_cons (gn 7 nd (gs_cons (gn 8 nd (gs_nil rfl)))))), fun s H0 C cl fp => ⟨rfl, rfl⟩, fun _ s H0 C cl fp => (w_bin (w_bin (w_bin (w_callTy rfl nstr boot_str (d_cons (wv 7 rfl (d_nil ⟨_, (c_str (log_small (Nat.le_trans tq (by decide)))), (w_str ⟨_, (o_addS ?_), (w_callP hvt (hr.mono (by decide)) rfl pass (d_cons (wv 8 rfl (d_nil ⟨_, ⟨q.v, rfl, kx.sv q hq, rfl⟩, ⟨_, (o_addS ?_), (w_str ⟨_, (o_addS ?_), ?_⟩)⟩⟩))))⟩)⟩)))))))⟩
      · rw [str_int, strB_len, lit_colon2, strB_len, lw4]; omega
      · rw [str_int, lit_colon2, strB_append, strB_len, strB_len, List.length_append, lw4]; omega
      · rw [str_int, lit_colon2, strB_append, strB_append, lit_semi2, strB_len, strB_len, List.length_append, List.length_append, lw4, lw5]; omega
      · rw [str_int, lit_colon2, strB_append, strB_append, lit_semi2, strB_append]
        show D.str (strB _) = D.str (strB (ptLine q))
        unfold ptLine
        rw [List.append_assoc, List.append_assoc]
  · rintro ⟨acc, s1, s2, s3⟩ ⟨_, h1, h2, h3⟩
    have h1 : acc.length ≤ 72 := by have : acc.length + 18 * 0 ≤ 72 := h1; omega
    have h2 : Sh acc := h2
    have h3 : acc ++ pr.lets.map letLine = linesOf pr := h3
    have kl := ok.l
    refine ss_cons (s_extend 1 rfl (.inl rfl) rfl (w_new (wlc [("name", 2), ("one", 5), ("place", 4)] [2, 5, 4] letD (fun _ => true) (fun x => enS (letLine x)) nd (blkOk_by (by show blkC n_one_form (defScope s_one_form) _ _ = true; decide +kernel)) (i_list (w_fld (wv 0 rfl ⟨PC, _, _, rfl, cP.c, cP.n2, rfl, ⟨_, rfl, ⟨pr.lets, rfl, by omega, ⟨_, _, rfl, rfl, ?_, ?_⟩, ?_⟩⟩⟩))))))
    · rw [List.filter_eq_self.mpr (fun _ _ => rfl), List.length_map, List.length_map]; omega
    · rw [List.filter_eq_self.mpr (fun _ _ => rfl), show pr.lets.map (fun x => enS (letLine x)) = (pr.lets.map letLine).map enS by rw [List.map_map]; rfl, ← List.map_append, h3]
      have hl : (linesOf pr).length ≤ 80 := by rw [← h3, List.length_append, List.length_map]; omega
      have hs : Sh (linesOf pr) := fun b hb => by
        rw [← h3] at hb
        rcases List.mem_append.mp hb with hb | hb
        · exact h2 b hb
        · obtain ⟨x, hx, rfl⟩ := List.mem_map.mp hb
          exact (let_len (ok.lets x hx)).2
      refine ss_one (s_ret (w_see 1 rfl (w_join (w_str ⟨_, rfl, (w_new (wlc [("line", 6)] [6] enS (fun _ => true) (fun b => .str (strB (b ++ [10]))) nd (blkOk_by (by show blkC n_one_form (defScope s_one_form) _ _ = true; decide +kernel)) (i_list (wv 1 rfl ⟨_, rfl, ⟨linesOf pr, rfl, by omega, ⟨((linesOf pr).map fun b => b ++ [10]).map strB, ?_, ?_, .str _, fin_eq (ds := [progD PC pr]) ?_⟩, ?_⟩⟩))))⟩))))
      · rw [List.filter_eq_self.mpr (fun _ _ => rfl), List.map_map, List.map_map]; rfl
      · rw [List.map_map, List.length_map, List.length_map]
        have : ∀ l : List Bytes, Sh l → ((l.map fun b => b ++ [10]).map ((fun x : Str => x.length) ∘ strB)).sum ≤ 10001 * l.length := by
          intro l
          induction l with
          | nil => intro _; exact Nat.le_refl _
          | cons b l ih =>
            intro h
            rw [List.map_cons, List.map_cons, List.sum_cons, List.length_cons]
            have i := ih fun x hx => h x (List.mem_cons_of_mem _ hx)
            have hb := h b List.mem_cons_self
            have : ((fun x : Str => x.length) ∘ strB) (b ++ [10]) = b.length + 1 := by
              show (strB (b ++ [10])).length = _
              rw [strB_len, List.length_append]; rfl
            rw [this]
            omega
        have := this _ hs
        show _ + _ * 0 ≤ _
        omega
      · rw [join_empty, shown_lines]
        congr 2
      · intro b hb
        have lb := hs b hb
        refine ⟨_, fun s H0 C cl fp => (gn 6 nd rfl), fun s H0 C cl fp => ⟨rfl, rfl⟩, fun _ s H0 C cl fp => (w_bin (wv 6 rfl (w_str ⟨_, (o_addS ?_), ?_⟩)))⟩
        · rw [strB_len]; show _ + 1 ≤ _; omega
        · rw [lit_nl, strB_append]
    · intro x hx
      have lx := ok.lets x hx
      obtain ⟨l1, _⟩ := let_len lx
      have ln := lx.nm
      refine ⟨_, fun s H0 C cl fp => (g1_tup rfl (gs_cons (gn 2 nd (gs_cons (gn 5 nd (gs_cons (gn 4 nd (gs_nil rfl)))))))), fun s H0 C cl fp => ⟨rfl, rfl⟩, fun _ s H0 C cl fp => (w_bin (w_bin (w_bin (w_bin (w_str (wv 2 rfl ⟨_, (o_addS ?_), (w_str ⟨_, (o_addS ?_), (w_callP hex (hr.mono (by decide)) rfl pass (d_cons (wv 5 rfl (d_nil ⟨_, ⟨x.e, rfl, lx.dp, lx.wf, rfl⟩, ⟨_, (o_addS ?_), (w_str ⟨_, (o_addS ?_), ?_⟩)⟩⟩))))⟩)⟩))))))⟩
      · rw [lit_let2, strB_len, strB_len, lw6]; omega
      · rw [lit_let2, strB_append, lit_eq2, strB_len, strB_len, List.length_append, lw6, lw7]; omega
      · rw [lit_let2, strB_append, lit_eq2, strB_append, strB_len, strB_len, List.length_append, List.length_append, lw6, lw7]; omega
      · rw [lit_let2, strB_append, lit_eq2, strB_append, strB_append, lit_semi2, strB_len, strB_len, List.length_append, List.length_append, List.length_append, lw6, lw7, lw5]; omega
      · rw [lit_let2, strB_append, lit_eq2, strB_append, strB_append, lit_semi2, strB_append]
        show D.str (strB _) = D.str (strB (letLine x))
        unfold letLine
        rw [List.append_assoc, List.append_assoc, List.append_assoc]
end
end Fp

set_option Elab.async false
set_option linter.all false
set_option maxRecDepth 100000
set_option maxHeartbeats 2000000
/-! What is read is in order. -/
namespace Fp
open PySem PySem.Spec PyProof.Rows L2 Dl
open VatmsBase (Bytes word PTok Toks Frac frac whole wrong here next nextWord taken takeWord takeSign takeName PName RESERVED token lex numberOf decimal)
open Vatmsa (takeTime takeFrac takeValue takeExpr takePoints takeLets takeSeries Series Let Prog takeTwo takeWith takeOne takeFill takeOver takeStep takeLength)
theorem token_ok {c : UInt8} {r : Bytes} {t : VatmsBase.Tok} {k : Nat} (h : token (c :: r) = some (t, k)) : tokOk t ∧ t ≠ .last ∧ 1 ≤ k := by
  by_cases ha : alnum c = true
  · rw [token_word ha] at h
    have ne := wordAt_ne (r := r) ha
    have al := wordAt_alnum (c :: r)
    have ln : 1 ≤ (wordAt (c :: r)).length := List.length_pos_iff.mpr ne
    revert h ne al ln
    generalize wordAt (c :: r) = b
    intro h ne al ln
    cases ht : tokOf b with
    | none => rw [ht] at h; cases h
    | some tk =>
      rw [ht] at h
      have h : (tk, b.length) = (t, k) := Option.some.inj h
      obtain ⟨rfl, rfl⟩ := Prod.mk.inj h
      unfold tokOf at ht
      cases b with
      | nil => cases ht
      | cons x y =>
        simp only at ht
        split at ht
        · split at ht
          · cases ht
          · rename_i hn
            cases ht
            exact ⟨⟨Nat.le_of_not_lt hn, al⟩, (by intro z; cases z), ln⟩
        · cases hk : numberOf (x :: y) with
          | none => rw [hk] at ht; cases ht
          | some v =>
            rw [hk] at ht
            cases ht
            unfold numberOf at hk
            split at hk
            · cases hk
            · rename_i hq
              cases hk
              refine ⟨?_, (by intro z; cases z), ln⟩
              show decimal (x :: y) ≤ 1000000000
              have : ¬ 1000000000 < decimal (x :: y) := fun z => hq (.inr (.inr (.inr z)))
              omega
  · have ha : alnum c = false := Bool.eq_false_iff.mpr ha
    cases hs : VatmsBase.SIGNS.contains c with
    | false => rw [token_none hs ha] at h; cases h
    | true =>
      rw [token_sign hs] at h
      cases h
      exact ⟨List.mem_map.mpr ⟨c, by simpa using hs, rfl⟩, (by intro z; cases z), Nat.le_refl _⟩
theorem lex_ok : ∀ (n at_ : Nat) (b : Bytes) (l : Toks), lex n at_ b = .ok l → LT l ∧ l.length ≤ b.length + 1
  | 0, at_, b, l, h => by
    cases h
    exact ⟨⟨⟨[], at_, rfl, fun t ht => by cases ht⟩, fun t ht => by rw [List.mem_singleton.mp ht]; trivial⟩, by simp⟩
  | n + 1, at_, [], l, h => by
    cases h
    exact ⟨⟨⟨[], at_, rfl, fun t ht => by cases ht⟩, fun t ht => by rw [List.mem_singleton.mp ht]; trivial⟩, by simp⟩
  | n + 1, at_, c :: r, l, h => by
    rw [lex_cons] at h
    split at h
    · have := lex_ok n _ r l h
      exact ⟨this.1, by rw [List.length_cons]; omega⟩
    split at h
    · have := lex_ok n _ _ l h
      have le : (r.dropWhile (· != 10)).length ≤ r.length := by rw [← drop_takeWhile, List.length_drop]; omega
      exact ⟨this.1, by rw [List.length_cons]; omega⟩
    cases ht : token (c :: r) with
    | none => rw [ht] at h; cases h
    | some x =>
      rw [ht] at h
      obtain ⟨t, k⟩ := x
      obtain ⟨o1, o2, o3⟩ := token_ok ht
      obtain ⟨l2, e2, e3⟩ := map_ok h
      obtain ⟨⟨⟨init, q, i1, i2⟩, i3⟩, i4⟩ := lex_ok n _ _ l2 e2
      subst e3
      refine ⟨⟨⟨⟨at_, t⟩ :: init, q, by rw [i1]; rfl, fun u hu => ?_⟩, fun u hu => ?_⟩, ?_⟩
      · rcases List.mem_cons.mp hu with rfl | hu
        · exact o2
        · exact i2 u hu
      · rcases List.mem_cons.mp hu with rfl | hu
        · exact o1
        · exact i3 u hu
      · rw [List.length_drop] at i4
        rw [List.length_cons]
        rw [List.length_cons] at i4 ⊢
        omega
theorem name_ok {all l l' : Toks} {x : PName} (st : St all l) (h : takeName l = .ok (x, l')) : x.name.length ≤ 16 := by
  obtain ⟨⟨q, k⟩, r, rfl⟩ := st.lt.cons
  have ok := st.lt.ok _ List.mem_cons_self
  unfold takeName at h
  cases k with
  | name b =>
    simp only at h
    split at h
    · cases h
    · cases h; exact ok.1
  | _ => cases h
theorem sgn_ok {hi : Nat} {l l' : Toks} {i : Int} (h : sgnF hi l = .ok (i, l')) : i.natAbs ≤ hi := by
  unfold sgnF at h
  split at h
  · split at h
    · cases h
    · cases h
      split <;> omega
  · cases h
theorem frac_small {a : Int} {d : Nat} (ha : a.natAbs ≤ 1000000) (h0 : 0 < d) (hd : d ≤ 1000) : SmallF (frac a d) := by
  have n := norm_frac (a := a) h0
  rw [frac_eq h0] at n ⊢
  exact ⟨Nat.le_trans (natAbs_div_le a _ (Nat.gcd_dvd_left _ _)) ha, Nat.le_trans (Nat.div_le_self _ _) hd, n.pos, n.cop⟩
theorem whole_small {a : Int} (ha : a.natAbs ≤ 1000000) : SmallF (whole a) := ⟨ha, by show (1 : Nat) ≤ 1000; decide, Nat.one_pos, Nat.gcd_one_right _⟩
theorem frac_ok {l l' : Toks} {v : Frac} (h : takeFrac l = .ok (v, l')) : SmallF v := by
  rw [frac_sgn] at h
  obtain ⟨x, e, h⟩ := bind_ok h
  have hi := sgn_ok e
  unfold overF divF at h
  split at h
  · split at h
    · split at h
      · cases h
      · rename_i hn
        cases h
        exact frac_small hi (by omega) (by omega)
    · cases h
  · cases h
    exact whole_small hi
theorem value_ok {l l' : Toks} {v : Option Frac} (h : takeValue l = .ok (v, l')) : SmallV v := by
  unfold takeValue at h
  split at h
  · cases h; intro f hf; cases hf
  · obtain ⟨x, e, h⟩ := map_ok h
    cases h
    intro f hf
    cases hf
    exact frac_ok e
structure RowOk (r : List VPoint) : Prop where
  len : r.length ≤ 16
  up : r.Pairwise (fun a b => a.t < b.t)
  tm : ∀ q ∈ r, q.t.natAbs ≤ 100000
  sv : ∀ q ∈ r, SmallV q.v
theorem points_ok : ∀ (n : Nat) (row : List VPoint) (all l l' : Toks) (r : List VPoint), St all l → RowOk row → takePoints n row l = .ok (r, l') → RowOk r
  | 0, row, all, l, l', r, st, ok, h => by cases h
  | n + 1, row, all, l, l', r, st, ok, h => by
    rw [takePoints_succ] at h
    split at h
    · cases h; exact ok
    split at h
    · cases h
    rename_i hl
    obtain ⟨x, e, h⟩ := bind_ok h
    obtain ⟨a1, a2, a3⟩ := adv_point st e
    refine points_ok n _ all x.2 l' r a1 ⟨?_, ?_, ?_, ?_⟩ h
    · rw [List.length_append]; show row.length + 1 ≤ 16; omega
    · rw [List.pairwise_append]
      exact ⟨ok.up, List.pairwise_singleton _ _, fun a ha b hb => by rw [List.mem_singleton.mp hb]; exact a3 a ha⟩
    all_goals
      intro q hq
      rcases List.mem_append.mp hq with hq | hq
      · first | exact ok.tm q hq | exact ok.sv q hq
      · rw [List.mem_singleton.mp hq]
        unfold pointF at e
        obtain ⟨t, e1, e⟩ := bind_ok e
        split at e
        · cases e
        obtain ⟨m, e2, e⟩ := bind_ok e
        obtain ⟨v, e3, e⟩ := bind_ok e
        obtain ⟨z, e4, e⟩ := map_ok e
        rw [← e]
        first | exact sgn_ok (show sgnF 100000 l = .ok (t.1, t.2) from e1) | exact value_ok (show takeValue m = .ok (v.1, v.2) from e3)
theorem series_ok {all l l' : Toks} {s : Series} (st : St all l) (h : seriesF l = .ok (s, l')) : SerOk s := by
  unfold seriesF at h
  obtain ⟨x, e1, h⟩ := bind_ok h
  obtain ⟨m, e2, h⟩ := bind_ok h
  obtain ⟨p, e3, h⟩ := map_ok h
  have a1 := adv_name all l x.1 x.2 st e1
  have a2 := adv_sign 123 all x.2 m a1.1 e2
  have ok := points_ok _ [] all m p.2 p.1 a2.1 ⟨Nat.zero_le _, .nil, fun q hq => (by cases hq), fun q hq => (by cases hq)⟩ e3
  cases h
  exact ⟨name_ok st e1, ok.len, ok.up, ok.tm, ok.sv⟩
theorem with_ok {A : Type} {n : Nat} {g : Toks → Except VF (A × Toks)} {f : VExpr → A → VExpr} {all l l' : Toks} {e : VExpr} (ih : ∀ all l e l', St all l → takeExpr n l = .ok (e, l') → dep e ≤ n ∧ WfE e) (st : St all l)
    (h : ((takeWith (takeExpr n) g l).map fun a => (f a.1 a.2.1, a.2.2)) = .ok (e, l')) : ∃ a x m2 l2, (dep a ≤ n ∧ WfE a) ∧ g m2 = .ok (x, l2) ∧ e = f a x := by
  obtain ⟨z, h, e0⟩ := map_ok h
  unfold takeWith at h
  obtain ⟨m, e1, h⟩ := bind_ok h
  obtain ⟨a, e2, h⟩ := bind_ok h
  obtain ⟨m2, e3, h⟩ := bind_ok h
  obtain ⟨x, e4, h⟩ := bind_ok h
  obtain ⟨m3, e5, h⟩ := map_ok h
  have a1 := adv_sign 40 all l m st e1
  subst h
  cases e0
  exact ⟨a.1, x.1, m2, x.2, ih all m a.1 a.2 a1.1 e2, e4, rfl⟩
theorem two_ok {n : Nat} {f : VExpr → VExpr → VExpr} {all l l' : Toks} {e : VExpr} (ih : ∀ all l e l', St all l → takeExpr n l = .ok (e, l') → dep e ≤ n ∧ WfE e) (st : St all l)
    (h : ((takeTwo (takeExpr n) l).map fun a => (f a.1 a.2.1, a.2.2)) = .ok (e, l')) : ∃ a b, (dep a ≤ n ∧ WfE a) ∧ (dep b ≤ n ∧ WfE b) ∧ e = f a b := by
  obtain ⟨z, h, e0⟩ := map_ok h
  unfold takeTwo at h
  obtain ⟨m, e1, h⟩ := bind_ok h
  obtain ⟨a, e2, h⟩ := bind_ok h
  obtain ⟨m2, e3, h⟩ := bind_ok h
  obtain ⟨b, e4, h⟩ := bind_ok h
  obtain ⟨m3, e5, h⟩ := map_ok h
  have a1 := adv_sign 40 all l m st e1
  have a2 := adv_takeExpr n (all := all) a1.1 (show takeExpr n m = .ok (a.1, a.2) from e2)
  have a3 := adv_sign 44 all a.2 m2 a2.1 e3
  subst h
  cases e0
  exact ⟨a.1, b.1, ih all m a.1 a.2 a1.1 e2, ih all m2 b.1 b.2 a3.1 e4, rfl⟩
theorem one_ok {n : Nat} {f : VExpr → VExpr} {all l l' : Toks} {e : VExpr} (ih : ∀ all l e l', St all l → takeExpr n l = .ok (e, l') → dep e ≤ n ∧ WfE e) (st : St all l)
    (h : ((takeOne (takeExpr n) l).map fun a => (f a.1, a.2)) = .ok (e, l')) : ∃ a, (dep a ≤ n ∧ WfE a) ∧ e = f a := by
  obtain ⟨z, h, e0⟩ := map_ok h
  unfold takeOne at h
  obtain ⟨m, e1, h⟩ := bind_ok h
  obtain ⟨a, e2, h⟩ := bind_ok h
  obtain ⟨m3, e5, h⟩ := map_ok h
  have a1 := adv_sign 40 all l m st e1
  subst h
  cases e0
  exact ⟨a.1, ih all m a.1 a.2 a1.1 e2, rfl⟩
theorem length_ok {l l' : Toks} {x : Nat × Vatmsa.Over} (h : takeLength l = .ok (x, l')) : 1 ≤ x.1 ∧ x.1 ≤ 100000 := by
  unfold takeLength at h
  obtain ⟨k, e1, h⟩ := bind_ok h
  obtain ⟨m, e2, h⟩ := bind_ok h
  obtain ⟨o, e3, h⟩ := map_ok h
  cases h
  unfold takeStep at e1
  split at e1
  · split at e1
    · cases e1
    · rename_i n _ hn
      cases e1
      have hn : ¬ (n = 0 ∨ 100000 < n) := hn
      show 1 ≤ n ∧ n ≤ 100000
      omega
  · cases e1
theorem expr_ok : ∀ (n : Nat) (all l : Toks) (e : VExpr) (l' : Toks), St all l → takeExpr n l = .ok (e, l') → dep e ≤ n ∧ WfE e
  | 0, all, l, e, l', st, h => by cases h
  | n + 1, all, l, e, l', st, h => by
    obtain ⟨⟨q, k⟩, r, rfl⟩ := st.lt.cons
    have non : (∀ b, k ≠ .name b) → False := fun hk => by
      have := expr_eq (n + 1) (⟨q, k⟩ :: r)
      rw [h] at this
      cases k with
      | name b => exact hk b rfl
      | _ => cases this
    cases k with
    | name b =>
    have st1 := st.drop rfl (by intro z; cases z)
    rw [takeExpr_name] at h
    by_cases cshift : (b == word "shift") = true
    · rw [if_pos cshift] at h
      obtain ⟨a, x, m2, l2, ha, hx, rfl⟩ := with_ok (g := takeTime) (f := fun a t => .shift a t) (expr_ok n) st1 h
      exact ⟨Nat.succ_le_succ ha.1, ha.2, sgn_ok (show sgnF 100000 m2 = .ok (x, l2) from hx)⟩
    rw [if_neg cshift] at h
    by_cases cscale : (b == word "scale") = true
    · rw [if_pos cscale] at h
      obtain ⟨a, x, m2, l2, ha, hx, rfl⟩ := with_ok (g := takeFrac) (f := fun a v => .scale a v) (expr_ok n) st1 h
      exact ⟨Nat.succ_le_succ ha.1, ha.2, frac_ok hx⟩
    rw [if_neg cscale] at h
    by_cases cadd : (b == word "add") = true
    · rw [if_pos cadd] at h
      obtain ⟨a, b, ha, hb, rfl⟩ := two_ok (f := fun a b => .pair .add a b) (expr_ok n) st1 h
      exact ⟨by show max _ _ + 1 ≤ _; omega, ha.2, hb.2⟩
    rw [if_neg cadd] at h
    by_cases csub : (b == word "sub") = true
    · rw [if_pos csub] at h
      obtain ⟨a, b, ha, hb, rfl⟩ := two_ok (f := fun a b => .pair .sub a b) (expr_ok n) st1 h
      exact ⟨by show max _ _ + 1 ≤ _; omega, ha.2, hb.2⟩
    rw [if_neg csub] at h
    by_cases cleast : (b == word "least") = true
    · rw [if_pos cleast] at h
      obtain ⟨a, b, ha, hb, rfl⟩ := two_ok (f := fun a b => .pair .least a b) (expr_ok n) st1 h
      exact ⟨by show max _ _ + 1 ≤ _; omega, ha.2, hb.2⟩
    rw [if_neg cleast] at h
    by_cases cmost : (b == word "most") = true
    · rw [if_pos cmost] at h
      obtain ⟨a, b, ha, hb, rfl⟩ := two_ok (f := fun a b => .pair .most a b) (expr_ok n) st1 h
      exact ⟨by show max _ _ + 1 ≤ _; omega, ha.2, hb.2⟩
    rw [if_neg cmost] at h
    by_cases casof : (b == word "asof") = true
    · rw [if_pos casof] at h
      obtain ⟨a, b, ha, hb, rfl⟩ := two_ok (f := fun a b => .asof a b) (expr_ok n) st1 h
      exact ⟨by show max _ _ + 1 ≤ _; omega, ha.2, hb.2⟩
    rw [if_neg casof] at h
    by_cases cmerge : (b == word "merge") = true
    · rw [if_pos cmerge] at h
      obtain ⟨a, b, ha, hb, rfl⟩ := two_ok (f := fun a b => .merge a b) (expr_ok n) st1 h
      exact ⟨by show max _ _ + 1 ≤ _; omega, ha.2, hb.2⟩
    rw [if_neg cmerge] at h
    by_cases cfill : (b == word "fill") = true
    · rw [if_pos cfill] at h
      obtain ⟨a, x, m2, l2, ha, hx, rfl⟩ := with_ok (g := takeFill) (f := fun a v => .fill a v) (expr_ok n) st1 h
      exact ⟨Nat.succ_le_succ ha.1, ha.2⟩
    rw [if_neg cfill] at h
    by_cases cwindow : (b == word "window") = true
    · rw [if_pos cwindow] at h
      obtain ⟨a, x, m2, l2, ha, hx, rfl⟩ := with_ok (g := takeLength) (f := fun a v => .window a v.1 v.2) (expr_ok n) st1 h
      exact ⟨Nat.succ_le_succ ha.1, ha.2, length_ok hx⟩
    rw [if_neg cwindow] at h
    by_cases cdiff : (b == word "diff") = true
    · rw [if_pos cdiff] at h
      obtain ⟨a, ha, rfl⟩ := one_ok (f := fun a => .diff a) (expr_ok n) st1 h
      exact ⟨Nat.succ_le_succ ha.1, ha.2⟩
    rw [if_neg cdiff] at h
    by_cases crun : (b == word "run") = true
    · rw [if_pos crun] at h
      obtain ⟨a, ha, rfl⟩ := one_ok (f := fun a => .run a) (expr_ok n) st1 h
      exact ⟨Nat.succ_le_succ ha.1, ha.2⟩
    rw [if_neg crun] at h
    by_cases cover : (b == word "over") = true
    · rw [if_pos cover] at h
      obtain ⟨a, x, m2, l2, ha, hx, rfl⟩ := with_ok (g := takeFrac) (f := fun a v => .over a v) (expr_ok n) st1 h
      exact ⟨Nat.succ_le_succ ha.1, ha.2, frac_ok hx⟩
    rw [if_neg cover] at h
    obtain ⟨x, e1, h⟩ := map_ok h
    have := name_ok st (show takeName _ = .ok (x.1, x.2) from e1)
    cases h
    exact ⟨by show 1 ≤ n + 1; omega, this⟩
    | _ => exact (non (by intro b z; cases z)).elim
theorem let_ok {all l l' : Toks} {x : Let} (st : St all l) (h : letF l = .ok (x, l')) : LetOk x := by
  unfold letF at h
  obtain ⟨y, e1, h⟩ := bind_ok h
  obtain ⟨m, e2, h⟩ := bind_ok h
  obtain ⟨e, e3, h⟩ := bind_ok h
  obtain ⟨r, e4, h⟩ := map_ok h
  have a1 := adv_name all l y.1 y.2 st e1
  have a2 := adv_sign 61 all y.2 m a1.1 e2
  have ok := expr_ok 7 all m e.1 e.2 a2.1 e3
  cases h
  exact ⟨name_ok st e1, ok.1, ok.2⟩
theorem allS_ok : ∀ (n : Nat) (ss : List Series) (all l l' : Toks) (r : List Series), St all l → ss.length ≤ 4 → (∀ s ∈ ss, SerOk s) → takeSeries n ss l = .ok (r, l') → (r.length ≤ 4 ∧ (∀ s ∈ r, SerOk s)) ∧ St all l'
  | 0, ss, all, l, l', r, st, h1, h2, h => by cases h
  | n + 1, ss, all, l, l', r, st, h1, h2, h => by
    rw [takeSeries_succ] at h
    split at h
    · rename_i hn
      split at h
      · cases h
      obtain ⟨x, e, h⟩ := bind_ok h
      have st3 := adv_taken (t := .name (word "series")) (by intro z; cases z) all l (l.drop 1) st (by unfold taken; rw [if_pos (show next (.name (word "series")) l = true from hn)])
      have ok := series_ok st3.1 (show seriesF (l.drop 1) = .ok (x.1, x.2) from e)
      have a := adv_series st3.1 (show seriesF (l.drop 1) = .ok (x.1, x.2) from e)
      refine allS_ok n _ all x.2 l' r a.1 ?_ ?_ h
      · rw [List.length_append]; show ss.length + 1 ≤ 4; omega
      · intro s hs
        rcases List.mem_append.mp hs with hs | hs
        · exact h2 s hs
        · rw [List.mem_singleton.mp hs]; exact ok
    · cases h
      exact ⟨⟨h1, h2⟩, st⟩
theorem allL_ok : ∀ (n : Nat) (ls : List Let) (all l : Toks) (r : List Let), St all l → ls.length ≤ 8 → (∀ s ∈ ls, LetOk s) → takeLets n ls l = .ok r → r.length ≤ 8 ∧ (∀ s ∈ r, LetOk s)
  | 0, ss, all, l, r, st, h1, h2, h => by cases h
  | n + 1, ss, all, l, r, st, h1, h2, h => by
    rw [takeLets_succ] at h
    split at h
    · cases h; exact ⟨h1, h2⟩
    split at h
    · rename_i hn
      split at h
      · cases h
      obtain ⟨x, e, h⟩ := bind_ok h
      have st3 := adv_taken (t := .name (word "let")) (by intro z; cases z) all l (l.drop 1) st (by unfold taken; rw [if_pos (show next (.name (word "let")) l = true from hn)])
      have ok := let_ok st3.1 (show letF (l.drop 1) = .ok (x.1, x.2) from e)
      have a := adv_let st3.1 (show letF (l.drop 1) = .ok (x.1, x.2) from e)
      refine allL_ok n _ all x.2 r a.1 ?_ ?_ h
      · rw [List.length_append]; show ss.length + 1 ≤ 8; omega
      · intro s hs
        rcases List.mem_append.mp hs with hs | hs
        · exact h2 s hs
        · rw [List.mem_singleton.mp hs]; exact ok
    · cases h
theorem prog_ok {l : Toks} {pr : Prog} (st : St l l) (h : progF l = .ok pr) : PrOk pr := by
  unfold progF at h
  obtain ⟨s, e1, h⟩ := bind_ok h
  obtain ⟨ls, e2, h⟩ := map_ok h
  have a := allS_ok _ [] l l s.2 s.1 st (Nat.zero_le _) (fun s hs => by cases hs) e1
  have b := allL_ok _ [] l s.2 ls a.2 (Nat.zero_le _) (fun s hs => by cases hs) e2
  subst h
  exact ⟨a.1.1, b.1, a.1.2, b.2⟩
def checkNames (p : Prog) : Except VF Unit := (Vatmsa.checkS [] p.ins).bind fun ns => Vatmsa.checkL ns p.lets
theorem read_eq (b : Bytes) : Vatmsa.read b = (VatmsBase.tokens b).bind fun l => (progF l).bind fun p => (checkNames p).bind fun _ => if p.ins.isEmpty = true then .error ⟨13, 0⟩ else if 4096 < (Vatmsa.shown p).length then .error ⟨16, 0⟩ else .ok p := by
  unfold Vatmsa.read
  cases VatmsBase.tokens b with
  | error e => rfl
  | ok l =>
    show (takeSeries (l.length + 1) [] l).bind _ = (progF l).bind _
    unfold progF
    cases takeSeries (l.length + 1) [] l with
    | error e => rfl
    | ok s =>
      show (takeLets (l.length + 1) [] s.2).bind _ = ((takeLets (l.length + 1) [] s.2).map _).bind _
      cases takeLets (l.length + 1) [] s.2 with
      | error e => rfl
      | ok ls =>
        show (Vatmsa.checkS [] s.1).bind _ = ((Vatmsa.checkS [] s.1).bind _).bind _
        cases Vatmsa.checkS [] s.1 with
        | error e => rfl
        | ok ns =>
          show (Vatmsa.checkL ns ls).bind _ = (Vatmsa.checkL ns ls).bind _
          cases Vatmsa.checkL ns ls <;> rfl
end Fp

set_option Elab.async false
set_option linter.all false
set_option maxRecDepth 100000
set_option maxHeartbeats 2000000
namespace Fp
open PySem PySem.Spec PyProof.Rows L2 Dl
open VatmsBase (Bytes word PTok Toks Frac frac whole wrong here lex)
open Vatmsa (Series Let Prog)
theorem ser_lines {s : Series} (h : SerOk s) : (serLines s).length ≤ 18 ∧ Sh (serLines s) := by
  refine ⟨?_, fun b hb => ?_⟩
  · have := h.len
    unfold serLines
    simp only [List.length_cons, List.length_append, List.length_map, List.length_nil]; omega
  · have kn := h.nm
    unfold serLines at hb
    rcases List.mem_cons.mp hb with rfl | hb
    · simp only [List.length_append, lw1, lw2]; omega
    rcases List.mem_append.mp hb with hb | hb
    · obtain ⟨q, hq, rfl⟩ := List.mem_map.mp hb
      exact (pt_len (h.tm q hq) (h.sv q hq)).2.2
    · rw [List.mem_singleton.mp hb, lw3]; decide
theorem lines_bd : ∀ l : List Bytes, Sh l → (l.flatMap Vatmsa.line).length ≤ 10001 * l.length
  | [], _ => Nat.le_refl _
  | b :: l, h => by
    have i := lines_bd l fun x hx => h x (List.mem_cons_of_mem _ hx)
    have hb := h b List.mem_cons_self
    rw [List.flatMap_cons, List.length_append, List.length_cons]
    have : (Vatmsa.line b).length = b.length + 1 := by unfold Vatmsa.line; rw [List.length_append]; rfl
    omega
theorem shown_len {pr : Prog} (ok : PrOk pr) : (Vatmsa.shown pr).length ≤ 800080 := by
  rw [shown_lines]
  have hs : Sh (linesOf pr) := fun b hb => by
    unfold linesOf at hb
    rcases List.mem_append.mp hb with hb | hb
    · obtain ⟨s, hs, hb⟩ := List.mem_flatMap.mp hb
      exact (ser_lines (ok.ins s hs)).2 b hb
    · obtain ⟨x, hx, rfl⟩ := List.mem_map.mp hb
      exact (let_len (ok.lets x hx)).2
  have hl : ∀ l : List Series, (∀ s ∈ l, SerOk s) → (l.flatMap serLines).length ≤ 18 * l.length := by
    intro l
    induction l with
    | nil => intro _; exact Nat.le_refl _
    | cons s l ih =>
      intro h
      have i := ih fun x hx => h x (List.mem_cons_of_mem _ hx)
      have := (ser_lines (h s List.mem_cons_self)).1
      rw [List.flatMap_cons, List.length_append, List.length_cons]
      omega
  have h1 := hl pr.ins ok.ins
  have h2 := lines_bd _ hs
  have h3 : (linesOf pr).length ≤ 80 := by
    unfold linesOf
    rw [List.length_append, List.length_map]
    have := ok.i
    have := ok.l
    omega
  omega
theorem strOk_strB (b : Bytes) : PyData.strOk (strB b) = true := by
  unfold PyData.strOk
  rw [Array.all_eq_true']
  intro x hx
  have hx : x ∈ (strB b).cps.toList := by simpa using hx
  rw [strB_cps] at hx
  obtain ⟨c, _, rfl⟩ := List.mem_map.mp hx
  have := c.toNat_lt
  exact decide_eq_true (by omega)
theorem pqSer (l : List Series) : ∃ ds, PqA 4 (l.map seriesD) ds := by
  induction l with
  | nil => exact ⟨_, .nil⟩
  | cons s l ih =>
    obtain ⟨ds, h⟩ := ih
    obtain ⟨rs, hr⟩ := pqRow s.row
    exact ⟨_, .cons (.tup (.cons (.str 3 (strOk_strB _)) (.cons (.lst hr) (.cons (.int 3 _) .nil)))) h⟩
section
variable {P : Program} {w : World} {K : PySem.W.Frag} {mg : Str → Option Value} {base : Heap} {RC FC PC : Addr}
abbrev s_read_program : Stmt := top 64
abbrev n_read_program : List Str := ["text", "program"]
theorem sc_read_program : FnScope n_read_program ["text"] (defScope s_read_program) := ⟨rfl, rfl, rfl, by decide +kernel, rfl, by decide +kernel, by decide +kernel⟩
def p_read (FC PC : Addr) : List D → Ox → Prop := fun ds o => ∃ b : Bytes, ds = [txD b] ∧ o = outX FC (progD PC) (Vatmsa.read b)
theorem f_read_program (F : Fa K mg "read_program" s_read_program) (T : FaultK P w K mg base FC) (cR : RdC K RC) (cP : PrC K PC) (htok : Fv P w K mg base (L2.CX P w) 4 "tokens_of" ["text"] (PureX (p_tokens_of FC))) (hmR : Mkv P w K mg base 1 "Reader" RC ["self", "tokens"] (pReader RC)) (hpr : Mv P w K mg base (L2.CX P w) 22 RC "program" ["self"] (RProgram RC FC PC)) (hlo : Fv P w K mg base (L2.CX P w) 10 "look_at_names" ["program"] (PureX (p_look FC PC))) (hof : Fv P w K mg base CX0 10 "one_form" ["program"] (PureP (p_one_form PC)))
    (nlen : mg "len" = none) (gB : Glo K mg "MOST_BYTES" (.int 4096)) : Fv P w K mg base (L2.CX P w) 23 "read_program" ["text"] (PureX (p_read FC PC)) := by
  refine fa_fv F (fun _ _ _ _ _ _ us hl => match us, hl with | [_], _ => rfl) fun f fd F => fnX F sc_read_program (fun Γ r h => by obtain ⟨ds, o, e, ⟨b, e2, _⟩, _⟩ := h; subst e; subst e2; rfl) ?_
  have nd := sc_read_program.nd
  intro cdv A outer s H E Γ r hr hp
  obtain ⟨_, o, rfl, ⟨b, rfl, ho⟩, rfl⟩ := pureX_of hp
  have hz : sizeLine = 16777216 := sizeLine_eq
  have tk : Takes (cxOf (L2.CX P w) P w K mg base n_read_program "read_program" (defScope s_read_program) f cdv A outer s H E) fun cls d _ H => E cls d H := takes_of rfl rfl rfl rfl
  rw [read_eq] at ho
  refine ss_cons (s_if (t_cmp (w_callB rfl nlen boot_len (d_cons (wv 0 rfl (d_nil ⟨_, c_lenL, (w_glob gB rfl ⟨_, o_gt, ⟨fun hT => ?_, fun hF => ss_nil ?_⟩⟩)⟩))))))
  · have hT : (4096 : Int) < ((b.map byD).length : Nat) := of_decide_eq_true hT
    rw [List.length_map] at hT
    have e : VatmsBase.tokens b = .error ⟨1, 4096⟩ := if_pos (show 4096 < b.length by omega)
    rw [e] at ho
    subst ho
    exact ss_one (s_raise T tk (hr.mono (by decide)) rfl pass (d_cons (w_int (d_cons (w_glob gB rfl (d_nil ⟨[1, 4096], rfl, rfl, by decide, rfl⟩))))))
  have hF : ¬ (4096 : Int) < ((b.map byD).length : Nat) := of_decide_eq_false hF
  rw [List.length_map] at hF
  have hb : b.length ≤ 4096 := by omega
  have e : VatmsBase.tokens b = lex (b.length + 1) 0 b := if_neg (show ¬ 4096 < b.length by omega)
  rw [e] at ho
  refine ss_cons (ss 1 nd (w_methN0 hpr cR.c (hr.mono (Nat.le_refl _)) pcX (w_make hmR (hr.mono (by decide)) rfl pass (d_cons (w_callX htok (hr.mono (by decide)) rfl pcX (d_cons (wv 0 rfl (d_nil ⟨_, ⟨b, rfl, hb, rfl⟩, ?_⟩))))))))
  cases el : lex (b.length + 1) 0 b with
  | error f => rw [el] at ho; subst ho; rfl
  | ok l =>
  rw [el] at ho
  obtain ⟨lt, ll⟩ := lex_ok _ _ _ l el
  have st : St l l := ⟨⟨0, rfl⟩, lt, by omega⟩
  have ho : o = outX FC (progD PC) ((progF l).bind fun p => (checkNames p).bind fun _ => if p.ins.isEmpty = true then .error ⟨13, 0⟩ else if 4096 < (Vatmsa.shown p).length then .error ⟨16, 0⟩ else .ok p) := ho
  refine d_nil ⟨[("tokens", toksD l), ("at", .int 0)], fun p => ⟨p, toksD l, rfl, rfl⟩, _, rfl, rfl, fun p => ⟨_, ⟨p, l, progF l, ?_, st, rfl, rfl⟩, ?_⟩⟩
  · unfold rdr
    rw [Nat.sub_self]; rfl
  cases ep : progF l with
  | error f => rw [ep] at ho; subst ho; rfl
  | ok pr =>
  rw [ep] at ho
  have ok := prog_ok st ep
  have ho : o = outX FC (progD PC) ((checkNames pr).bind fun _ => if pr.ins.isEmpty = true then .error ⟨13, 0⟩ else if 4096 < (Vatmsa.shown pr).length then .error ⟨16, 0⟩ else .ok pr) := ho
  refine ss_cons (s_expr (w_callX hlo (hr.mono (by decide)) rfl pcX (d_cons (wv 1 rfl (d_nil ⟨outX FC (fun _ : Unit => D.non) (checkNames pr), ⟨pr, rfl, ok, rfl⟩, ?_⟩)))))
  cases ec : checkNames pr with
  | error f => rw [ec] at ho; subst ho; rfl
  | ok u =>
  rw [ec] at ho
  have ho : o = outX FC (progD PC) (if pr.ins.isEmpty = true then .error ⟨13, 0⟩ else if 4096 < (Vatmsa.shown pr).length then .error ⟨16, 0⟩ else .ok pr) := ho
  obtain ⟨pd, hpd⟩ := pqSer pr.ins
  have ie : (pr.ins.map seriesD).isEmpty = pr.ins.isEmpty := by cases pr.ins <;> rfl
  refine ss_cons (s_if (t_cmp (w_fld (wv 1 rfl ⟨PC, _, _, rfl, cP.c, cP.n1, rfl, (w_new (w_lst (d_nil ⟨len_le, ⟨_, (o_eqNil hr.units hpd (by decide)), ⟨fun hT => ?_, fun hF => ss_nil ?_⟩⟩⟩)))⟩))))
  · rw [ie] at hT
    rw [if_pos hT] at ho
    subst ho
    exact ss_one (s_raise T tk (hr.mono (by decide)) rfl pass (d_cons (w_int (d_cons (w_int (d_nil ⟨[13, 0], rfl, rfl, by decide, rfl⟩))))))
  rw [ie] at hF
  rw [if_neg (by rw [hF]; decide)] at ho
  have sl := shown_len ok
  refine ss_cons (s_if (t_cmp (w_callB rfl nlen boot_len (d_cons (w_callP hof (hr.mono (by decide)) rfl pass (d_cons (wv 1 rfl (d_nil ⟨_, ⟨pr, rfl, ok, rfl⟩, (d_nil ⟨_, (c_lenS (by rw [strB_len]; omega)), (w_glob gB rfl ⟨_, o_gt, ⟨fun hT => ?_, fun hF => ss_nil ?_⟩⟩)⟩)⟩))))))))
  · have hT : (4096 : Int) < ((strB (Vatmsa.shown pr)).length : Nat) := of_decide_eq_true hT
    rw [strB_len] at hT
    rw [if_pos (by omega)] at ho
    subst ho
    exact ss_one (s_raise T tk (hr.mono (by decide)) rfl pass (d_cons (w_int (d_cons (w_int (d_nil ⟨[16, 0], rfl, rfl, by decide, rfl⟩))))))
  · have hF : ¬ (4096 : Int) < ((strB (Vatmsa.shown pr)).length : Nat) := of_decide_eq_false hF
    rw [strB_len] at hF
    rw [if_neg (by omega)] at ho
    exact ss_one (s_ret (wv 1 rfl (finX ho)))
/-- what is read is in order -/
theorem read_ok {b : Bytes} {pr : Prog} (h : Vatmsa.read b = .ok pr) : PrOk pr ∧ checkNames pr = .ok () := by
  rw [read_eq] at h
  obtain ⟨l, e1, h⟩ := bind_ok h
  obtain ⟨p, e2, h⟩ := bind_ok h
  obtain ⟨u, e3, h⟩ := bind_ok h
  split at h
  · cases h
  split at h
  · cases h
  cases h
  unfold VatmsBase.tokens at e1
  split at e1
  · cases e1
  rename_i hb
  obtain ⟨lt, ll⟩ := lex_ok _ _ _ l e1
  have hb : ¬ 4096 < b.length := hb
  exact ⟨prog_ok ⟨⟨0, rfl⟩, lt, by omega⟩ e2, e3⟩
end
end Fp

set_option Elab.async false
set_option linter.all false
set_option maxRecDepth 100000
set_option maxHeartbeats 2000000
namespace Dl
open PySem PySem.Spec PyProof.Rows L2
/-! ### dicts -/
def valD {κ : Type} [DecidableEq κ] (kvs : List (κ × D)) (k : κ) : Option D := (kvs.find? fun kv => decide (kv.1 = k)).map (·.2)
def putKD (kvs : List (Key × D)) (k : Key) (v : D) : List (Key × D) := if (kvs.any fun kv => decide (kv.1 = k)) = true then kvs.map fun kv => if kv.1 = k then (kv.1, v) else kv else kvs ++ [(k, v)]
def mergeD (kvs more : List (Key × D)) : List (Key × D) := more.foldl (fun acc kv => putKD acc kv.1 kv.2) kvs
section
variable {K : PySem.W.Frag} {I J : Hp}
theorem RpK.len : ∀ {vs : List (Key × V)} {ds : List (Key × D)}, RpK K I vs ds → vs.length = ds.length
  | _, _, .nil => rfl
  | _, _, .cons _ r => congrArg (· + 1) r.len
theorem RpK.keys : ∀ {vs : List (Key × V)} {ds : List (Key × D)}, RpK K I vs ds → vs.map (·.1) = ds.map (·.1)
  | _, _, .nil => rfl
  | _, _, .cons _ r => by rw [List.map_cons, List.map_cons, r.keys]
theorem RpK.val {k : Key} : ∀ {vs : List (Key × V)} {ds : List (Key × D)}, RpK K I vs ds → (∀ d, valD ds k = some d → ∃ v, valV vs k = some v ∧ Rp K I v d) ∧ (valD ds k = none → valV vs k = none)
  | _, _, .nil => ⟨fun d h => (by cases h), fun _ => rfl⟩
  | _, _, .cons (k := k') (v := v) (d := d0) h r => by
    by_cases e : k' = k
    · subst e
      refine ⟨fun d hd => ⟨v, by unfold valV; simp, ?_⟩, fun hd => ?_⟩
      · unfold valD at hd; simp at hd; subst hd; exact h
      · unfold valD at hd; simp at hd
    · have := r.val (k := k)
      refine ⟨fun d hd => ?_, fun hd => ?_⟩
      · unfold valD at hd
        rw [List.find?_cons, decide_eq_false e] at hd
        obtain ⟨v', h1, h2⟩ := this.1 d hd
        refine ⟨v', ?_, h2⟩
        unfold valV
        rw [List.find?_cons, decide_eq_false e]
        exact h1
      · unfold valD at hd
        rw [List.find?_cons, decide_eq_false e] at hd
        unfold valV
        rw [List.find?_cons, decide_eq_false e]
        exact this.2 hd
theorem RpK.isSome {k : Key} {vs : List (Key × V)} {ds : List (Key × D)} (h : RpK K I vs ds) : (valV vs k).isSome = (valD ds k).isSome := by
  cases e : valD ds k with
  | none => rw [h.val.2 e]; rfl
  | some d => obtain ⟨v, hv, _⟩ := h.val.1 d e; rw [hv]; rfl
theorem RpK.append : ∀ {vs ws : List (Key × V)} {ds es : List (Key × D)}, RpK K I vs ds → RpK K I ws es → RpK K I (vs ++ ws) (ds ++ es)
  | _, _, _, _, .nil, s => s
  | _, _, _, _, .cons h r, s => .cons h (RpK.append r s)
theorem RpK.any {k : Key} : ∀ {vs : List (Key × V)} {ds : List (Key × D)}, RpK K I vs ds → (vs.any fun kv => decide (kv.1 = k)) = (ds.any fun kv => decide (kv.1 = k))
  | _, _, .nil => rfl
  | _, _, .cons _ r => by rw [List.any_cons, List.any_cons, r.any]
theorem RpK.upd {k : Key} {v : V} {d : D} (h : Rp K I v d) : ∀ {vs : List (Key × V)} {ds : List (Key × D)}, RpK K I vs ds → RpK K I (vs.map fun kv => if kv.1 = k then (kv.1, v) else kv) (ds.map fun kv => if kv.1 = k then (kv.1, d) else kv)
  | _, _, .nil => .nil
  | _, _, .cons (k := k') h' r => by
    rw [List.map_cons, List.map_cons]
    by_cases e : k' = k
    · rw [if_pos e, if_pos e]; exact .cons h (RpK.upd h r)
    · rw [if_neg e, if_neg e]; exact .cons h' (RpK.upd h r)
theorem RpK.put {k : Key} {v : V} {d : D} (h : Rp K I v d) {vs : List (Key × V)} {ds : List (Key × D)} (r : RpK K I vs ds) : RpK K I (putK vs k v) (putKD ds k d) := by
  unfold putK putKD
  rw [r.any]
  split
  · exact r.upd h
  · exact r.append (.cons h .nil)
theorem RpK.merge : ∀ {ws : List (Key × V)} {es : List (Key × D)}, RpK K I ws es → ∀ {vs : List (Key × V)} {ds : List (Key × D)}, RpK K I vs ds → RpK K I (mergeK vs ws) (mergeD ds es)
  | _, _, .nil, _, _, r => r
  | _, _, .cons h s, _, _, r => by
    show RpK K I (mergeK (putK _ _ _) _) (mergeD (putKD _ _ _) _)
    exact RpK.merge s (r.put h)
/-- J, but for what stands at p, no list and no tuple -/
structure SansG (I J : Hp) (p : Addr) : Prop where
  at_ : ∃ u, J p = some u ∧ (∀ xs, u ≠ .lst xs) ∧ (∀ xs, u ≠ .tup xs) ∧ (∀ o xs, u ≠ .frz o (.tup xs))
  eq : ∀ b w, J b = some w → b ≠ p → I b = some w
mutual
theorem Rp.nig {p : Addr} (e : SansG I J p) : ∀ {v : V} {d : D}, NI d → Rp K J v d → Rp K I v d
  | _, _, _, .non => .non
  | _, _, _, .bl b => .bl b
  | _, _, _, .int i => .int i
  | _, _, _, .str s => .str s
  | _, _, f, .tup h r => by
    obtain ⟨u, hu, n1, n2, n3⟩ := e.at_
    cases f with
    | tup f =>
      refine .tup ?_ (RpA.nig e f r)
      rcases h with (h | ⟨o, h⟩) | h
      · exact .inl (.inl (e.eq _ _ h fun z => by subst z; rw [hu] at h; cases h; exact n2 _ rfl))
      · exact .inl (.inr ⟨o, e.eq _ _ h fun z => by subst z; rw [hu] at h; cases h; exact n3 _ _ rfl⟩)
      · exact .inr h
  | _, _, f, .lst h r => by
    obtain ⟨u, hu, n1, n2, n3⟩ := e.at_
    cases f with
    | lst f => exact .lst (e.eq _ _ h fun z => by subst z; rw [hu] at h; cases h; exact n1 _ rfl) (RpA.nig e f r)
  | _, _, f, .dct _ _ => nomatch f
  | _, _, f, .ins _ _ => nomatch f
  | _, _, f, .arr _ => nomatch f
theorem RpA.nig {p : Addr} (e : SansG I J p) : ∀ {v : List V} {d : List D}, NIA d → RpA K J v d → RpA K I v d
  | _, _, _, .nil => .nil
  | _, _, f, .cons h r => by
    cases f with
    | cons f g => exact .cons (Rp.nig e f h) (RpA.nig e g r)
end
end
section
variable {X : Cx} {E : XK} {XE : XS} {Γ : En} {R R' : D → En → Prop} {pos : Pos}
theorem shownD {K : PySem.W.Frag} {σ : L2.St} {I H I2 H2 : Hp} {i : Nat} {p : Addr} {kvs : List (Key × D)} {u : HO} (a : At K σ I H Γ) (hg : Γ[i]? = some (.own p (.dct kvs))) (hu : H p = some u) {Γ' : En} (s : Stp (seeE Γ i (Ow.dct kvs).d) (upd I p u) H Γ' I2 H2) (v2 : Same I2 H2) :
    ∃ I3, Grow I H I3 H2 ∧ SansG I3 I2 p := by
  obtain ⟨e, n, vs, h1, _⟩ := a.own hg
  rw [h1] at hu; cases hu
  have i2 : I2 p = some (.dK vs) := s.sub p _ upd_same
  have e13 : Same I (fun b => if b = p then none else I2 b) := fun b w q => by
    have z : b ≠ p := ne_of_none q n
    show (if b = p then none else I2 b) = some w
    rw [if_neg z]
    exact s.sub b w (by rw [upd_ne z]; exact q)
  have e32 : Same (fun b => if b = p then none else I2 b) I2 := fun b w q => by
    have q : (if b = p then none else I2 b) = some w := q
    by_cases z : b = p
    · rw [if_pos z] at q; cases q
    · rw [if_neg z] at q; exact q
  refine ⟨fun b => if b = p then none else I2 b, ⟨fun b w h => s.same b w h seeE_no, e13, e32.trans v2, fun b w q => ?_⟩, ⟨⟨_, i2, (by intro _ z; cases z), (by intro _ z; cases z), (by intro _ _ z; cases z)⟩, fun b w q z => (if_neg z).trans q⟩⟩
  have z : b ≠ p := fun z => by
    have q : (if b = p then none else I2 b) = some w := q
    rw [if_pos z] at q; cases q
  rcases s.fresh b w (e32 b w q) with r | r | r
  · rw [upd_ne z] at r; exact .inl r
  · exact .inr r
  · exact (seeE_no r).elim
theorem w_seeD {e : Expr} (i : Nat) {p : Addr} {kvs : List (Key × D)} (hg : Γ[i]? = some (.own p (.dct kvs))) (h : Wp X E XE e (seeE Γ i (.dct kvs)) fun d _ => NI d ∧ R d Γ) : Wp X E XE e Γ R := fun σ I H Q a k x => by
  obtain ⟨u, hu⟩ := (a.own hg).2.2.there
  refine h σ (upd I p u) H Q (a.show1 hg hu) (fun v I2 H2 d Γ' ⟨f, r⟩ s2 a2 r2 => ?_) fun C fs dd H' x' kp q => x C fs dd H' x' (fun b w h _ => kp b w h seeE_no) q
  obtain ⟨I3, g, t⟩ := shownD a hg hu s2 a2.sub
  exact k v I3 H2 d Γ r g.stp (a.grow g) (r2.nig t f)
/-- d[k], k in d: data -/
theorem key_rp {K : PySem.W.Frag} {I : Hp} {v : V} {k : Key} (r : Rp K I v (match k with
    | .inl i => .int i
    | .inr s => .str s)) : v = kV k := by
  cases k with
  | inl i => cases r; rfl
  | inr s => cases r; rfl
def kD (k : Key) : D := match k with
  | .inl i => .int i
  | .inr s => .str s
theorem w_dget {o i : Expr} (hu : X.A.units + 1 < cLine) (h : Wp X E XE o Γ fun d Γ1 => ∃ kvs, d = .dct kvs ∧ Wp X E XE i Γ1 fun y Γ2 => ∃ k z, y = kD k ∧ valD kvs k = some z ∧ R z Γ2) (hs : NoSl i := by exact fun _ _ => rfl) : Wp X E XE (.Subscript o i pos) Γ R :=
  .of (pe_dget hu (pe_sem X o) (pe_sem X i) hs) fun σ I H Q a k x => h σ I H _ a (fun v I1 H1 d Γ1 ⟨kvs, ed, h1⟩ s1 a1 r1 => h1 σ I1 H1 _ a1 (fun u I2 H2 y Γ2 ⟨ky, z, ey, hz, r⟩ s2 a2 r2 => by
    subst ed; subst ey
    have ek := key_rp r2
    subst ek
    cases r1 with
    | dct hb rk =>
      obtain ⟨w, hw, rw⟩ := (rk.mono s2.sub).val.1 z hz
      exact ⟨_, w, rfl, .inl ⟨_, ky, .inl (a2.sub _ _ (s2.sub _ _ hb)), rfl, hw.symm⟩, k w I2 H2 z Γ2 r (s1.trans s2) a2 rw⟩) (x.after s1)) x
theorem t_din {o i : Expr} {R : Bool → En → Prop} (hu : X.A.units + 1 < cLine) (h : Wp X E XE i Γ fun y Γ1 => ∃ k, y = kD k ∧ Wp X E XE o Γ1 fun d Γ2 => ∃ kvs, d = .dct kvs ∧ R (valD kvs k).isSome Γ2) (hm : behindInMarks .In o = false := by first | exact nomark _ | rfl) : WpT X E XE (.Compare i [.In] [o] pos) Γ R :=
  .of (pt_cmp (pc_din hu (pe_sem X i) (pe_sem X o)) hm) fun σ I H Q a k x => h σ I H _ a (fun u I1 H1 y Γ1 ⟨ky, ey, h1⟩ s1 a1 r1 => h1 σ I1 H1 _ a1 (fun v I2 H2 d Γ2 ⟨kvs, ed, r⟩ s2 a2 r2 => by
    subst ed; subst ey
    have ek := key_rp r1
    subst ek
    cases r2 with
    | dct hb rk =>
      refine ⟨_, _, rfl, .inl ⟨_, ky, .inl (a2.sub _ _ hb), rfl, rfl⟩, _, rfl, ?_⟩
      rw [rk.isSome]
      exact k _ I2 H2 Γ2 r (s1.trans s2) a2) (x.after s1)) x
/-- dict(pairs) -/
theorem pairs_rp {K : PySem.W.Frag} {I H : Hp} (e : Same I H) : ∀ {kvs : List (Key × D)} {vs : List V}, RpA K I vs (kvs.map fun kv => D.tup [kD kv.1, kv.2]) → ∃ (ps : List Addr) (ws : List (Key × V)), vs = ps.map V.ref ∧ Paired (fun p kv => SqT K H p [kV kv.1, kv.2]) ps ws ∧ RpK K I ws kvs
  | [], _, .nil => ⟨[], [], rfl, .nil, .nil⟩
  | (k, d) :: kvs, _, .cons h r => by
    obtain ⟨ps, ws, e1, e2, e3⟩ := pairs_rp e r
    cases h with
    | @tup b xs _ hb hr =>
      cases hr with
      | cons q1 hr =>
        cases hr with
        | @cons _ _ _ _ q2 hr =>
          cases hr
          have ek := key_rp q1
          subst ek
          exact ⟨b :: ps, (k, _) :: ws, by rw [e1]; rfl, .cons (same_sqT e hb) e2, .cons q2 e3⟩
theorem c_dict (hc : X.calm = true) {kvs : List (Key × D)} : Cl X (.type "dict") [.lst (kvs.map fun kv => D.tup [kD kv.1, kv.2])] (.dct (mergeD [] kvs)) := .of (call_dictP hc) fun I H us Q e r k => by
  cases r with
  | cons q r =>
    cases r
    cases q with
    | lst hb hr =>
      obtain ⟨ps, ws, e1, e2, e3⟩ := pairs_rp e hr
      subst e1
      exact ⟨_, ps, ws, rfl, SqL.of (e _ _ hb), e2, fun p hp => grow_new e k hp (.dct upd_same (RpK.merge (e3.mono (new_sub e hp)) .nil))⟩
/-- known[k] = e, the dict an owned one -/
theorem s_dput {x : Str} {px spos : Pos} (j : Nat) {p : Addr} {e i : Expr} (hu : X.A.units + 1 < cLine) (hN : X.N[j]? = some x) (hv : Vis X.env.scope x)
    (h : Wp X E XE e Γ fun d Γ1 => ∃ kvs0, Γ1[j]? = some (.own p (.dct kvs0)) ∧ Wp X E XE i Γ1 fun y Γ2 => ∃ kvs k, Γ2[j]? = some (.own p (.dct kvs)) ∧ y = kD k ∧ kvs.length < sizeLine ∧ R0.nx (Γ2.set j (.own p (.dct (putKD kvs k d)))))
    (hs : swapsWith e (some (.Subscript (.Name x px) i spos)) pos.line X.env = pure false := by rfl) (hd : (x == ("__debug__" : Str)) = false := by decide) (hcd : (x == ("__classdict__" : Str)) = false := by decide) :
    WpS X E XE (.Assign [.Subscript (.Name x px) i spos] e pos) Γ R0 :=
  .of (ps_dput hu (pe_var hN hv hd hcd) (pe_sem X i) (pe_sem X e) hs) fun σ I H Z a k x => h σ I H _ a (fun v I1 H1 d Γ1 ⟨kvs0, g0, h1⟩ s1 a1 r1 => ⟨.ref p, (a1.own g0).1, h1 σ I1 H1 _ a1 (fun u I2 H2 y Γ2 ⟨kvs, ky, g1, ey, hl, r⟩ s2 a2 r2 => by
    subst ey
    have ek := key_rp r2
    subst ek
    obtain ⟨e2, n2, ws, h2, rk⟩ := a2.own g1
    exact ⟨p, _, rfl, .inl ⟨ws, ky, h2, rfl, by rw [rk.len]; exact hl, rfl⟩, k.nx σ I2 _ _ r ((s1.trans s2).trans (Stp.mut g1)) (a2.mut g1 ⟨_, upd_same, rk.put (r1.mono s2.sub)⟩)⟩) (x.after s1)⟩) x
end
end Dl

set_option Elab.async false
set_option linter.all false
set_option maxRecDepth 100000
set_option maxHeartbeats 2000000
namespace Dl
open PySem PySem.Spec PyProof.Rows L2
/-! ### sorted(dict), ints, any number of them; list(d.values()) -/
section
variable {X : Cx}
/-- keys met one by one, the ints of a dict -/
theorem ints_met {vs : List (Key × Value)} {zs : List Int} (ek : vs.map (·.1) = zs.map Sum.inl) {us : List Value} (len : us.length = vs.length) (each : ∀ (i : Nat) (u : Value), us[i]? = some u → ∃ k v, vs[i]? = some (k, v) ∧ (mixKind X.prog X.w).is k u = true) : IntsAre us zs := by
  have lz : vs.length = zs.length := by have q := congrArg List.length ek; rwa [List.length_map, List.length_map] at q
  refine ints_each (len.trans lz) fun i u hu => ?_
  obtain ⟨k, v, at1, is1⟩ := each i u hu
  have at2 : (zs.map (Sum.inl : Int → Key))[i]? = some k := by rw [← ek, List.getElem?_map, at1]; rfl
  rw [List.getElem?_map] at at2
  match hz : zs[i]?, at2 with
  | some z, at2 =>
    cases at2
    rcases keyIs_shape (show keyIs (Sum.inl z) u = true from is1) with ⟨n, t, q1, q2⟩ | ⟨n, t, q1, _⟩ <;> cases q1
    exact ⟨z, t, rfl, q2⟩
/-- a new list of ints, sorted: what stands behind it -/
theorem new_sorted {us : List Value} {zs : List Int} {hp : Heap} {tk : Nat} {pins : List (Addr × Obj)} {σ : L2.St} {H : Hp} {s : Shared} {Q : VK} (are : IntsAre us zs) (few : us.length ≤ sizeLine) (Iv : Inv X pins σ H { s with heap := hp, toks := tk })
    (go : ∀ (ys : List Int) (p : Addr), ys.Perm zs → ys.Pairwise (· ≤ ·) → H p = none → Q (.ref p) (upd H p (.lst (ys.map V.int)))) {E : Value → Shared → Prop} :
    wpAny (model X.prog X.w) X.A.in1 (call (.builtin "list.sort") [.ref hp.objs.size]) (fun _ t => EP X pins σ Q (.ref hp.objs.size) t) E { s with heap := hp.push (seqObj "list" us.toArray 0), toks := tk } := by
  have there : (hp.push (seqObj "list" us.toArray 0)).get? hp.objs.size = some (seqObj "list" us.toArray 0) := Heap.get?_push_size _ rfl
  refine wpAny_call_entry slot_list_sort ⟨_, there, rfl⟩ entry_list_sort (SrtO.list_sort_ord SrtO.swo_int there few (fun z => SrtO.ints_sortable are z) fun out o1 o2 => ⟨_, rfl, ?_⟩) (args_list_sort _)
  obtain ⟨w1, w2, w3⟩ := SrtO.ints_out are o1 o2
  obtain ⟨e', at'⟩ := sortedHeap_at (vs := us) (out := out.toArray) there
  have few' : ((out.map SrtO.iv).map V.int).length ≤ sizeLine := by rw [List.length_map, w2.length_eq, ← are.length]; exact few
  refine ⟨.ref hp.objs.size, upd H hp.objs.size (.lst ((out.map SrtO.iv).map V.int)), Iv.laid (t' := tk) (fun b o e => ?_) (Nat.le_refl _) (show ObjOk X.prog X.w _ _ _ (.lst ((out.map SrtO.iv).map V.int)) from ⟨few', out, e', vals_of_ints w1, at'⟩), rfl, go _ _ w2 w3 (Iv.hok.fresh (Nat.le_refl _))⟩
  have lb : b < hp.objs.size := Heap.lt_size e
  rw [sortedHeap_old (Nat.ne_of_lt lb) (by rw [size_push']; exact Nat.lt_succ_of_lt lb)]; exact Heap.get?_push_of_some _ e
/-- sorted(d): the keys of a dict, all of them ints -/
def rSortedK : List V → Hp → VK → Prop := fun xs H Q => ∃ (a : Addr) (kvs : List (Key × V)) (zs : List Int), xs = [.ref a] ∧ Rd H a (.dK kvs) ∧ kvs.map (·.1) = zs.map Sum.inl ∧ ∀ (ys : List Int) (p : Addr), ys.Perm zs → ys.Pairwise (· ≤ ·) → H p = none → Q (.ref p) (upd H p (.lst (ys.map V.int)))
theorem cr_sortedK (calm : X.calm = true) : CallR X (.builtin "sorted") rSortedK := by
  rintro pins s σ H xs us Q Iv r ⟨a, kvs, zs, rfl, rd, ek, go⟩
  rw [Vals.ref1 r]
  obtain ⟨fits, lo, vs, rel, dd⟩ := dk_rd Iv.hok rd
  obtain ⟨ep, dat⟩ := dd.dictAt
  have fits' : vs.length ≤ sizeLine := by rw [← rel.length]; exact fits
  refine Calls.call_function_entry kind_sorted plain_sorted entry_sorted (args_sorted1 _) ?_; unfold Builtin.«sorted»; refine wpAny_bind (m := checkCount "sorted" 1 1 _) (wpAny_pure (wpAny_bind (PySem.W.kdu_collect (PySem.W.kdl_dict (kvs := vs) lo) (Iv.ok.hd calm) dat fits' fun hp tk acc old met => ?_)))
  have len : acc.toList.length = vs.length := by rw [Array.length_toList]; exact met.1
  have are := ints_met (X := X) (rel.keys.symm.trans ek) len fun i u hu => met.2 i u (by rw [← Array.getElem?_toList]; exact hu)
  refine wpAny_bind (wpAny_newList (wpAny_bind (wpAny_holding (wpAny_mono (new_sorted are (by rw [len]; exact fits') (Iv.kept old) go) (fun _ t z => ?_) fun _ _ z => z))) (by rw [len]; exact fits'))
  exact wpAny_pure ⟨_, rfl, z⟩
theorem vals_at : ∀ {kvs : List (Key × V)} {vs : List (Key × Value)} {us : List Value}, KV kvs vs → us.length = vs.length → (∀ (j : Nat) (u : Value), us[j]? = some u → ∃ k, vs[j]? = some (k, u)) → Vals (kvs.map (·.2)) us
  | [], [], us, _, hl, _ => by
    cases us with
    | nil => exact .nil
    | cons u us => simp at hl
  | [], _ :: _, _, h, _, _ => by cases h
  | _ :: _, [], _, h, _, _ => by cases h
  | kv :: kvs, v :: vs, [], _, hl, _ => by simp at hl
  | kv :: kvs, v :: vs, u :: us, h, hl, hj => by
    cases h with
    | cons r t =>
      obtain ⟨k, e⟩ := hj 0 u rfl
      have e : v = (k, u) := Option.some.inj e
      subst e
      refine .cons r.2 (vals_at t (by simpa using hl) fun j w hw => ?_)
      obtain ⟨k', e'⟩ := hj (j + 1) w (by simpa using hw)
      exact ⟨k', by simpa using e'⟩
def tListVals (td : TE) : TE := fun σ H Q => td σ H fun x H1 => ∃ a kvs, x = V.ref a ∧ H1 a = some (.dK kvs) ∧ ∀ p, H1 p = none → Q (.ref p) (upd H1 p (.lst (kvs.map (·.2))))
variable {o : Expr} {p pos apos mpos : Pos} {td : TE}
/-- what a view of a dict's values is walked to: a new list -/
theorem view_list {d : Addr} {vs : List (Key × Value)} {kvs : List (Key × V)} {ep : Nat} {pins : List (Addr × Obj)} {σ : L2.St} {H : Hp} {s : Shared} {Q : VK} {hp : Heap} (Iv : Inv X pins σ H { s with heap := hp }) (calm : X.A.handled = none) (rel : KV kvs vs) (fits : kvs.length ≤ sizeLine)
    (dat : hp.DictAt (mixKind X.prog X.w) d vs ep) (go : ∀ p, H p = none → Q (.ref p) (upd H p (.lst (kvs.map (·.2))))) :
    wpAny (model X.prog X.w) X.A (call (.type "list") [.ref hp.objs.size]) (EP X pins σ Q) X.xe { s with heap := hp.push { cls := .type "dict_values", data := .fields #[.ref d] } } := by
  have old : ∀ b u, hp.get? b = some u → (hp.push { cls := .type "dict_values", data := .fields #[.ref d] }).get? b = some u := fun _ _ z => Heap.get?_push_of_some _ z
  have Jv := Iv.kept (t' := s.toks) old
  refine PySem.W.kdl_call (PySem.W.kdl_values (kvs := vs) (ep := ep) (knd := mixKind X.prog X.w)) calm ⟨⟨_, Heap.get?_push_size _ rfl, rfl, rfl⟩, dat.keep old⟩ (by rw [← rel.length]; exact fits) fun h' tk acc n keep at' met => ?_
  have vals : Vals (kvs.map (·.2)) acc.toList := vals_at rel (by rw [Array.length_toList]; exact met.1) fun i u hu => met.2 i u (by rw [← Array.getElem?_toList]; exact hu)
  exact ⟨.ref _, upd H _ (.lst (kvs.map (·.2))), Jv.laid (t' := tk) keep (Nat.le_refl _) (show ObjOk X.prog X.w _ _ _ (.lst (kvs.map (·.2))) from ⟨by rw [List.length_map]; exact fits, acc.toList, n, vals, by rw [Array.toArray_toList]; exact at'⟩), rfl, go _ (Jv.hok.fresh (Nat.le_refl _))⟩
theorem pe_listVals (hc : X.calm = true) (hg : Gl X "list") (hm : X.mg "list" = none) (hd : PE X o td) (hbase : attributeBase o "values" X.env (eval o X.env) = eval o X.env := by rfl) (hline : (apos.endLine == mpos.line) = true := by rfl) (hse : starEach [Expr.Call (.Attribute o "values" apos) [] [] mpos] X.env = [(false, eval (Expr.Call (.Attribute o "values" apos) [] [] mpos) X.env)] := by rfl) :
    PE X (.Call (.Name "list" p) [.Call (.Attribute o "values" apos) [] [] mpos] [] pos) (tListVals td) := by
  refine ⟨fun pins s σ H Q Iv z => wpAny_Call_Name_kw (ld_blt Iv hg hm (u := .type "list") (by first | rfl | decide +kernel) ?_ (by decide +kernel) (by decide +kernel))⟩
  rw [hse]; refine PySem.callWith_type1 (wpAny_Call_method0_late hbase hline (thn (hd.run pins s σ H _ Iv z) fun v t ⟨x, H1, I1, rx, a, kvs, ex, ha, go⟩ => ?_))
  subst ex; obtain rfl : v = Value.ref a := rx
  obtain ⟨fits, sys, vs, rel, dof⟩ := dk_of I1.hok ha
  have ⟨ep, dat⟩ := dof.dictAt
  have ⟨ob, es, at0, exact0, _⟩ := dat
  refine ⟨_, _, F.plainAttrs_dict, F.slot_dict_values, F.type_dict_values, ⟨ob, at0, exact0.1⟩, fun b e => by cases e; exact ⟨ob, at0, exact0.2.1⟩, Calls.callWith_builtin rfl (PySem.evalArgs_none (call_meetsIn F.slot_dict_values ⟨ob, at0, exact0.1⟩ F.entry_dict_values (F.args_dict_values_1 _) (meets_dict_values (mixKind X.prog X.w) a sys) ⟨⟨vs, dof⟩, ?_⟩))⟩
  exact view_list (s := t) I1 (Iv.ok.hd hc) rel fits dat go
end
theorem sorted_uniq : ∀ {xs ys : List Int}, xs.Perm ys → xs.Pairwise (· ≤ ·) → ys.Pairwise (· ≤ ·) → xs = ys := fun h h1 h2 => h.eq_of_pairwise (fun a b _ _ h1 h2 => Int.le_antisymm h1 h2) h1 h2
section
variable {X : Cx} {E : XK} {XE : XS} {Γ : En} {R R' : D → En → Prop} {pos : Pos}
theorem rp_ints {K : PySem.W.Frag} {I : Hp} : ∀ zs : List Int, RpA K I (zs.map V.int) (zs.map D.int)
  | [] => .nil
  | z :: zs => .cons (.int z) (rp_ints zs)
theorem c_sortedD (hc : X.calm = true) {kvs : List (Key × D)} {ks ys : List Int} (hk : kvs.map (·.1) = ks.map Sum.inl) (hp : ys.Perm ks) (hs : ys.Pairwise (· ≤ ·)) : Cl X (.builtin "sorted") [.dct kvs] (.lst (ys.map D.int)) := .of (cr_sortedK hc) fun I H us Q e r k => by
  cases r with
  | cons q r =>
    cases r
    cases q with
    | dct hb rk =>
      refine ⟨_, _, ks, rfl, .inl (e _ _ hb), rk.keys.trans hk, fun zs p zp zs' hn => ?_⟩
      have : zs = ys := sorted_uniq (zp.trans hp.symm) zs' hs
      subst this
      exact grow_new e k hn (.lst upd_same (rp_ints zs))
theorem RpK.vals {K : PySem.W.Frag} {I : Hp} : ∀ {vs : List (Key × V)} {ds : List (Key × D)}, RpK K I vs ds → RpA K I (vs.map (·.2)) (ds.map (·.2))
  | _, _, .nil => .nil
  | _, _, .cons h r => .cons h r.vals
/-- list(known.values()), known an owned dict -/
theorem w_listVals {x : Str} {px p0 apos mpos : Pos} (j : Nat) {p : Addr} {kvs : List (Key × D)} {R : Ow → En → Prop} (hc : X.calm = true) (hg : Gl X "list") (hm : X.mg "list" = none) (hN : X.N[j]? = some x) (hv : Vis X.env.scope x) (g0 : Γ[j]? = some (.own p (.dct kvs)))
    (r : R (.lst (kvs.map (·.2))) Γ) (hbase : attributeBase (.Name x px) "values" X.env (eval (.Name x px) X.env) = eval (.Name x px) X.env := by rfl) (hline : (apos.endLine == mpos.line) = true := by rfl)
    (hse : starEach [Expr.Call (.Attribute (.Name x px) "values" apos) [] [] mpos] X.env = [(false, eval (Expr.Call (.Attribute (.Name x px) "values" apos) [] [] mpos) X.env)] := by rfl) (hd : (x == ("__debug__" : Str)) = false := by decide) (hcd : (x == ("__classdict__" : Str)) = false := by decide) :
    WpN X E XE (.Call (.Name "list" p0) [.Call (.Attribute (.Name x px) "values" apos) [] [] mpos] [] pos) Γ R :=
  .of (pe_listVals hc hg hm (pe_var hN hv hd hcd) hbase hline hse) fun σ I H Q a k x0 => by
    obtain ⟨e1, n1, vs, h1, r1⟩ := a.own g0
    exact ⟨_, e1, p, vs, rfl, h1, fun q hq => new_at k r .refl a hq ⟨_, upd_same, r1.vals⟩⟩
end
end Dl

set_option Elab.async false
set_option linter.all false
set_option maxRecDepth 100000
set_option maxHeartbeats 2000000
namespace Fp
open PySem PySem.Spec PyProof.Rows L2 Dl
open VatmsBase (Bytes word Frac frac whole)
structure VOk (f : Frac) : Prop where
  num : f.num.natAbs ≤ 1000000000000000000000000
  den : f.den ≤ 1000000000000000000000000
  pos : 0 < f.den
  nm : Nat.gcd f.num.natAbs f.den = 1
theorem VOk.bd {f : Frac} (h : VOk f) : Bd 80 f := ⟨Nat.lt_of_le_of_lt h.num (by decide), h.pos, Nat.lt_of_le_of_lt h.den (by decide)⟩
theorem VOk.norm {f : Frac} (h : VOk f) : Norm f := ⟨h.pos, h.nm⟩
def VsOk (v : Option Frac) : Prop := ∀ f, v = some f → VOk f
structure RwOk (B : Nat) (r : List VPoint) : Prop where
  len : r.length ≤ 60
  up : r.Pairwise (fun a b => a.t < b.t)
  tm : ∀ q ∈ r, q.t.natAbs ≤ B
  vs : ∀ q ∈ r, VsOk q.v
def greatV (v : Option Frac) : Bool := match v with
  | some f => Vatmsa.tooGreat f
  | none => false
def comesB (r : List VPoint) : Bool := !(decide (60 < r.length) || r.any fun q => greatV q.v)
theorem fine_eq (r : List VPoint) : Vatmsa.fine r = if comesB r = true then some r else none := by
  unfold comesB
  show (if (60 < r.length ∨ (r.any fun q => greatV q.v) = true) then none else some r) = _
  by_cases h1 : 60 < r.length
  · rw [if_pos (.inl h1), decide_eq_true h1]; rfl
  · rw [decide_eq_false h1, Bool.false_or]
    cases h2 : (r.any fun q => greatV q.v) with
    | true => rw [if_pos (.inr rfl)]; rfl
    | false => rw [if_neg (fun z => z.elim h1 Bool.false_ne_true)]; rfl
section
variable {P : Program} {w : World} {K : PySem.W.Frag} {mg : Str → Option Value} {base : Heap}
/-! ### comes -/
abbrev s_comes : Stmt := top 68
abbrev n_comes : List Str := ["row", "time", "value"]
theorem sc_comes : FnScope n_comes ["row"] (defScope s_comes) := ⟨rfl, rfl, rfl, by decide +kernel, rfl, by decide +kernel, by decide +kernel⟩
def p_comes : List D → D → Prop := fun ds d => ∃ r : List VPoint, ds = [rowD r] ∧ d = .bl (comesB r)
theorem abs_int (i : Int) : (if i < 0 then -i else i) = ((i.natAbs : Nat) : Int) := by split <;> omega
theorem f_comes (F : Fa K mg "comes" s_comes) (nlen : mg "len" = none) (nabs : mg "abs" = none) (gP : Glo K mg "MOST_POINTS_COMING" (.int 60)) (gC : Glo K mg "MOST_COMING" (.int 1000000000000000000000000)) : Fv P w K mg base CX0 1 "comes" ["row"] (PureP p_comes) := by
  refine fa_fv F (fun _ _ _ _ _ _ us hl => match us, hl with | [_], _ => rfl) fun f fd F => fn0 F sc_comes (fun Γ r ⟨ds, d, e, _, x, e2, _⟩ => by subst e; subst e2; rfl) ?_
  have nd := sc_comes.nd
  rintro cdv A outer s H E _ _ hr ⟨_, _, rfl, rfl, r, rfl, rfl⟩
  refine ss_cons (s_if (t_cmp (w_callB rfl nlen boot_len (d_cons (wv 0 rfl (d_nil ⟨_, c_lenL, (w_glob gP rfl ⟨_, o_gt, ⟨fun hT => ?_, fun hF => ss_nil ?_⟩⟩)⟩))))))
  · have hT : (60 : Int) < ((r.map ptD).length : Nat) := of_decide_eq_true hT
    rw [List.length_map] at hT
    refine ss_one (s_ret (w_bool (fin_eq ?_)))
    unfold comesB
    rw [decide_eq_true (show 60 < r.length by omega)]; rfl
  have hF : ¬ (60 : Int) < ((r.map ptD).length : Nat) := of_decide_eq_false hF
  rw [List.length_map] at hF
  have e0 : comesB r = !(r.any fun q => greatV q.v) := by
    unfold comesB
    rw [decide_eq_false (show ¬ 60 < r.length by omega), Bool.false_or]
  rw [e0]
  refine ss_cons (s_for (js := [1, 2]) .never rfl (i_list (wv 0 rfl ⟨_, rfl, ?_⟩)))
  refine for_ind ptD (fun (t : Sl × Sl) => [.im (rowD r), t.1, t.2]) (fun _ rest => (rest.any fun q => greatV q.v) = r.any fun q => greatV q.v) ?_ ?_ _ (.un, .un) rfl
  · rintro ⟨s1, s2⟩ q rest hq nx hn
    have hq : (greatV q.v || rest.any fun q => greatV q.v) = r.any fun q => greatV q.v := hq
    refine (g1_tup rfl (gs_cons (gn 1 nd (gs_cons (gn 2 nd (gs_nil ?_))))))
    cases hv : q.v with
    | none =>
      rw [hv] at hq
      refine ss_one (s_if (t_bool (tw_and (t_cmp (wv 2 rfl (w_none ⟨_, o_isnot, ⟨fun hF => ⟨fun hT => (Bool.false_ne_true hT).elim, fun _ => ss_nil (hn (_, _) hq)⟩, fun hT => (nomatch hT)⟩⟩))))))
    | some f =>
      rw [hv] at hq
      have hq : (decide (1000000000000000000000000 < f.num.natAbs ∨ 1000000000000000000000000 < f.den) || rest.any fun q => greatV q.v) = r.any fun q => greatV q.v := hq
      refine ss_one (s_if (WpT.mono (R := fun b Γ' => b = decide (1000000000000000000000000 < f.num.natAbs ∨ 1000000000000000000000000 < f.den) ∧ Γ' = [.im (rowD r), .im (.int q.t), .im (Fd f)]) (t_bool (tw_and (t_cmp (wv 2 rfl (w_none ⟨_, o_isnot, ⟨fun hF => (nomatch hF), fun hT => (tw_and1 (t_bool (tw_or (t_cmp (w_callB rfl nabs boot_abs (d_cons (w_ix (wv 2 rfl (w_int ⟨_, (ix2_tup rfl), (d_nil ⟨_, c_abs, (w_glob gC rfl ⟨_, o_gt, ⟨fun hT => ⟨?_, rfl⟩, fun hF => (tw_or1 (t_cmp (w_ix (wv 2 rfl (w_int ⟨_, (ix2_tup rfl), (w_glob gC rfl ⟨_, o_gt, ⟨?_, rfl⟩⟩)⟩)))))⟩⟩)⟩)⟩)))))))))⟩⟩))))) ?_))
      · rw [abs_int] at hT
        have hT := of_decide_eq_true hT
        exact (decide_eq_true (.inl (by omega))).symm
      · rw [abs_int] at hF
        have hF := of_decide_eq_false hF
        rw [Bool.eq_iff_iff, decide_eq_true_iff, decide_eq_true_iff]
        constructor
        · intro h; exact .inr (by omega)
        · intro h
          rcases h with h | h
          · exact (hF (by omega)).elim
          · omega
      rintro b Γ' ⟨rfl, rfl⟩
      refine ⟨fun hT => ?_, fun hF => ss_nil ?_⟩
      · rw [hT] at hq
        refine ss_one (s_ret (w_bool (fin_eq (ds := [rowD r]) ?_)))
        rw [← hq]; rfl
      · rw [hF] at hq
        exact hn (.im (.int q.t), .im (Fd f)) hq
  · rintro ⟨s1, s2⟩ hq
    refine ss_one (s_ret (w_bool (fin_eq (ds := [rowD r]) ?_)))
    rw [← hq]; rfl
/-! ### value_at, last_value -/
abbrev s_value_at : Stmt := top 69
abbrev n_value_at : List Str := ["row", "time", "own", "value"]
theorem sc_value_at : FnScope n_value_at ["row", "time"] (defScope s_value_at) := ⟨rfl, rfl, rfl, by decide +kernel, rfl, by decide +kernel, by decide +kernel⟩
def valueAt' (r : List VPoint) (t : Int) : Option Frac := (Vatmsa.pointAt r t).bind fun p => p.v
def p_value_at : List D → D → Prop := fun ds d => ∃ (r : List VPoint) (t : Int), ds = [rowD r, .int t] ∧ d = optFd (valueAt' r t)
theorem f_value_at (F : Fa K mg "value_at" s_value_at) : Fv P w K mg base CX0 1 "value_at" ["row", "time"] (PureP p_value_at) := by
  refine fa_fv F (fun _ _ _ _ _ _ us hl => match us, hl with | [_, _], _ => rfl) fun f fd F => fn0 F sc_value_at (fun Γ r ⟨ds, d, e, _, x, t, e2, _⟩ => by subst e; subst e2; rfl) ?_
  have nd := sc_value_at.nd
  rintro cdv A outer s H E _ _ hr ⟨_, _, rfl, rfl, r, t, rfl, rfl⟩
  refine ss_cons (s_for (js := [2, 3]) .never rfl (i_list (wv 0 rfl ⟨_, rfl, ?_⟩)))
  refine for_ind ptD (fun (u : Sl × Sl) => [.im (rowD r), .im (.int t), u.1, u.2]) (fun _ rest => valueAt' rest t = valueAt' r t) ?_ ?_ _ (.un, .un) rfl
  · rintro ⟨s1, s2⟩ q rest hq nx hn
    have hq : ((match q.t == t with | true => some q | false => Vatmsa.pointAt rest t).bind fun p => p.v) = valueAt' r t := hq
    refine (g1_tup rfl (gs_cons (gn 2 nd (gs_cons (gn 3 nd (gs_nil ?_))))))
    refine ss_one (s_if (t_cmp (wv 2 rfl (wv 1 rfl ⟨_, o_eqI, ⟨fun hT => ?_, fun hF => ss_nil ?_⟩⟩))))
    · have e : (q.t == t) = true := by simpa using hT
      rw [e] at hq
      refine ss_one (s_ret (wv 3 rfl (fin_eq (ds := [rowD r, .int t]) ?_)))
      rw [← hq]; rfl
    · have e : (q.t == t) = false := by simpa using hF
      rw [e] at hq
      exact hn (_, _) hq
  · rintro ⟨s1, s2⟩ hq
    refine ss_one (s_ret (w_none (fin_eq (ds := [rowD r, .int t]) ?_)))
    rw [← hq]; rfl
abbrev s_last_value : Stmt := top 70
abbrev n_last_value : List Str := ["row", "time", "found", "own", "value"]
theorem sc_last_value : FnScope n_last_value ["row", "time"] (defScope s_last_value) := ⟨rfl, rfl, rfl, by decide +kernel, rfl, by decide +kernel, by decide +kernel⟩
def lastV (r : List VPoint) (t : Int) : Option Frac := (Vatmsa.lastAt r t).bind fun p => p.v
def p_last_value : List D → D → Prop := fun ds d => ∃ (r : List VPoint) (t : Int), ds = [rowD r, .int t] ∧ d = optFd (lastV r t)
def lastF (o : Option Frac) (r : List VPoint) (t : Int) : Option Frac := r.foldl (fun o q => if q.t ≤ t then q.v else o) o
theorem last_fold (r : List VPoint) (t : Int) : lastF none r t = lastV r t := by
  have : ∀ (r : List VPoint) (o : Option Frac), lastF o r t = match (r.filter fun p => decide (p.t ≤ t)).getLast? with
    | some p => p.v
    | none => o := by
    intro r
    induction r with
    | nil => intro o; rfl
    | cons q r ih =>
      intro o
      show lastF (if q.t ≤ t then q.v else o) r t = _
      rw [ih, List.filter_cons]
      by_cases h : q.t ≤ t
      · rw [if_pos h, if_pos (by simpa using h), List.getLast?_cons]
        cases (r.filter fun p => decide (p.t ≤ t)).getLast? <;> rfl
      · rw [if_neg h, if_neg (by simpa using h)]
  rw [this]
  unfold lastV Vatmsa.lastAt
  cases (r.filter fun p => decide (p.t ≤ t)).getLast? <;> rfl
theorem f_last_value (F : Fa K mg "last_value" s_last_value) : Fv P w K mg base CX0 1 "last_value" ["row", "time"] (PureP p_last_value) := by
  refine fa_fv F (fun _ _ _ _ _ _ us hl => match us, hl with | [_, _], _ => rfl) fun f fd F => fn0 F sc_last_value (fun Γ r ⟨ds, d, e, _, x, t, e2, _⟩ => by subst e; subst e2; rfl) ?_
  have nd := sc_last_value.nd
  rintro cdv A outer s H E _ _ hr ⟨_, _, rfl, rfl, r, t, rfl, rfl⟩
  refine ss_cons (ss 2 nd (w_none ?_))
  refine ss_cons (s_for (js := [3, 4]) .never rfl (i_list (wv 0 rfl ⟨_, rfl, ?_⟩)))
  refine for_ind ptD (fun (u : Option Frac × Sl × Sl) => [.im (rowD r), .im (.int t), .im (optFd u.1), u.2.1, u.2.2]) (fun u rest => lastF u.1 rest t = lastV r t) ?_ ?_ _ (none, .un, .un) (last_fold r t)
  · rintro ⟨o, s1, s2⟩ q rest hq nx hn
    have hq : lastF (if q.t ≤ t then q.v else o) rest t = lastV r t := hq
    refine (g1_tup rfl (gs_cons (gn 3 nd (gs_cons (gn 4 nd (gs_nil ?_))))))
    refine ss_one (s_if (t_cmp (wv 3 rfl (wv 1 rfl ⟨_, o_le, ⟨fun hT => ?_, fun hF => ss_nil ?_⟩⟩))))
    · rw [if_pos (of_decide_eq_true hT)] at hq
      exact ss_one (ss 2 nd (wv 4 rfl (hn (q.v, .im (.int q.t), .im (optFd q.v)) hq)))
    · rw [if_neg (of_decide_eq_false hF)] at hq
      exact hn (o, .im (.int q.t), .im (optFd q.v)) hq
  · rintro ⟨o, s1, s2⟩ hq
    refine ss_one (s_ret (wv 2 rfl (fin_eq (ds := [rowD r, .int t]) ?_)))
    rw [← hq]; rfl
end
end Fp

set_option Elab.async false
set_option linter.all false
set_option maxRecDepth 100000
set_option maxHeartbeats 2000000
namespace Fp
open PySem PySem.Spec PyProof.Rows L2 Dl
open VatmsBase (Bytes word Frac frac whole)
open Vatmsa (pairWord operate)
theorem lit_add : Str.ofString "add" = strB (word "add") := by decide +kernel
theorem lit_sub : Str.ofString "sub" = strB (word "sub") := by decide +kernel
theorem lit_least : Str.ofString "least" = strB (word "least") := by decide +kernel
theorem lit_most : Str.ofString "most" = strB (word "most") := by decide +kernel
def opV (o : Vatmsa.Pair) (a b : Option Frac) : Option Frac := a.bind fun x => b.map fun y => operate o x y
section
variable {P : Program} {w : World} {K : PySem.W.Frag} {mg : Str → Option Value} {base : Heap}
abbrev s_of_two_values : Stmt := top 71
abbrev n_of_two_values : List Str := ["word", "one", "other"]
theorem sc_of_two_values : FnScope n_of_two_values ["word", "one", "other"] (defScope s_of_two_values) := ⟨rfl, rfl, rfl, by decide +kernel, rfl, by decide +kernel, by decide +kernel⟩
def p_of_two_values : List D → D → Prop := fun ds d => ∃ (o : Vatmsa.Pair) (a b : Option Frac), ds = [.str (strB (pairWord o)), optFd a, optFd b] ∧ VsOk a ∧ VsOk b ∧ d = optFd (opV o a b)
abbrev FvOTV (P : Program) (w : World) (K : PySem.W.Frag) (mg : Str → Option Value) (base : Heap) : Prop := Fv P w K mg base CX0 4 "of_two_values" ["word", "one", "other"] (PureP p_of_two_values)
theorem f_of_two_values (F : Fa K mg "of_two_values" s_of_two_values) (hplus : FvPlus P w K mg base) (hless : FvLess P w K mg base) (hleast_of : FvBest P w K mg base "least_of" VatmsBase.least) (hgreatest_of : FvBest P w K mg base "greatest_of" VatmsBase.greatest) : FvOTV P w K mg base := by
  refine fa_fv F (fun _ _ _ _ _ _ us hl => match us, hl with | [_, _, _], _ => rfl) fun f fd F => fn0 F sc_of_two_values (fun Γ r ⟨ds, d, e, _, o, a, b, e2, _⟩ => by subst e; subst e2; rfl) ?_
  have nd := sc_of_two_values.nd
  rintro cdv A outer s H E _ _ hr ⟨_, _, rfl, rfl, o, a, b, rfl, va, vb, rfl⟩
  cases a with
  | none =>
    refine ss_cons (s_if (t_bool (tw_or (t_cmp (wv 1 rfl (w_none ⟨_, o_is, ⟨fun hT => ⟨fun _ => ?_, fun hF => (Bool.false_ne_true hF.symm).elim⟩, fun hF => (nomatch hF)⟩⟩))))))
    exact ss_one (s_ret (w_none (fin_eq rfl)))
  | some x =>
  cases b with
  | none =>
    refine ss_cons (s_if (t_bool (tw_or (t_cmp (wv 1 rfl (w_none ⟨_, o_is, ⟨fun hT => (nomatch hT), fun hF => (tw_or1 (t_cmp (wv 2 rfl (w_none ⟨_, o_is, ⟨fun hT => ?_, fun hF => (nomatch hF)⟩⟩))))⟩⟩))))))
    exact ss_one (s_ret (w_none (fin_eq rfl)))
  | some y =>
  have vx := (va x rfl).bd
  have vy := (vb y rfl).bd
  refine ss_cons (s_if (t_bool (tw_or (t_cmp (wv 1 rfl (w_none ⟨_, o_is, ⟨fun hT => (nomatch hT), fun hF => (tw_or1 (t_cmp (wv 2 rfl (w_none ⟨_, o_is, ⟨fun hT => (nomatch hT), fun hF => ss_nil ?_⟩⟩))))⟩⟩))))))
  refine ss_cons (s_if (t_cmp (wv 0 rfl (w_str ⟨_, o_eqS, ⟨fun hT => ?_, fun hF => ss_nil ?_⟩⟩))))
  · rw [dec_word lit_add] at hT
    have : o = .add := by cases o <;> first | rfl | exact absurd hT (by decide)
    subst this
    exact ss_one (s_ret (w_callP hplus (hr.mono (by decide)) rfl pass (d_cons (wv 1 rfl (d_cons (wv 2 rfl (d_nil ⟨_, ⟨x, y, 80, 80, rfl, vx, vy, by decide, by decide, by decide, rfl⟩, fin_eq rfl⟩)))))))
  rw [dec_word lit_add] at hF
  refine ss_cons (s_if (t_cmp (wv 0 rfl (w_str ⟨_, o_eqS, ⟨fun hT => ?_, fun hF2 => ss_nil ?_⟩⟩))))
  · rw [dec_word lit_sub] at hT
    have : o = .sub := by cases o <;> first | rfl | exact absurd hT (by decide)
    subst this
    exact ss_one (s_ret (w_callP hless (hr.mono (by decide)) rfl pass (d_cons (wv 1 rfl (d_cons (wv 2 rfl (d_nil ⟨_, ⟨x, y, 80, 80, rfl, vx, vy, by decide, by decide, by decide, rfl⟩, fin_eq rfl⟩)))))))
  rw [dec_word lit_sub] at hF2
  refine ss_cons (s_if (t_cmp (wv 0 rfl (w_str ⟨_, o_eqS, ⟨fun hT => ?_, fun hF3 => ss_nil ?_⟩⟩))))
  · rw [dec_word lit_least] at hT
    have : o = .least := by cases o <;> first | rfl | exact absurd hT (by decide)
    subst this
    exact ss_one (s_ret (w_callP hleast_of (hr.mono (by decide)) rfl pass (d_cons (w_new (w_lst (d_cons (wv 1 rfl (d_cons (wv 2 rfl (d_nil ⟨len_le, (d_nil ⟨_, ⟨x, [y], 80, rfl, vx, fun z hz => by rw [List.mem_singleton.mp hz]; exact vy, by decide, by decide, rfl⟩, fin_eq rfl⟩)⟩))))))))))
  · rw [dec_word lit_least] at hF3
    have : o = .most := by cases o <;> first | rfl | exact absurd hF (by decide) | exact absurd hF2 (by decide) | exact absurd hF3 (by decide)
    subst this
    exact ss_one (s_ret (w_callP hgreatest_of (hr.mono (by decide)) rfl pass (d_cons (w_new (w_lst (d_cons (wv 1 rfl (d_cons (wv 2 rfl (d_nil ⟨len_le, (d_nil ⟨_, ⟨x, [y], 80, rfl, vx, fun z hz => by rw [List.mem_singleton.mp hz]; exact vy, by decide, by decide, rfl⟩, fin_eq rfl⟩)⟩))))))))))
/-! ### sums -/
abbrev s_sums : Stmt := top 79
abbrev n_sums : List Str := ["row", "found", "total", "time", "value"]
theorem sc_sums : FnScope n_sums ["row"] (defScope s_sums) := ⟨rfl, rfl, rfl, by decide +kernel, rfl, by decide +kernel, by decide +kernel⟩
def p_sums : List D → D → Prop := fun ds d => ∃ (B : Nat) (r : List VPoint), ds = [rowD r] ∧ RwOk B r ∧ d = rowD (Vatmsa.running none r)
def stepR (s v : Option Frac) : Option Frac := match s, v with
  | some a, some b => some (VatmsBase.plus a b)
  | none, b => b
  | a, none => a
theorem running_cons (s : Option Frac) (p : VPoint) (r : List VPoint) : Vatmsa.running s (p :: r) = ⟨p.t, stepR s p.v⟩ :: Vatmsa.running (stepR s p.v) r := rfl
theorem f_sums (F : Fa K mg "sums" s_sums) (hplus : FvPlus P w K mg base) : Fv P w K mg base CX0 4 "sums" ["row"] (PureP p_sums) := by
  refine fa_fv F (fun _ _ _ _ _ _ us hl => match us, hl with | [_], _ => rfl) fun f fd F => fn0 F sc_sums (fun Γ r ⟨ds, d, e, _, B, x, e2, _⟩ => by subst e; subst e2; rfl) ?_
  have nd := sc_sums.nd
  rintro cdv A outer s H E _ _ hr ⟨_, _, rfl, rfl, B, r, rfl, ok, rfl⟩
  have hz : sizeLine = 16777216 := sizeLine_eq
  have hl := ok.len
  refine ss_cons (ssN 1 nd (w_lst (d_nil ⟨len_le, fun pf => ?_⟩)))
  refine ss_cons (ss 2 nd (w_none ?_))
  refine ss_cons (s_for (js := [3, 4]) .never rfl (i_list (wv 0 rfl ⟨_, rfl, ?_⟩)))
  refine for_ind ptD (fun (u : List VPoint × Option Frac × Sl × Sl) => [.im (rowD r), .own pf (.lst (u.1.map ptD)), .im (optFd u.2.1), u.2.2.1, u.2.2.2])
    (fun u rest => u.1.length + rest.length = r.length ∧ (∀ q ∈ rest, VsOk q.v) ∧ (∀ f, u.2.1 = some f → Bd (81 * (u.1.length + 1)) f) ∧ u.1 ++ Vatmsa.running u.2.1 rest = Vatmsa.running none r) ?_ ?_ _ ([], none, .un, .un) ⟨by show 0 + r.length = _; omega, ok.vs, (fun f h => by cases h), rfl⟩
  · rintro ⟨acc, o, s1, s2⟩ q rest ⟨h1, h2, h3, h4⟩ nx hn
    have h1 : acc.length + (rest.length + 1) = r.length := h1
    have h3 : ∀ f, o = some f → Bd (81 * (acc.length + 1)) f := h3
    have h4 : acc ++ Vatmsa.running o (q :: rest) = Vatmsa.running none r := h4
    rw [running_cons] at h4
    have vq := h2 q List.mem_cons_self
    have go : (∀ f, stepR o q.v = some f → Bd (81 * (acc.length + 2)) f) → nx [.im (rowD r), .own pf (.lst (acc.map ptD ++ [D.tup [.int q.t, optFd (stepR o q.v)]])), .im (optFd (stepR o q.v)), .im (.int q.t), .im (optFd q.v)] := fun hb => by
      have := hn (acc ++ [⟨q.t, stepR o q.v⟩], stepR o q.v, .im (.int q.t), .im (optFd q.v)) ⟨by show (acc ++ [_]).length + rest.length = _; rw [List.length_append]; show acc.length + 1 + rest.length = _; omega, fun z hz => h2 z (List.mem_cons_of_mem _ hz), fun f hf => by have := hb f hf; show Bd (81 * ((acc ++ [(⟨q.t, stepR o q.v⟩ : VPoint)]).length + 1)) f; rw [List.length_append]; exact this, by rw [← h4]; show (acc ++ [_]) ++ _ = acc ++ _; rw [List.append_assoc]; rfl⟩
      rw [List.map_append] at this
      exact this
    refine (g1_tup rfl (gs_cons (gn 3 nd (gs_cons (gn 4 nd (gs_nil ?_))))))
    cases hv : q.v with
    | none =>
      rw [hv] at go
      have es : stepR o none = o := by cases o <;> rfl
      rw [es] at go
      refine ss_cons (s_if (t_cmp (wv 4 rfl (w_none ⟨_, o_isnot, ⟨fun hT => (nomatch hT), fun hF => ss_nil ?_⟩⟩))))
      exact (ss_one (s_append 1 rfl (.inl rfl) rfl (w_tup (d_cons (wv 3 rfl (d_cons (wv 2 rfl (d_nil ⟨len_le, ⟨_, rfl, by rw [List.length_map]; omega, go fun f hf => (h3 f hf).mono (by omega)⟩⟩))))))))
    | some v =>
      have bv := (vq v hv).bd
      rw [hv] at go
      cases o with
      | none =>
        refine ss_cons (s_if (t_cmp (wv 4 rfl (w_none ⟨_, o_isnot, ⟨fun hT => ?_, fun hF => (nomatch hF)⟩⟩))))
        refine ss_one (ss 2 nd (w_if (t_cmp (wv 2 rfl (w_none ⟨_, o_is, ⟨fun hT => (wv 4 rfl ?_), fun hF => (nomatch hF)⟩⟩)))))
        exact (ss_one (s_append 1 rfl (.inl rfl) rfl (w_tup (d_cons (wv 3 rfl (d_cons (wv 2 rfl (d_nil ⟨len_le, ⟨_, rfl, by rw [List.length_map]; omega, go fun f hf => by cases hf; exact bv.mono (by omega)⟩⟩))))))))
      | some t =>
        have bt := h3 t rfl
        have hq : acc.length + 1 ≤ 60 := by omega
        refine ss_cons (s_if (t_cmp (wv 4 rfl (w_none ⟨_, o_isnot, ⟨fun hT => ?_, fun hF => (nomatch hF)⟩⟩))))
        refine ss_one (ss 2 nd (w_if (t_cmp (wv 2 rfl (w_none ⟨_, o_is, ⟨fun hT => (nomatch hT), fun hF => (w_callP hplus (hr.mono (by decide)) rfl pass (d_cons (wv 2 rfl (d_cons (wv 4 rfl (d_nil ⟨_, ⟨t, v, 81 * (acc.length + 1), 80, rfl, bt, bv, by omega, by omega, by decide, rfl⟩, ?_⟩))))))⟩⟩)))))
        exact (ss_one (s_append 1 rfl (.inl rfl) rfl (w_tup (d_cons (wv 3 rfl (d_cons (wv 2 rfl (d_nil ⟨len_le, ⟨_, rfl, by rw [List.length_map]; omega, go fun f hf => by cases hf; exact (plus_bd bt bv).mono (by omega)⟩⟩))))))))
  · rintro ⟨acc, o, s1, s2⟩ ⟨_, _, _, h4⟩
    have h4 : acc ++ [] = Vatmsa.running none r := h4
    refine ss_one (s_ret (wg 1 rfl (fin_eq (ds := [rowD r]) ?_)))
    rw [← h4, List.append_nil]; rfl
end
end Fp

set_option Elab.async false
set_option linter.all false
set_option maxRecDepth 100000
set_option maxHeartbeats 2000000
namespace Fp
open PySem PySem.Spec PyProof.Rows L2 Dl
open VatmsBase (Bytes word Frac frac whole)
open Vatmsa (pairWord operate)
theorem row_at {r : List VPoint} {k : Nat} {q : VPoint} (h : r[k]? = some q) : atI (r.map ptD) (k : Nat) = some (ptD q) := atI_nat (by rw [List.getElem?_map, h]; rfl)
section
variable {P : Program} {w : World} {K : PySem.W.Frag} {mg : Str → Option Value} {base : Heap}
/-! ### differences -/
abbrev s_differences : Stmt := top 78
abbrev n_differences : List Str := ["row", "found", "k"]
theorem sc_differences : FnScope n_differences ["row"] (defScope s_differences) := ⟨rfl, rfl, rfl, by decide +kernel, rfl, by decide +kernel, by decide +kernel⟩
def p_differences : List D → D → Prop := fun ds d => ∃ (B : Nat) (r : List VPoint), ds = [rowD r] ∧ RwOk B r ∧ d = rowD (Vatmsa.differences r)
theorem diff_at {r : List VPoint} {k : Nat} {p q : VPoint} (hp : r[k]? = some p) (hq : r[k + 1]? = some q) : (Vatmsa.differences r)[k]? = some ⟨q.t, opV .sub q.v p.v⟩ := by
  unfold Vatmsa.differences
  rw [List.getElem?_map]
  have : (r.zip (r.drop 1))[k]? = some (p, q) := List.getElem?_zip_eq_some.mpr ⟨hp, by rw [List.getElem?_drop, Nat.add_comm]; exact hq⟩
  rw [this]
  show some _ = some _
  congr 1
  show (⟨q.t, p.v.bind fun a => q.v.map fun b => VatmsBase.minus b a⟩ : VPoint) = _
  congr 1
  unfold opV
  cases p.v <;> cases q.v <;> rfl
theorem diff_len (r : List VPoint) : (Vatmsa.differences r).length = r.length - 1 := by
  unfold Vatmsa.differences
  rw [List.length_map, List.length_zip, List.length_drop]
  omega
theorem f_differences (F : Fa K mg "differences" s_differences) (hotv : FvOTV P w K mg base) (nlen : mg "len" = none) (nrange : mg "range" = none) : Fv P w K mg base CX0 5 "differences" ["row"] (PureP p_differences) := by
  refine fa_fv F (fun _ _ _ _ _ _ us hl => match us, hl with | [_], _ => rfl) fun f fd F => fn0 F sc_differences (fun Γ r ⟨ds, d, e, _, B, x, e2, _⟩ => by subst e; subst e2; rfl) ?_
  have nd := sc_differences.nd
  rintro cdv A outer s H E _ _ hr ⟨_, _, rfl, rfl, B, r, rfl, ok, rfl⟩
  have hz : sizeLine = 16777216 := sizeLine_eq
  have hl := ok.len
  have dl := diff_len r
  refine ss_cons (ssN 1 nd (w_lst (d_nil ⟨len_le, fun pf => ?_⟩)))
  refine ss_cons (s_for (js := [2]) .never rfl (i_range2 rfl nrange (d_cons (w_int (d_cons (w_callB rfl nlen boot_len (d_cons (wv 0 rfl (d_nil ⟨_, c_lenL, (d_nil ⟨_, _, rfl, by rw [List.length_map]; omega, ?_⟩)⟩)))))))))
  rw [show (((r.map ptD).length : Int) - 1).toNat = r.length - 1 by rw [List.length_map]; omega, rng_up1]
  refine for_ind Nd (fun (u : List VPoint × Sl) => [.im (rowD r), .own pf (.lst (u.1.map ptD)), u.2])
    (fun u rest => ∃ k, rest = List.range' (k + 1) (r.length - 1 - k) ∧ k ≤ r.length ∧ u.1 = (Vatmsa.differences r).take k ∧ u.1.length ≤ k) ?_ ?_ _ ([], .un) ⟨0, rfl, Nat.zero_le _, rfl, Nat.le_refl _⟩
  · rintro ⟨acc, s1⟩ x rest ⟨k, e1, h1, h2, h3⟩ nx hn
    have h2 : acc = (Vatmsa.differences r).take k := h2
    have h3 : acc.length ≤ k := h3
    obtain ⟨m, hm⟩ : ∃ m, r.length - 1 - k = m + 1 := ⟨r.length - 1 - k - 1, by
      have : (List.range' (k + 1) (r.length - 1 - k)).length = r.length - 1 - k := List.length_range'
      rw [← e1] at this; simp at this; omega⟩
    rw [hm, List.range'_succ] at e1
    obtain ⟨rfl, rfl⟩ := List.cons.inj e1
    have hk1 : k + 1 < r.length := by omega
    obtain ⟨p, hp⟩ : ∃ p, r[k]? = some p := ⟨r[k], List.getElem?_eq_getElem (by omega)⟩
    obtain ⟨q, hq⟩ : ∃ q, r[k + 1]? = some q := ⟨r[k + 1], List.getElem?_eq_getElem hk1⟩
    have vp := ok.vs p (List.mem_of_getElem? hp)
    have vq := ok.vs q (List.mem_of_getElem? hq)
    have da := diff_at hp hq
    have hp' : atI (r.map ptD) (((k + 1 : Nat) : Int) - 1) = some (ptD p) := by
      rw [show (((k + 1 : Nat) : Int) - 1) = ((k : Nat) : Int) by omega]; exact row_at hp
    refine (gn 2 nd ?_)
    refine ss_one (s_append 1 rfl (.inl rfl) rfl (w_tup (d_cons (w_ix (w_ix (wv 0 rfl (wv 2 rfl ⟨_, (ix2_lst (row_at hq)), (w_int ⟨_, (ix2_tup rfl), (d_cons (w_callP hotv (hr.mono (by decide)) rfl pass (d_cons (w_str (d_cons (w_ix (w_ix (wv 0 rfl (wv 2 rfl ⟨_, (ix2_lst (row_at hq)), (w_int ⟨_, (ix2_tup rfl), (d_cons (w_ix (w_ix (wv 0 rfl (w_bin (wv 2 rfl (w_int ⟨_, o_subI, ⟨_, (ix2_lst hp'), (w_int ⟨_, (ix2_tup rfl), (d_nil ⟨_, ⟨.sub, q.v, p.v, by rw [lit_sub]; rfl, vq, vp, rfl⟩, (d_nil ⟨len_le, ⟨_, rfl, by rw [List.length_map]; omega, ?_⟩⟩)⟩)⟩)⟩⟩)))))))⟩)⟩)))))))))⟩)⟩)))))))
    have := hn ((Vatmsa.differences r).take (k + 1), .im (Nd (k + 1))) ⟨k + 1, by rw [show r.length - 1 - (k + 1) = m by omega], by omega, rfl, by show ((Vatmsa.differences r).take (k + 1)).length ≤ _; rw [List.length_take]; omega⟩
    have e2 : (Vatmsa.differences r).take (k + 1) = acc ++ [⟨q.t, opV .sub q.v p.v⟩] := by
      rw [List.take_add_one, da, h2]; rfl
    rw [e2, List.map_append] at this
    exact this
  · rintro ⟨acc, s1⟩ ⟨k, e1, h1, h2, h3⟩
    have h2 : acc = (Vatmsa.differences r).take k := h2
    have hk : r.length - 1 ≤ k := by
      have : (List.range' (k + 1) (r.length - 1 - k)).length = r.length - 1 - k := List.length_range'
      rw [← e1] at this; simp at this; omega
    refine ss_one (s_ret (wg 1 rfl (fin_eq (ds := [rowD r]) ?_)))
    show D.lst (acc.map ptD) = _
    rw [h2, List.take_of_length_le (by omega)]
/-! ### each_value -/
abbrev s_each_value : Stmt := top 80
abbrev n_each_value : List Str := ["row", "word", "own", "found", "time", "value"]
theorem sc_each_value : FnScope n_each_value ["row", "word", "own"] (defScope s_each_value) := ⟨rfl, rfl, rfl, by decide +kernel, rfl, by decide +kernel, by decide +kernel⟩
def p_each_value : List D → D → Prop := fun ds d => ∃ (B : Nat) (r : List VPoint) (b : Bytes) (c : Frac), ds = [rowD r, .str (strB b), Fd c] ∧ RwOk B r ∧ Bd 80 c ∧ d = rowD (if b = word "scale" then Vatmsa.scaledBy r c else Vatmsa.overRow r c)
theorem f_each_value (F : Fa K mg "each_value" s_each_value) (htimes : FvTimes P w K mg base) (hbelow : FvBelow P w K mg base) (gO : Glo K mg "ONE" (Fd (whole 1))) (gN : Glo K mg "NOUGHT" (Fd (whole 0))) : Fv P w K mg base CX0 4 "each_value" ["row", "word", "own"] (PureP p_each_value) := by
  refine fa_fv F (fun _ _ _ _ _ _ us hl => match us, hl with | [_, _, _], _ => rfl) fun f fd F => fn0 F sc_each_value (fun Γ r ⟨ds, d, e, _, B, x, b, c, e2, _⟩ => by subst e; subst e2; rfl) ?_
  have nd := sc_each_value.nd
  rintro cdv A outer s H E _ _ hr ⟨_, _, rfl, rfl, B, r, b, c, rfl, ok, bc, rfl⟩
  have hz : sizeLine = 16777216 := sizeLine_eq
  have hl := ok.len
  let g : VPoint → VPoint := fun p => ⟨p.t, p.v.map fun v => if b = word "scale" then VatmsBase.times v c else if VatmsBase.less c v = true then whole 1 else whole 0⟩
  have eg : (if b = word "scale" then Vatmsa.scaledBy r c else Vatmsa.overRow r c) = r.map g := by
    by_cases h : b = word "scale"
    · rw [if_pos h]
      show r.map _ = r.map _
      simp only [g, if_pos h]
    · rw [if_neg h]
      show r.map _ = r.map _
      simp only [g, if_neg h]
  rw [eg]
  refine ss_cons (ssN 3 nd (w_lst (d_nil ⟨len_le, fun pf => ?_⟩)))
  refine ss_cons (s_for (js := [4, 5]) .never rfl (i_list (wv 0 rfl ⟨_, rfl, ?_⟩)))
  refine for_ind ptD (fun (u : List VPoint × Sl × Sl) => [.im (rowD r), .im (.str (strB b)), .im (Fd c), .own pf (.lst (u.1.map ptD)), u.2.1, u.2.2])
    (fun u rest => u.1.length + rest.length = r.length ∧ (∀ q ∈ rest, VsOk q.v) ∧ u.1 ++ rest.map g = r.map g) ?_ ?_ _ ([], .un, .un) ⟨by show 0 + r.length = _; omega, ok.vs, rfl⟩
  · rintro ⟨acc, s1, s2⟩ q rest ⟨h1, h2, h4⟩ nx hn
    have h1 : acc.length + (rest.length + 1) = r.length := h1
    have h4 : acc ++ (g q :: rest.map g) = r.map g := h4
    have vq := h2 q List.mem_cons_self
    have go : ∀ s4 : D, s4 = optFd (g q).v → nx [.im (rowD r), .im (.str (strB b)), .im (Fd c), .own pf (.lst (acc.map ptD ++ [D.tup [.int q.t, s4]])), .im (.int q.t), .im s4] := fun s4 e4 => by
      subst e4
      have := hn (acc ++ [g q], .im (.int q.t), .im (optFd (g q).v)) ⟨by show (acc ++ [_]).length + rest.length = _; rw [List.length_append]; show acc.length + 1 + rest.length = _; omega, fun z hz => h2 z (List.mem_cons_of_mem _ hz), by rw [← h4]; show (acc ++ [_]) ++ _ = acc ++ _; rw [List.append_assoc]; rfl⟩
      rw [List.map_append] at this
      exact this
    refine (g1_tup rfl (gs_cons (gn 4 nd (gs_cons (gn 5 nd (gs_nil ?_))))))
    cases hv : q.v with
    | none =>
      have gq : (g q).v = none := by show q.v.map _ = none; rw [hv]; rfl
      rw [gq] at go
      refine ss_cons (s_if (t_bool (tw_and (t_cmp (wv 5 rfl (w_none ⟨_, o_isnot, ⟨fun hF => ⟨fun hT => (Bool.false_ne_true hT).elim, fun _ => ?_⟩, fun hT => (nomatch hT)⟩⟩))))))
      refine ss_one (s_if (t_cmp (wv 5 rfl (w_none ⟨_, o_isnot, ⟨fun hT => (nomatch hT), fun hF => ss_nil ?_⟩⟩))))
      exact (ss_one (s_append 3 rfl (.inl rfl) rfl (w_tup (d_cons (wv 4 rfl (d_cons (wv 5 rfl (d_nil ⟨len_le, ⟨_, rfl, by rw [List.length_map]; omega, go _ rfl⟩⟩))))))))
    | some v =>
      have bv := (vq v hv).bd
      have gq : (g q).v = some (if b = word "scale" then VatmsBase.times v c else if VatmsBase.less c v = true then whole 1 else whole 0) := by show q.v.map _ = _; rw [hv]; rfl
      rw [gq] at go
      refine ss_cons (s_if (t_bool (tw_and (t_cmp (wv 5 rfl (w_none ⟨_, o_isnot, ⟨fun hF => (nomatch hF), fun hT => (tw_and1 (t_cmp (wv 1 rfl (w_str ⟨_, o_eqS, ⟨fun hT => ?_, fun hF => ?_⟩⟩))))⟩⟩))))))
      · rw [dec_word lit_scale] at hT
        rw [if_pos (of_decide_eq_true hT)] at go
        refine ss_one (ss 5 nd (w_callP htimes (hr.mono (by decide)) rfl pass (d_cons (wv 5 rfl (d_cons (wv 2 rfl (d_nil ⟨_, ⟨v, c, 80, 80, rfl, bv, bc, by decide, by decide, by decide, rfl⟩, ?_⟩)))))))
        exact (ss_one (s_append 3 rfl (.inl rfl) rfl (w_tup (d_cons (wv 4 rfl (d_cons (wv 5 rfl (d_nil ⟨len_le, ⟨_, rfl, by rw [List.length_map]; omega, go _ rfl⟩⟩))))))))
      · rw [dec_word lit_scale] at hF
        rw [if_neg (of_decide_eq_false hF)] at go
        refine ss_one (s_if (t_cmp (wv 5 rfl (w_none ⟨_, o_isnot, ⟨fun hT => ?_, fun hF => (nomatch hF)⟩⟩))))
        refine ss_one (ss 5 nd (w_if (t_val (w_callP hbelow (hr.mono (by decide)) rfl pass (d_cons (wv 2 rfl (d_cons (wv 5 rfl (d_nil ⟨_, ⟨c, v, 80, 80, rfl, bc, bv, by decide, by decide, by decide, rfl⟩, ⟨_, rfl, ⟨fun hT => (w_glob gO rfl ?_), fun hF => (w_glob gN rfl ?_)⟩⟩⟩)))))))))
        · rw [if_pos hT] at go
          exact (ss_one (s_append 3 rfl (.inl rfl) rfl (w_tup (d_cons (wv 4 rfl (d_cons (wv 5 rfl (d_nil ⟨len_le, ⟨_, rfl, by rw [List.length_map]; omega, go _ rfl⟩⟩))))))))
        · rw [if_neg (by rw [hF]; decide)] at go
          exact (ss_one (s_append 3 rfl (.inl rfl) rfl (w_tup (d_cons (wv 4 rfl (d_cons (wv 5 rfl (d_nil ⟨len_le, ⟨_, rfl, by rw [List.length_map]; omega, go _ rfl⟩⟩))))))))
  · rintro ⟨acc, s1, s2⟩ ⟨_, _, h4⟩
    have h4 : acc ++ [] = r.map g := h4
    refine ss_one (s_ret (wg 3 rfl (fin_eq (ds := [rowD r, .str (strB b), Fd c]) ?_)))
    rw [← h4, List.append_nil]; rfl
end
end Fp

set_option Elab.async false
set_option linter.all false
set_option maxRecDepth 100000
set_option maxHeartbeats 2000000
namespace Fp
open PySem PySem.Spec PyProof.Rows L2 Dl
open VatmsBase (Bytes word Frac frac whole)
open Vatmsa (overWord byRule sumOf windowNo inWindow windowCount)
theorem lit_count : Str.ofString "count" = strB (word "count") := by decide +kernel
theorem lit_sum : Str.ofString "sum" = strB (word "sum") := by decide +kernel
theorem lit_mean : Str.ofString "mean" = strB (word "mean") := by decide +kernel
theorem lit_first : Str.ofString "first" = strB (word "first") := by decide +kernel
theorem pqFs (l : List Frac) : PqA 1 (l.map Fd) (l.map fun f => .tuple [.int f.num, .int f.den]) := PqA.map fun f _ => pqF f
section
variable {P : Program} {w : World} {K : PySem.W.Frag} {mg : Str → Option Value} {base : Heap}
abbrev s_window_value : Stmt := top 76
abbrev n_window_value : List Str := ["values", "word"]
theorem sc_window_value : FnScope n_window_value ["values", "word"] (defScope s_window_value) := ⟨rfl, rfl, rfl, by decide +kernel, rfl, by decide +kernel, by decide +kernel⟩
def p_window_value : List D → D → Prop := fun ds d => ∃ (l : List Frac) (o : Vatmsa.Over), ds = [.lst (l.map Fd), .str (strB (overWord o))] ∧ l.length ≤ 60 ∧ (∀ f ∈ l, VOk f) ∧ d = optFd (byRule o l)
abbrev FvSum (P : Program) (w : World) (K : PySem.W.Frag) (mg : Str → Option Value) (base : Heap) : Prop := Fv P w K mg base CX0 4 "sum_of" ["some"] (PureP p_sum_of)
theorem f_window_value (F : Fa K mg "window_value" s_window_value) (hfraction : FvFraction P w K mg base) (htimes : FvTimes P w K mg base) (hsum_of : FvSum P w K mg base) (hleast_of : FvBest P w K mg base "least_of" VatmsBase.least) (hgreatest_of : FvBest P w K mg base "greatest_of" VatmsBase.greatest) (nlen : mg "len" = none) : Fv P w K mg base CX0 5 "window_value" ["values", "word"] (PureP p_window_value) := by
  refine fa_fv F (fun _ _ _ _ _ _ us hl => match us, hl with | [_, _], _ => rfl) fun f fd F => fn0 F sc_window_value (fun Γ r ⟨ds, d, e, _, l, o, e2, _⟩ => by subst e; subst e2; rfl) ?_
  have nd := sc_window_value.nd
  rintro cdv A outer s H E _ _ hr ⟨_, _, rfl, rfl, l, o, rfl, hl, hv, rfl⟩
  have hz : sizeLine = 16777216 := sizeLine_eq
  have hb : ∀ f ∈ l, Bd 90 f := fun f hf => (hv f hf).bd.mono (by decide)
  refine ss_cons (s_if (t_cmp (wv 1 rfl (w_str ⟨_, o_eqS, ⟨fun hT => ?_, fun hF => ss_nil ?_⟩⟩))))
  · rw [dec_word lit_count] at hT
    have : o = .count := by cases o <;> first | rfl | exact absurd hT (by decide)
    subst this
    refine ss_one (s_ret (w_callP hfraction (hr.mono (by decide)) rfl pass (d_cons (w_callB rfl nlen boot_len (d_cons (wv 0 rfl (d_nil ⟨_, c_lenL, (d_cons (w_int (d_nil ⟨_, ⟨_, 1, rfl, Nat.one_pos, Nat.one_lt_two_pow (by decide), rfl⟩, fin_eq ?_⟩)))⟩)))))))
    rw [frac_one, List.length_map]
    cases l <;> rfl
  rw [dec_word lit_count] at hF
  refine ss_cons (s_if (t_cmp (wv 0 rfl (w_new (w_lst (d_nil ⟨len_le, ⟨_, (o_eqNil hr.units (pqFs l) (by decide)), ⟨fun hT => ?_, fun hF2 => ss_nil ?_⟩⟩⟩))))))
  · have : l = [] := by simpa using hT
    subst this
    refine ss_one (s_ret (w_none (fin_eq ?_)))
    cases o <;> first | rfl | exact absurd hF (by decide)
  obtain ⟨a, t, rfl⟩ : ∃ a t, l = a :: t := by
    cases l with
    | nil => simp at hF2
    | cons a t => exact ⟨a, t, rfl⟩
  have ha := (hv a List.mem_cons_self).bd
  have ht : ∀ x ∈ t, Bd 80 x := fun x hx => (hv x (List.mem_cons_of_mem _ hx)).bd
  refine ss_cons (s_if (t_cmp (wv 1 rfl (w_str ⟨_, o_eqS, ⟨fun hT => ?_, fun hF3 => ss_nil ?_⟩⟩))))
  · rw [dec_word lit_sum] at hT
    have : o = .sum := by cases o <;> first | rfl | exact absurd hT (by decide)
    subst this
    exact ss_one (s_ret (w_callP hsum_of (hr.mono (by decide)) rfl pass (d_cons (wv 0 rfl (d_nil ⟨_, ⟨a :: t, rfl, by omega, hb, rfl⟩, fin_eq rfl⟩)))))
  rw [dec_word lit_sum] at hF3
  refine ss_cons (s_if (t_cmp (wv 1 rfl (w_str ⟨_, o_eqS, ⟨fun hT => ?_, fun hF4 => ss_nil ?_⟩⟩))))
  · rw [dec_word lit_mean] at hT
    have : o = .mean := by cases o <;> first | rfl | exact absurd hT (by decide)
    subst this
    have bs : Bd 8000 ((a :: t).foldl VatmsBase.plus (whole 0)) := by
      have := foldl_plus_bd (a :: t) (whole 0) 1 ⟨by decide, by decide, by decide⟩ (m := 80) fun x hx => (hv x hx).bd
      exact this.mono (by omega)
    have b1 : Bd 6 (frac 1 (a :: t).length) := frac_bd (Nat.succ_pos _) (by decide) (by show t.length + 1 < 64; have : t.length + 1 ≤ 60 := hl; omega)
    refine ss_one (s_ret (w_callP htimes (hr.mono (by decide)) rfl pass (d_cons (w_callP hsum_of (hr.mono (by decide)) rfl pass (d_cons (wv 0 rfl (d_nil ⟨_, ⟨a :: t, rfl, by omega, hb, rfl⟩, (d_cons (w_callP hfraction (hr.mono (by decide)) rfl pass (d_cons (w_int (d_cons (w_callB rfl nlen boot_len (d_cons (wv 0 rfl (d_nil ⟨_, c_lenL, (d_nil ⟨Fd (frac 1 (a :: t).length), ⟨1, (a :: t).length, by rw [List.length_map], Nat.succ_pos _, small_pow (by omega), rfl⟩, (d_nil ⟨_, ⟨_, _, 8000, 6, rfl, bs, b1, by decide, by decide, by decide, rfl⟩, fin_eq ?_⟩)⟩)⟩)))))))))⟩)))))))
    rfl
  rw [dec_word lit_mean] at hF4
  refine ss_cons (s_if (t_cmp (wv 1 rfl (w_str ⟨_, o_eqS, ⟨fun hT => ?_, fun hF5 => ss_nil ?_⟩⟩))))
  · rw [dec_word lit_least] at hT
    have : o = .least := by cases o <;> first | rfl | exact absurd hT (by decide)
    subst this
    exact ss_one (s_ret (w_callP hleast_of (hr.mono (by decide)) rfl pass (d_cons (wv 0 rfl (d_nil ⟨_, ⟨a, t, 80, rfl, ha, ht, by decide, by decide, rfl⟩, fin_eq rfl⟩)))))
  rw [dec_word lit_least] at hF5
  refine ss_cons (s_if (t_cmp (wv 1 rfl (w_str ⟨_, o_eqS, ⟨fun hT => ?_, fun hF6 => ss_nil ?_⟩⟩))))
  · rw [dec_word lit_most] at hT
    have : o = .most := by cases o <;> first | rfl | exact absurd hT (by decide)
    subst this
    exact ss_one (s_ret (w_callP hgreatest_of (hr.mono (by decide)) rfl pass (d_cons (wv 0 rfl (d_nil ⟨_, ⟨a, t, 80, rfl, ha, ht, by decide, by decide, rfl⟩, fin_eq rfl⟩)))))
  rw [dec_word lit_most] at hF6
  refine ss_one (s_ret (w_if (t_cmp (wv 1 rfl (w_str ⟨_, o_eqS, ⟨fun hT => (w_ix (wv 0 rfl (w_int ⟨Fd a, (ix2_lst at0), ?_⟩))), fun hF7 => (w_ix (wv 0 rfl (w_neg (w_int ⟨_, rfl, ⟨Fd ((a :: t).getLast?.getD a), (ix2_lst (atL ?_)), ?_⟩⟩))))⟩⟩)))))
  · rw [dec_word lit_first] at hT
    have : o = .first := by cases o <;> first | rfl | exact absurd hT (by decide)
    subst this
    exact fin_eq rfl
  · rw [List.getLast?_map, List.getLast?_eq_getLast (List.cons_ne_nil a t)]; rfl
  · rw [dec_word lit_first] at hF7
    have : o = .last := by cases o <;> first | rfl | exact absurd hF (by decide) | exact absurd hF3 (by decide) | exact absurd hF4 (by decide) | exact absurd hF5 (by decide) | exact absurd hF6 (by decide) | exact absurd hF7 (by decide)
    subst this
    refine fin_eq ?_
    show _ = optFd ((a :: t).getLast?)
    rw [List.getLast?_eq_getLast (List.cons_ne_nil a t)]; rfl
end
end Fp

set_option Elab.async false
set_option linter.all false
set_option maxRecDepth 100000
set_option maxHeartbeats 2000000
namespace Fp
open PySem PySem.Spec PyProof.Rows L2 Dl
open VatmsBase (Bytes word Frac frac whole)
open Vatmsa (overWord byRule sumOf windowNo inWindow windowCount windows)
def optRow : Option (List VPoint) → D
  | some r => rowD r
  | none => .non
theorem win_no {k : Nat} (t : Int) : windowNo k t = t / (k : Int) := Int.fdiv_eq_ediv_of_nonneg t (Int.natCast_nonneg k)
theorem in_window (r : List VPoint) (k : Nat) (j : Int) : (r.filter fun p => p.v.isSome && decide (p.t / (k : Int) = j)).map (fun p => optFd p.v) = (inWindow r k j).map Fd := by
  unfold inWindow
  induction r with
  | nil => rfl
  | cons p r ih =>
    rw [List.filter_cons, List.filter_cons, win_no]
    cases hv : p.v with
    | none =>
      rw [if_neg (by simp)]
      by_cases h : (p.t / (k : Int) == j) = true
      · rw [if_pos h, List.filterMap_cons, hv]; exact ih
      · rw [if_neg h]; exact ih
    | some f =>
      by_cases h : p.t / (k : Int) = j
      · rw [if_pos (by simp [h]), if_pos (by simp [h]), List.filterMap_cons, hv, List.map_cons, List.map_cons, ih, hv]; rfl
      · rw [if_neg (by simp [h]), if_neg (by simp [h])]; exact ih
theorem in_window_ok {B : Nat} {r : List VPoint} (ok : RwOk B r) (k : Nat) (j : Int) : (inWindow r k j).length ≤ 60 ∧ ∀ f ∈ inWindow r k j, VOk f := by
  unfold inWindow
  refine ⟨?_, fun f hf => ?_⟩
  · exact Nat.le_trans (List.length_filterMap_le _ _) (Nat.le_trans (List.length_filter_le _ _) ok.len)
  · obtain ⟨p, hp, hf⟩ := List.mem_filterMap.mp hf
    exact ok.vs p (List.mem_filter.mp hp).1 f hf
theorem ediv_abs (t : Int) (k : Nat) (hk : 1 ≤ k) : (t / (k : Int)).natAbs ≤ t.natAbs + 1 := by
  have k0 : (0 : Int) < (k : Int) := by omega
  have h1 := Int.ediv_mul_le t (b := (k : Int)) (by omega)
  have h2 := Int.lt_ediv_add_one_mul_self t k0
  by_cases h : 0 ≤ t
  · have := Int.ediv_nonneg h (by omega : (0 : Int) ≤ k)
    have : t / (k : Int) ≤ t := Int.ediv_le_self _ h
    omega
  · have a : t / (k : Int) < 0 := Int.ediv_neg_of_neg_of_pos (by omega) k0
    have b : t ≤ t / (k : Int) := by
      have : t * (k : Int) ≤ t := by
        have := Int.mul_le_mul_of_nonpos_left (show t ≤ 0 by omega) (show (1 : Int) ≤ k by omega)
        omega
      exact (Int.le_ediv_iff_mul_le k0).mpr this
    omega
section
variable {P : Program} {w : World} {K : PySem.W.Frag} {mg : Str → Option Value} {base : Heap}
abbrev s_windowed : Stmt := top 77
abbrev n_windowed : List Str := ["row", "length", "word", "first", "last", "found", "k", "values", "time", "value"]
theorem sc_windowed : FnScope n_windowed ["row", "length", "word"] (defScope s_windowed) := ⟨rfl, rfl, rfl, by decide +kernel, rfl, by decide +kernel, by decide +kernel⟩
def p_windowed : List D → D → Prop := fun ds d => ∃ (B : Nat) (r : List VPoint) (k : Nat) (o : Vatmsa.Over), ds = [rowD r, Nd k, .str (strB (overWord o))] ∧ RwOk B r ∧ B ≤ 100000000 ∧ 1 ≤ k ∧ k ≤ 100000 ∧ d = optRow (if 60 < windowCount r k then none else some (Vatmsa.windowed r k o))
theorem f_windowed (F : Fa K mg "windowed" s_windowed) (hwv : Fv P w K mg base CX0 5 "window_value" ["values", "word"] (PureP p_window_value)) (nrange : mg "range" = none) (gP : Glo K mg "MOST_POINTS_COMING" (.int 60)) : Fv P w K mg base CX0 6 "windowed" ["row", "length", "word"] (PureP p_windowed) := by
  refine fa_fv F (fun _ _ _ _ _ _ us hl => match us, hl with | [_, _, _], _ => rfl) fun f fd F => fn0 F sc_windowed (fun Γ r ⟨ds, d, e, _, B, x, k, o, e2, _⟩ => by subst e; subst e2; rfl) ?_
  have nd := sc_windowed.nd
  rintro cdv A outer s H E _ _ hr ⟨_, _, rfl, rfl, B, r, k, o, rfl, ok, hB, hk, hk2, rfl⟩
  have hz : sizeLine = 16777216 := sizeLine_eq
  have hl := ok.len
  obtain ⟨pd, hpd⟩ := pqRow r
  refine ss_cons (s_if (t_cmp (wv 0 rfl (w_new (w_lst (d_nil ⟨len_le, ⟨_, (o_eqNil hr.units hpd (by decide)), ⟨fun hT => ?_, fun hF => ss_nil ?_⟩⟩⟩))))))
  · have : r = [] := by simpa using hT
    subst this
    exact ss_one (s_ret (w_new (w_lst (d_nil ⟨len_le, fin_eq rfl⟩))))
  have ne : r ≠ [] := by simpa using hF
  obtain ⟨a, ha⟩ : ∃ a, r.head? = some a := by cases r with
    | nil => exact (ne rfl).elim
    | cons a t => exact ⟨a, rfl⟩
  obtain ⟨b, hb⟩ : ∃ b, r.getLast? = some b := ⟨_, List.getLast?_eq_getLast ne⟩
  have ma : a ∈ r := List.mem_of_mem_head? (by rw [ha]; rfl)
  have mb : b ∈ r := List.mem_of_getLast? hb
  have ta := ok.tm a ma
  have tb := ok.tm b mb
  have hab : a.t ≤ b.t := by
    cases r with
    | nil => exact (ne rfl).elim
    | cons x t =>
      cases ha
      rw [List.getLast?_cons] at hb
      cases ht : t.getLast? with
      | none => rw [ht] at hb; cases hb; exact Int.le_refl _
      | some y =>
        rw [ht] at hb
        have hb : y = b := Option.some.inj hb
        subst hb
        have := (List.pairwise_cons.mp ok.up).1 y (List.mem_of_getLast? ht)
        omega
  have k0 : (0 : Int) < ((k : Nat) : Int) := by omega
  have dab : a.t / (k : Int) ≤ b.t / (k : Int) := Int.ediv_le_ediv k0 hab
  have ea := ediv_abs a.t k hk
  have eb := ediv_abs b.t k hk
  have i0 : atI (r.map ptD) 0 = some (ptD a) := by
    cases r with
    | nil => exact (ne rfl).elim
    | cons x t => cases ha; exact at0
  have i1 : atI (r.map ptD) (-1) = some (ptD b) := atL (by rw [List.getLast?_map, hb]; rfl)
  have klog : ((k : Nat) : Int).natAbs.log2 < 17 := by rw [Int.natAbs_natCast]; exact (Nat.log2_lt (by omega)).mpr (by omega)
  have klog2 : ((k : Nat) : Int).natAbs.log2 < 9000 := Nat.lt_of_lt_of_le klog (by decide)
  have cd : ∀ t : Int, CDivW t (k : Nat) := fun t => ⟨k0, klog2⟩
  have wc : windowCount r k = (b.t / (k : Int) - a.t / (k : Int)).toNat + 1 := by
    unfold windowCount
    rw [ha, hb]
    show (windowNo k b.t - windowNo k a.t).toNat + 1 = _
    rw [win_no, win_no]
  have ws : windows r k = (List.range ((b.t / (k : Int) - a.t / (k : Int)).toNat + 1)).map fun (i : Nat) => a.t / (k : Int) + (i : Int) := by
    unfold windows
    rw [ha, hb]
    show (List.range ((windowNo k b.t - windowNo k a.t).toNat + 1)).map (fun (i : Nat) => windowNo k a.t + (i : Int)) = _
    rw [win_no, win_no]
  refine ss_cons (s_par 3 4 rfl nd rfl rfl (by decide) rfl rfl (d_cons (w_bin (w_ix (w_ix (wv 0 rfl (w_int ⟨_, (ix2_lst i0), (w_int ⟨_, (ix2_tup rfl), (wv 1 rfl ⟨_, (o_divI (cd _)), (d_cons (w_bin (w_ix (w_ix (wv 0 rfl (w_neg (w_int ⟨_, rfl, ⟨_, (ix2_lst i1), (w_int ⟨_, (ix2_tup rfl), (wv 1 rfl ⟨_, (o_divI (cd _)), (d_nil ⟨_, _, rfl, ?_⟩)⟩)⟩)⟩⟩)))))))⟩)⟩)⟩)))))))
  refine ss_cons (s_if (t_cmp (w_bin (w_bin (wv 4 rfl (wv 3 rfl ⟨_, o_subI, (w_int ⟨_, o_addI, (w_glob gP rfl ⟨_, o_gt, ⟨fun hT => ?_, fun hF => ss_nil ?_⟩⟩)⟩)⟩))))))
  · have hT : (60 : Int) < b.t / (k : Int) - a.t / (k : Int) + 1 := of_decide_eq_true hT
    rw [if_pos (by omega)]
    exact ss_one (s_ret (w_none (fin_eq rfl)))
  have hF : ¬ (60 : Int) < b.t / (k : Int) - a.t / (k : Int) + 1 := of_decide_eq_false hF
  rw [if_neg (by omega)]
  have hw : (windows r k).length ≤ 60 := by rw [ws, List.length_map, List.length_range]; omega
  have hj : ∀ j ∈ windows r k, j.natAbs ≤ 200000000 := by
    intro j hj
    rw [ws] at hj
    obtain ⟨i, hi, rfl⟩ := List.mem_map.mp hj
    have := List.mem_range.mp hi
    omega
  refine ss_cons (ssN 5 nd (w_lst (d_nil ⟨len_le, fun pf => ?_⟩)))
  refine ss_cons (s_for (js := [6]) .never rfl (i_range2 rfl nrange (d_cons (wv 3 rfl (d_cons (w_bin (wv 4 rfl (w_int ⟨_, o_addI, (d_nil ⟨_, _, rfl, by omega, ?_⟩)⟩))))))))
  rw [show rngD (a.t / (k : Int)) ((b.t / (k : Int) + 1 - a.t / (k : Int))).toNat = (windows r k).map D.int by
    rw [ws, List.map_map, show (b.t / (k : Int) + 1 - a.t / (k : Int)).toNat = (b.t / (k : Int) - a.t / (k : Int)).toNat + 1 by omega]; rfl]
  let g : Int → VPoint := fun j => ⟨j * (k : Int), byRule o (inWindow r k j)⟩
  refine for_ind D.int (fun (u : List VPoint × Sl × Sl) => [.im (rowD r), .im (Nd k), .im (.str (strB (overWord o))), .im (.int (a.t / (k : Int))), .im (.int (b.t / (k : Int))), .own pf (.lst (u.1.map ptD)), u.2.1, u.2.2, .un, .un])
    (fun u rest => u.1.length + rest.length ≤ 60 ∧ (∀ j ∈ rest, j.natAbs ≤ 200000000) ∧ u.1 ++ rest.map g = Vatmsa.windowed r k o) ?_ ?_ _ ([], .un, .un) ⟨by show 0 + _ ≤ _; omega, hj, rfl⟩
  · rintro ⟨acc, s1, s2⟩ j rest ⟨h1, h2, h3⟩ nx hn
    have h1 : acc.length + (rest.length + 1) ≤ 60 := h1
    have h3 : acc ++ (g j :: rest.map g) = Vatmsa.windowed r k o := h3
    have bj := h2 j List.mem_cons_self
    obtain ⟨w1, w2⟩ := in_window_ok ok k j
    refine (gn 6 nd ?_)
    refine ss_cons (ssLc 7 [("time", 8), ("value", 9)] [8, 9] ptD (fun p => p.v.isSome && decide (p.t / (k : Int) = j)) (fun p => optFd p.v) nd (blkOk_by (by show blkC n_windowed (defScope s_windowed) _ _ = true; decide +kernel)) (i_list (wv 0 rfl ⟨_, rfl, ⟨r, rfl, by omega, fun pv => ?_, ?_⟩⟩)))
    · rw [in_window]
      refine ss_one (s_append 5 rfl (.inl rfl) rfl (w_tup (d_cons (w_bin (wv 6 rfl (wv 1 rfl ⟨_, (o_mulI (mulW (a := 40) (b := 20) (by omega) (by omega) (by decide) (by decide) (by decide))), (d_cons (w_see 7 rfl (w_callP hwv (hr.mono (by decide)) rfl pass (d_cons (wv 7 rfl (d_cons (wv 2 rfl (d_nil ⟨_, ⟨inWindow r k j, o, rfl, w1, w2, rfl⟩, ?_, (d_nil ⟨len_le, ⟨_, rfl, by rw [List.length_map]; omega, ?_⟩⟩)⟩))))))))⟩))))))
      · cases byRule o (inWindow r k j) with
        | none => exact .non
        | some f => exact fl_F
      · have := hn (acc ++ [g j], .im (.int j), .own pv (.lst ((inWindow r k j).map Fd))) ⟨by show (acc ++ [_]).length + rest.length ≤ 60; rw [List.length_append]; show acc.length + 1 + rest.length ≤ 60; omega, fun z hz => h2 z (List.mem_cons_of_mem _ hz), by rw [← h3]; show (acc ++ [_]) ++ _ = acc ++ _; rw [List.append_assoc]; rfl⟩
        rw [List.map_append] at this
        exact this
    · intro q hq
      cases hv : q.v with
      | none =>
        refine ⟨_, fun s H0 C cl fp => (g1_tup rfl (gs_cons (gn 8 nd (gs_cons (gn 9 nd (gs_nil rfl)))))), fun s H0 C cl fp => (t_bool (tw_and (t_cmp (wv 9 rfl (w_none ⟨_, o_isnot, ⟨fun hF => ⟨?_, rfl⟩, fun hT => ?_⟩⟩))))), fun hkp => ?_⟩
        · show false = (q.v.isSome && decide (q.t / (k : Int) = j))
          rw [hv]; rfl
        · rw [hv] at hT; cases hT
        · have hkp : (q.v.isSome && decide (q.t / (k : Int) = j)) = true := hkp
          rw [hv] at hkp; cases hkp
      | some f =>
        have tq := ok.tm q hq
        refine ⟨_, fun s H0 C cl fp => (g1_tup rfl (gs_cons (gn 8 nd (gs_cons (gn 9 nd (gs_nil rfl)))))), fun s H0 C cl fp => (t_bool (tw_and (t_cmp (wv 9 rfl (w_none ⟨_, o_isnot, ⟨fun hF => ?_, fun hT => (tw_and1 (t_cmp (w_bin (wv 8 rfl (wv 1 rfl ⟨_, (o_divI (cd _)), (wv 6 rfl ⟨_, o_eqI, ⟨?_, rfl⟩⟩)⟩)))))⟩⟩))))), fun _ s H0 C cl fp => (wv 9 rfl ?_)⟩
        · rw [hv] at hF; cases hF
        · show decide (q.t / (k : Int) = j) = (q.v.isSome && decide (q.t / (k : Int) = j))
          rw [hv]; rfl
        · rfl
  · rintro ⟨acc, s1, s2⟩ ⟨_, _, h3⟩
    have h3 : acc ++ [] = Vatmsa.windowed r k o := h3
    refine ss_one (s_ret (wg 5 rfl (fin_eq (ds := [rowD r, Nd k, .str (strB (overWord o))]) ?_)))
    rw [← h3, List.append_nil]; rfl
end
end Fp

set_option Elab.async false
set_option linter.all false
set_option maxRecDepth 100000
set_option maxHeartbeats 2000000
namespace Fp
open PySem PySem.Spec PyProof.Rows L2 Dl
open VatmsBase (Bytes word Frac frac whole)
open Vatmsa (fillWord before behind)
theorem lit_zero : Str.ofString "zero" = strB (word "zero") := by decide +kernel
theorem lit_last : Str.ofString "last" = strB (word "last") := by decide +kernel
theorem lit_next : Str.ofString "next" = strB (word "next") := by decide +kernel
def fillV (o : Vatmsa.Fill) (r : List VPoint) (t : Int) : Option Frac := match o with
  | .last => (before r t).bind fun q => q.v
  | .next => (behind r t).bind fun q => q.v
  | .line => (before r t).bind fun a => (behind r t).bind fun b => Vatmsa.onLine a b t
  | .zero => some (whole 0)
theorem filled_eq (r : List VPoint) (o : Vatmsa.Fill) : Vatmsa.filled r o = r.map fun p => ⟨p.t, match p.v with
    | some v => some v
    | none => fillV o r p.t⟩ := by cases o <;> rfl
theorem split_at {r : List VPoint} {k : Nat} {p : VPoint} (h : r[k]? = some p) : r = r.take k ++ p :: r.drop (k + 1) := by
  rw [← drop_at h, List.take_append_drop]
theorem before_eq {r : List VPoint} {k : Nat} {p : VPoint} (up : r.Pairwise (fun a b => a.t < b.t)) (h : r[k]? = some p) : before r p.t = ((r.take k).filter fun q => q.v.isSome).getLast? := by
  unfold before
  have e := split_at h
  rw [e, List.pairwise_append] at up
  obtain ⟨_, u2, u3⟩ := up
  have u2 := (List.pairwise_cons.mp u2).1
  congr 1
  conv => lhs; rw [e]
  rw [List.filter_append, List.filter_cons]
  rw [if_neg (by simp)]
  have e1 : (r.drop (k + 1)).filter (fun q => decide (q.t < p.t) && q.v.isSome) = [] := by
    rw [List.filter_eq_nil_iff]
    intro q hq
    have := u2 q hq
    simp; omega
  rw [e1, List.append_nil]
  apply List.filter_congr
  intro q hq
  have := u3 q hq p List.mem_cons_self
  rw [decide_eq_true this, Bool.true_and]
theorem behind_eq {r : List VPoint} {k : Nat} {p : VPoint} (up : r.Pairwise (fun a b => a.t < b.t)) (h : r[k]? = some p) : behind r p.t = ((r.drop (k + 1)).filter fun q => q.v.isSome).head? := by
  unfold behind
  have e := split_at h
  rw [e, List.pairwise_append] at up
  obtain ⟨_, u2, u3⟩ := up
  have u2 := (List.pairwise_cons.mp u2).1
  rw [← List.head?_filter]
  congr 1
  conv => lhs; rw [e]
  rw [List.filter_append, List.filter_cons]
  rw [if_neg (by simp)]
  have e1 : (r.take k).filter (fun q => decide (p.t < q.t) && q.v.isSome) = [] := by
    rw [List.filter_eq_nil_iff]
    intro q hq
    have := u3 q hq p List.mem_cons_self
    simp; omega
  rw [e1, List.nil_append]
  apply List.filter_congr
  intro q hq
  have := u2 q hq
  rw [decide_eq_true this, Bool.true_and]
section
variable {P : Program} {w : World} {K : PySem.W.Frag} {mg : Str → Option Value} {base : Heap}
abbrev s_filled_value : Stmt := top 74
abbrev n_filled_value : List Str := ["row", "k", "word", "before", "behind", "point"]
theorem sc_filled_value : FnScope n_filled_value ["row", "k", "word"] (defScope s_filled_value) := ⟨rfl, rfl, rfl, by decide +kernel, rfl, by decide +kernel, by decide +kernel⟩
def p_filled_value : List D → D → Prop := fun ds d => ∃ (B : Nat) (r : List VPoint) (k : Nat) (p : VPoint) (o : Vatmsa.Fill), ds = [rowD r, Nd k, .str (strB (fillWord o))] ∧ RwOk B r ∧ B ≤ 100000000 ∧ r[k]? = some p ∧ d = optFd (fillV o r p.t)
theorem cut_take {α : Type} (l : List α) (k : Nat) : cutL l none (some (k : Int)) = l.take k := by
  unfold cutL
  rw [HT.sIx_none, HT.sIx_nat, List.drop_zero, Nat.sub_zero]
  rw [List.take_eq_take_iff]
  omega
theorem cut_from {α : Type} (l : List α) (k : Nat) : cutL l (some (k : Int)) none = l.drop k := by
  unfold cutL
  rw [HT.sIx_none, HT.sIx_nat]
  rw [List.take_of_length_le (by rw [List.length_drop]; omega)]
  by_cases h : k ≤ l.length
  · rw [Nat.min_eq_left h]
  · rw [List.drop_eq_nil_of_le (by omega), List.drop_eq_nil_of_le (by omega)]
theorem isN_opt (v : Option Frac) : (!isN (optFd v)) = v.isSome := by cases v <;> rfl
theorem fl_opt (v : Option Frac) : Fl (optFd v) := by
  cases v with
  | none => exact .non
  | some f => exact fl_F
theorem f_filled_value (F : Fa K mg "filled_value" s_filled_value) (hon : FvOnLine P w K mg base) (gN : Glo K mg "NOUGHT" (Fd (whole 0))) : Fv P w K mg base CX0 5 "filled_value" ["row", "k", "word"] (PureP p_filled_value) := by
  refine fa_fv F (fun _ _ _ _ _ _ us hl => match us, hl with | [_, _, _], _ => rfl) fun f fd F => fn0 F sc_filled_value (fun Γ r ⟨ds, d, e, _, B, x, k, p, o, e2, _⟩ => by subst e; subst e2; rfl) ?_
  have nd := sc_filled_value.nd
  rintro cdv A outer s H E _ _ hr ⟨_, _, rfl, rfl, B, r, k, p, o, rfl, ok, hB, hp, rfl⟩
  have hz : sizeLine = 16777216 := sizeLine_eq
  have hl := ok.len
  have eb := before_eq ok.up hp
  have eh := behind_eq ok.up hp
  refine ss_cons (s_if (t_cmp (wv 2 rfl (w_str ⟨_, o_eqS, ⟨fun hT => ?_, fun hF => ss_nil ?_⟩⟩))))
  · rw [dec_word lit_zero] at hT
    have : o = .zero := by cases o <;> first | rfl | exact absurd hT (by decide)
    subst this
    exact ss_one (s_ret (w_glob gN rfl (fin_eq rfl)))
  rw [dec_word lit_zero] at hF
  refine ss_cons (ssLc 3 [("point", 5)] [5] ptD (fun q => q.v.isSome) ptD nd (blkOk_by (by show blkC n_filled_value (defScope s_filled_value) _ _ = true; decide +kernel)) (i_list (w_slice (wv 0 rfl (wv 1 rfl ⟨_, rfl, ⟨_, sl2_lst, ⟨_, rfl, ⟨r.take k, by rw [cut_take, List.map_take], by rw [List.length_take]; omega, fun pb => ?_, ?_⟩⟩⟩⟩)))))
  · refine ss_cons (ssLc 4 [("point", 5)] [5] ptD (fun q => q.v.isSome) ptD nd (blkOk_by (by show blkC n_filled_value (defScope s_filled_value) _ _ = true; decide +kernel)) (i_list (w_slice (wv 0 rfl (w_bin (wv 1 rfl (w_int ⟨_, o_addI, ⟨_, rfl, ⟨_, sl2_lst, ⟨_, rfl, ⟨r.drop (k + 1), by rw [show ((k : Nat) : Int) + 1 = ((k + 1 : Nat) : Int) by omega, cut_from, List.map_drop], by rw [List.length_drop]; omega, fun ph => ?_, ?_⟩⟩⟩⟩⟩)))))))
    · generalize hbl : (r.take k).filter (fun q => q.v.isSome) = bl at eb ⊢
      generalize hhl : (r.drop (k + 1)).filter (fun q => q.v.isSome) = hl2 at eh ⊢
      obtain ⟨pb1, hpb⟩ := pqRow bl
      obtain ⟨ph1, hph⟩ := pqRow hl2
      have mb : ∀ q ∈ bl, q ∈ r ∧ q.v.isSome = true ∧ q.t < p.t := fun q hq => by
        rw [← hbl] at hq
        obtain ⟨h1, h2⟩ := List.mem_filter.mp hq
        refine ⟨List.mem_of_mem_take h1, h2, ?_⟩
        have up := ok.up
        rw [split_at hp, List.pairwise_append] at up
        exact up.2.2 q h1 p List.mem_cons_self
      have mh : ∀ q ∈ hl2, q ∈ r ∧ q.v.isSome = true ∧ p.t < q.t := fun q hq => by
        rw [← hhl] at hq
        obtain ⟨h1, h2⟩ := List.mem_filter.mp hq
        refine ⟨List.mem_of_mem_drop h1, h2, ?_⟩
        have up := ok.up
        rw [split_at hp, List.pairwise_append] at up
        exact (List.pairwise_cons.mp up.2.1).1 q h1
      refine ss_cons (s_if (t_cmp (wv 2 rfl (w_str ⟨_, o_eqS, ⟨fun hT => ?_, fun hF2 => ss_nil ?_⟩⟩))))
      · rw [dec_word lit_last] at hT
        have : o = .last := by cases o <;> first | rfl | exact absurd hT (by decide)
        subst this
        refine ss_one (s_ret (w_if (t_see 3 rfl (t_cmp (wv 3 rfl (w_new (w_lst (d_nil ⟨len_le, ⟨_, (o_neNil hr.units hpb (by decide)), ⟨fun hT => (w_see 3 rfl (w_ix (w_ix (wv 3 rfl (w_neg (w_int ⟨_, rfl, ⟨ptD (bl.getLast?.getD ⟨0, none⟩), (ix2_lst (atL ?_)), (w_int ⟨_, (ix2_tup rfl), fl_opt _, ?_⟩)⟩⟩)))))), fun hF => (w_none ?_)⟩⟩⟩))))))))
        · have ne : bl ≠ [] := by simpa using hT
          rw [List.getLast?_map, List.getLast?_eq_getLast ne]; rfl
        · have ne : bl ≠ [] := by simpa using hT
          refine fin_eq ?_
          show _ = optFd ((before r p.t).bind fun q => q.v)
          rw [eb, List.getLast?_eq_getLast ne]; rfl
        · have ne : bl = [] := by simpa using hF
          refine fin_eq ?_
          show _ = optFd ((before r p.t).bind fun q => q.v)
          rw [eb, ne]; rfl
      rw [dec_word lit_last] at hF2
      refine ss_cons (s_if (t_cmp (wv 2 rfl (w_str ⟨_, o_eqS, ⟨fun hT => ?_, fun hF3 => ss_nil ?_⟩⟩))))
      · rw [dec_word lit_next] at hT
        have : o = .next := by cases o <;> first | rfl | exact absurd hT (by decide)
        subst this
        refine ss_one (s_ret (w_if (t_see 4 rfl (t_cmp (wv 4 rfl (w_new (w_lst (d_nil ⟨len_le, ⟨_, (o_neNil hr.units hph (by decide)), ⟨fun hT => (w_see 4 rfl (w_ix (w_ix (wv 4 rfl (w_int ⟨ptD (hl2.head?.getD ⟨0, none⟩), (ix2_lst ?_), (w_int ⟨_, (ix2_tup rfl), fl_opt _, ?_⟩)⟩))))), fun hF => (w_none ?_)⟩⟩⟩))))))))
        · have ne : hl2 ≠ [] := by simpa using hT
          cases hl2 with
          | nil => exact (ne rfl).elim
          | cons a t => exact at0
        · have ne : hl2 ≠ [] := by simpa using hT
          refine fin_eq ?_
          show _ = optFd ((behind r p.t).bind fun q => q.v)
          rw [eh]
          cases hl2 with
          | nil => exact (ne rfl).elim
          | cons a t => rfl
        · have ne : hl2 = [] := by simpa using hF
          refine fin_eq ?_
          show _ = optFd ((behind r p.t).bind fun q => q.v)
          rw [eh, ne]; rfl
      rw [dec_word lit_next] at hF3
      have ol : o = .line := by cases o <;> first | rfl | exact absurd hF (by decide) | exact absurd hF2 (by decide) | exact absurd hF3 (by decide)
      subst ol
      have fv : fillV .line r p.t = (bl.getLast?).bind fun a => (hl2.head?).bind fun b => Vatmsa.onLine a b p.t := by
        show (before r p.t).bind _ = _
        rw [eb, eh]
      rw [fv]
      cases hbl2 : bl with
      | nil =>
        refine ss_cons (s_if (t_bool (tw_or (t_see 3 rfl (t_cmp (wv 3 rfl (w_new (w_lst (d_nil ⟨len_le, ⟨_, (o_eqNil hr.units (n := 2) .nil (by decide)), ⟨fun hT => ⟨fun _ => ?_, fun hF => (Bool.false_ne_true hF.symm).elim⟩, fun hF => (nomatch hF)⟩⟩⟩)))))))))
        exact ss_one (s_ret (w_none (fin_eq rfl)))
      | cons x1 t1 =>
      cases hhl2 : hl2 with
      | nil =>
        rw [hbl2] at hpb
        refine ss_cons (s_if (t_bool (tw_or (t_see 3 rfl (t_cmp (wv 3 rfl (w_new (w_lst (d_nil ⟨len_le, ⟨_, (o_eqNil hr.units hpb (by decide)), ⟨fun hT => (nomatch hT), fun hF => (tw_or1 (t_see 4 rfl (t_cmp (wv 4 rfl (w_new (w_lst (d_nil ⟨len_le, ⟨_, (o_eqNil hr.units (n := 2) .nil (by decide)), ⟨fun hT => ?_, fun hF => (nomatch hF)⟩⟩⟩)))))))⟩⟩⟩)))))))))
        refine ss_one (s_ret (w_none (fin_eq ?_)))
        cases (x1 :: t1).getLast? <;> rfl
      | cons x2 t2 =>
      rw [hbl2] at hpb mb
      rw [hhl2] at hph mh
      obtain ⟨l1, hl1⟩ : ∃ l1, (x1 :: t1).getLast? = some l1 := ⟨_, List.getLast?_eq_getLast (List.cons_ne_nil x1 t1)⟩
      obtain ⟨m1, m2, m3⟩ := mb l1 (List.mem_of_getLast? hl1)
      obtain ⟨n1, n2, n3⟩ := mh x2 List.mem_cons_self
      obtain ⟨v1, hv1⟩ := Option.isSome_iff_exists.mp m2
      obtain ⟨v2, hv2⟩ := Option.isSome_iff_exists.mp n2
      have b1 := ((ok.vs l1 m1) v1 hv1).bd.mono (show 80 ≤ 90 by decide)
      have b2 := ((ok.vs x2 n1) v2 hv2).bd.mono (show 80 ≤ 90 by decide)
      have t1' := ok.tm l1 m1
      have t2' := ok.tm x2 n1
      have tp := ok.tm p (List.mem_of_getElem? hp)
      refine ss_cons (s_if (t_bool (tw_or (t_see 3 rfl (t_cmp (wv 3 rfl (w_new (w_lst (d_nil ⟨len_le, ⟨_, (o_eqNil hr.units hpb (by decide)), ⟨fun hT => (nomatch hT), fun hF => (tw_or1 (t_see 4 rfl (t_cmp (wv 4 rfl (w_new (w_lst (d_nil ⟨len_le, ⟨_, (o_eqNil hr.units hph (by decide)), ⟨fun hT => (nomatch hT), fun hF => ss_nil ?_⟩⟩⟩)))))))⟩⟩⟩)))))))))
      refine ss_one (s_ret (w_callP hon (hr.mono (by decide)) rfl pass (d_cons (w_see 3 rfl (w_ix (wv 3 rfl (w_neg (w_int ⟨_, rfl, ⟨ptD l1, (ix2_lst (atL (by rw [List.getLast?_map, hl1]; rfl))), ?_, (d_cons (w_see 4 rfl (w_ix (wv 4 rfl (w_int ⟨ptD x2, (ix2_lst at0), ?_, (d_cons (w_ix (w_ix (wv 0 rfl (wv 1 rfl ⟨_, (ix2_lst (row_at hp)), (w_int ⟨_, (ix2_tup rfl), (d_nil ⟨_, ⟨l1.t, v1, x2.t, v2, p.t, ?_, by omega, by omega, by omega, b1, b2, rfl⟩, fin_eq ?_⟩)⟩)⟩)))))⟩)))))⟩⟩))))))))
      · exact .tup (.cons (.int _) (.cons (fl_opt _) .nil))
      · exact .tup (.cons (.int _) (.cons (fl_opt _) .nil))
      · show [D.tup [.int l1.t, optFd l1.v], D.tup [.int x2.t, optFd x2.v], _] = _
        rw [hv1, hv2]; rfl
      · rw [hl1]
        show _ = optFd (Vatmsa.onLine l1 x2 p.t)
        unfold Vatmsa.onLine
        rw [hv1, hv2]
        rfl
    · intro q hq
      exact ⟨_, fun s H0 C cl fp => (gn 5 nd rfl), fun s H0 C cl fp => (t_cmp (w_ix (wv 5 rfl (w_int ⟨_, (ix2_tup rfl), (w_none ⟨_, o_isnot, ⟨isN_opt q.v, rfl⟩⟩)⟩)))), fun _ s H0 C cl fp => (wv 5 rfl rfl)⟩
  · intro q hq
    exact ⟨_, fun s H0 C cl fp => (gn 5 nd rfl), fun s H0 C cl fp => (t_cmp (w_ix (wv 5 rfl (w_int ⟨_, (ix2_tup rfl), (w_none ⟨_, o_isnot, ⟨isN_opt q.v, rfl⟩⟩)⟩)))), fun _ s H0 C cl fp => (wv 5 rfl rfl)⟩
end
end Fp

set_option Elab.async false
set_option linter.all false
set_option maxRecDepth 100000
set_option maxHeartbeats 2000000
namespace Fp
open PySem PySem.Spec PyProof.Rows L2 Dl
open VatmsBase (Bytes word Frac frac whole)
open Vatmsa (fillWord before behind)
theorem enum_row (l : List VPoint) : enumD (l.map ptD) = (l.zipIdx).map fun x => D.tup [Nd x.2, ptD x.1] := by
  unfold enumD
  rw [List.zipIdx_map, List.map_map]
  rfl
section
variable {P : Program} {w : World} {K : PySem.W.Frag} {mg : Str → Option Value} {base : Heap}
abbrev s_filled : Stmt := top 75
abbrev n_filled : List Str := ["row", "word", "found", "k", "time", "value"]
theorem sc_filled : FnScope n_filled ["row", "word"] (defScope s_filled) := ⟨rfl, rfl, rfl, by decide +kernel, rfl, by decide +kernel, by decide +kernel⟩
def p_filled : List D → D → Prop := fun ds d => ∃ (B : Nat) (r : List VPoint) (o : Vatmsa.Fill), ds = [rowD r, .str (strB (fillWord o))] ∧ RwOk B r ∧ B ≤ 100000000 ∧ d = rowD (Vatmsa.filled r o)
theorem f_filled (F : Fa K mg "filled" s_filled) (hfv : Fv P w K mg base CX0 5 "filled_value" ["row", "k", "word"] (PureP p_filled_value)) (nenumerate : mg "enumerate" = none) : Fv P w K mg base CX0 6 "filled" ["row", "word"] (PureP p_filled) := by
  refine fa_fv F (fun _ _ _ _ _ _ us hl => match us, hl with | [_, _], _ => rfl) fun f fd F => fn0 F sc_filled (fun Γ r ⟨ds, d, e, _, B, x, o, e2, _⟩ => by subst e; subst e2; rfl) ?_
  have nd := sc_filled.nd
  rintro cdv A outer s H E _ _ hr ⟨_, _, rfl, rfl, B, r, o, rfl, ok, hB, rfl⟩
  have hz : sizeLine = 16777216 := sizeLine_eq
  have hl := ok.len
  rw [filled_eq]
  let g : VPoint → VPoint := fun p => ⟨p.t, match p.v with
    | some v => some v
    | none => fillV o r p.t⟩
  refine ss_cons (ssN 2 nd (w_lst (d_nil ⟨len_le, fun pf => ?_⟩)))
  refine ss_cons (s_for (js := [3, 4, 5]) .never rfl (i_enum rfl nenumerate (d_cons (wv 0 rfl (d_nil ⟨_, rfl, ?_⟩)))))
  rw [enum_row]
  refine for_ind (fun (x : VPoint × Nat) => D.tup [Nd x.2, ptD x.1]) (fun (u : List VPoint × Sl × Sl × Sl) => [.im (rowD r), .im (.str (strB (fillWord o))), .own pf (.lst (u.1.map ptD)), u.2.1, u.2.2.1, u.2.2.2])
    (fun u rest => ∃ k l, rest = l.zipIdx k ∧ r.drop k = l ∧ u.1.length ≤ k ∧ u.1 ++ l.map g = r.map g) ?_ ?_ _ ([], .un, .un, .un) ⟨0, r, rfl, rfl, Nat.le_refl _, rfl⟩
  · rintro ⟨acc, s1, s2, s3⟩ x rest ⟨k, l, e1, e2, h1, h3⟩ nx hn
    have h1 : acc.length ≤ k := h1
    cases l with
    | nil => cases e1
    | cons q l =>
      rw [List.zipIdx_cons] at e1
      obtain ⟨rfl, rfl⟩ := List.cons.inj e1
      have h3 : acc ++ (g q :: l.map g) = r.map g := h3
      have hq : r[k]? = some q := by
        have := congrArg (·[0]?) e2
        simpa using this
      have hk : k < r.length := (List.getElem?_eq_some_iff.mp hq).1
      have go : ∀ s4 : D, s4 = optFd (g q).v → nx [.im (rowD r), .im (.str (strB (fillWord o))), .own pf (.lst (acc.map ptD ++ [D.tup [.int q.t, s4]])), .im (Nd k), .im (.int q.t), .im (optFd q.v)] := fun s4 e4 => by
        subst e4
        have := hn (acc ++ [g q], .im (Nd k), .im (.int q.t), .im (optFd q.v)) ⟨k + 1, l, rfl, by rw [← List.drop_drop, e2]; rfl, by show (acc ++ [_]).length ≤ k + 1; rw [List.length_append]; show acc.length + 1 ≤ k + 1; omega, by rw [← h3]; show (acc ++ [_]) ++ _ = acc ++ _; rw [List.append_assoc]; rfl⟩
        rw [List.map_append] at this
        exact this
      refine (g1_tup rfl (gs_cons (gn 3 nd (gs_cons (g1_tup rfl (gs_cons (gn 4 nd (gs_cons (gn 5 nd (gs_nil (gs_nil ?_)))))))))))
      cases hv : q.v with
      | none =>
        rw [hv] at go
        have gq : (g q).v = fillV o r q.t := by show (match q.v with | some v => some v | none => _) = _; rw [hv]
        rw [gq] at go
        exact ss_one (s_append 2 rfl (.inl rfl) rfl (w_tup (d_cons (wv 4 rfl (d_cons (w_if (t_cmp (wv 5 rfl (w_none ⟨_, o_is, ⟨fun hT => (w_callP hfv (hr.mono (by decide)) rfl pass (d_cons (wv 0 rfl (d_cons (wv 3 rfl (d_cons (wv 1 rfl (d_nil ⟨_, ⟨B, r, k, q, o, rfl, ok, hB, hq, rfl⟩, (d_nil ⟨len_le, ⟨_, rfl, by rw [List.length_map]; omega, go _ rfl⟩⟩)⟩)))))))), fun hF => (nomatch hF)⟩⟩)))))))))
      | some v =>
        rw [hv] at go
        have gq : (g q).v = some v := by show (match q.v with | some v => some v | none => _) = _; rw [hv]
        rw [gq] at go
        exact ss_one (s_append 2 rfl (.inl rfl) rfl (w_tup (d_cons (wv 4 rfl (d_cons (w_if (t_cmp (wv 5 rfl (w_none ⟨_, o_is, ⟨fun hT => (nomatch hT), fun hF => (wv 5 rfl (d_nil ⟨len_le, ⟨_, rfl, by rw [List.length_map]; omega, go _ rfl⟩⟩))⟩⟩)))))))))
  · rintro ⟨acc, s1, s2, s3⟩ ⟨k, l, e1, e2, h1, h3⟩
    have : l = [] := by cases l with
      | nil => rfl
      | cons q l => cases e1
    subst this
    have h3 : acc ++ [] = r.map g := h3
    refine ss_one (s_ret (wg 2 rfl (fin_eq (ds := [rowD r, .str (strB (fillWord o))]) ?_)))
    show D.lst (acc.map ptD) = rowD (r.map g)
    rw [← h3, List.append_nil]
end
end Fp

set_option Elab.async false
set_option linter.all false
set_option maxRecDepth 100000
set_option maxHeartbeats 2000000
namespace Fp
open PySem PySem.Spec PyProof.Rows L2 Dl
open VatmsBase (Bytes word Frac frac whole)
open Vatmsa (putPoint)
def vOr (a b : Option Frac) : Option Frac := match a with
  | some v => some v
  | none => b
theorem valueAt_cons (q : VPoint) (r : List VPoint) (t : Int) : valueAt' (q :: r) t = if q.t = t then q.v else valueAt' r t := by
  unfold valueAt' Vatmsa.pointAt
  rw [List.find?_cons]
  by_cases h : q.t = t
  · rw [if_pos h, show (q.t == t) = true by simpa using h]; rfl
  · rw [if_neg h, show (q.t == t) = false by simpa using h]
theorem valueAt_none {t : Int} : ∀ {r : List VPoint}, (∀ q ∈ r, q.t ≠ t) → valueAt' r t = none
  | [], _ => rfl
  | q :: r, h => by
    rw [valueAt_cons, if_neg (h q List.mem_cons_self)]
    exact valueAt_none fun z hz => h z (List.mem_cons_of_mem _ hz)
abbrev UpR (r : List VPoint) : Prop := r.Pairwise fun a b => a.t < b.t
theorem mem_put (p : VPoint) (x : Int) : ∀ r : List VPoint, x ∈ (putPoint p r).map (·.t) ↔ x = p.t ∨ x ∈ r.map (·.t)
  | [] => by simp [putPoint]
  | q :: r => by
    unfold putPoint
    by_cases h : q.t < p.t
    · rw [if_pos h, List.map_cons, List.mem_cons, mem_put p x r, List.map_cons, List.mem_cons]
      constructor
      · rintro (h | h | h)
        · exact .inr (.inl h)
        · exact .inl h
        · exact .inr (.inr h)
      · rintro (h | h | h)
        · exact .inr (.inl h)
        · exact .inl h
        · exact .inr (.inr h)
    · rw [if_neg h]
      by_cases h2 : q.t = p.t
      · rw [if_pos h2]
        simp only [List.map_cons, List.mem_cons]
        constructor
        · rintro (h | h)
          · exact .inr (.inl h)
          · exact .inr (.inr h)
        · rintro (h | h | h)
          · exact .inl (h.trans h2.symm)
          · exact .inl h
          · exact .inr h
      · rw [if_neg h2]
        simp only [List.map_cons, List.mem_cons]
theorem up_put (p : VPoint) : ∀ {r : List VPoint}, UpR r → UpR (putPoint p r)
  | [], _ => List.pairwise_singleton _ _
  | q :: r, h => by
    obtain ⟨h1, h2⟩ := List.pairwise_cons.mp h
    unfold putPoint
    by_cases hq : q.t < p.t
    · rw [if_pos hq]
      refine List.pairwise_cons.mpr ⟨fun z hz => ?_, up_put p h2⟩
      rcases (mem_put p z.t r).mp (List.mem_map_of_mem hz) with e | e
      · rw [e]; exact hq
      · obtain ⟨y, hy, e⟩ := List.mem_map.mp e
        rw [← e]; exact h1 y hy
    · rw [if_neg hq]
      by_cases hq2 : q.t = p.t
      · rw [if_pos hq2]
        exact List.pairwise_cons.mpr ⟨h1, h2⟩
      · rw [if_neg hq2]
        refine List.pairwise_cons.mpr ⟨fun z hz => ?_, h⟩
        rcases List.mem_cons.mp hz with e | e
        · subst e; omega
        · have := h1 z e; omega
theorem val_put (p : VPoint) (t : Int) : ∀ {r : List VPoint}, UpR r → valueAt' (putPoint p r) t = if t = p.t then vOr (valueAt' r t) p.v else valueAt' r t
  | [], _ => by
    show valueAt' [p] t = _
    rw [valueAt_cons]
    by_cases h : t = p.t
    · rw [if_pos h, if_pos h.symm]; rfl
    · rw [if_neg h, if_neg (fun z => h z.symm)]
  | q :: r, h => by
    obtain ⟨h1, h2⟩ := List.pairwise_cons.mp h
    unfold putPoint
    by_cases hq : q.t < p.t
    · rw [if_pos hq, valueAt_cons, val_put p t h2, valueAt_cons]
      by_cases ht : q.t = t
      · rw [if_pos ht, if_pos ht, if_neg (by omega)]
      · rw [if_neg ht, if_neg ht]
    · rw [if_neg hq]
      by_cases hq2 : q.t = p.t
      · rw [if_pos hq2, valueAt_cons, valueAt_cons]
        by_cases ht : q.t = t
        · have e : t = p.t := by omega
          rw [if_pos ht, if_pos ht, if_pos e]; rfl
        · rw [if_neg ht, if_neg ht, if_neg (by omega)]
      · rw [if_neg hq2, valueAt_cons]
        by_cases ht : p.t = t
        · rw [if_pos ht, if_pos ht.symm, valueAt_none (r := q :: r) (fun z hz => ?_)]
          · rfl
          · rcases List.mem_cons.mp hz with e | e
            · subst e; omega
            · have := h1 z e; omega
        · rw [if_neg ht, if_neg (fun z => ht z.symm)]
theorem merged_cons (a : List VPoint) (p : VPoint) (b : List VPoint) : Vatmsa.merged a (p :: b) = Vatmsa.merged (putPoint p a) b := rfl
theorem up_merged : ∀ {b a : List VPoint}, UpR a → UpR (Vatmsa.merged a b)
  | [], _, h => h
  | p :: b, a, h => by rw [merged_cons]; exact up_merged (up_put p h)
theorem mem_merged (x : Int) : ∀ {b a : List VPoint}, x ∈ (Vatmsa.merged a b).map (·.t) ↔ x ∈ a.map (·.t) ∨ x ∈ b.map (·.t)
  | [], a => by show x ∈ a.map _ ↔ _; simp
  | p :: b, a => by
    rw [merged_cons, mem_merged x (b := b), mem_put, List.map_cons, List.mem_cons]
    constructor
    · rintro ((h | h) | h)
      · exact .inr (.inl h)
      · exact .inl h
      · exact .inr (.inr h)
    · rintro (h | h | h)
      · exact .inl (.inr h)
      · exact .inl (.inl h)
      · exact .inr h
theorem vOr_none (a : Option Frac) : vOr a none = a := by cases a <;> rfl
theorem val_merged (t : Int) : ∀ {b a : List VPoint}, UpR a → UpR b → valueAt' (Vatmsa.merged a b) t = vOr (valueAt' a t) (valueAt' b t)
  | [], a, _, _ => by
    show valueAt' a t = vOr (valueAt' a t) none
    rw [vOr_none]
  | p :: b, a, ha, hb => by
    obtain ⟨h1, h2⟩ := List.pairwise_cons.mp hb
    rw [merged_cons, val_merged t (up_put p ha) h2, val_put p t ha, valueAt_cons]
    by_cases ht : t = p.t
    · rw [if_pos ht, if_pos ht.symm, valueAt_none (r := b) (fun z hz => by have := h1 z hz; omega), vOr_none]
    · rw [if_neg ht, if_neg (fun z => ht z.symm)]
theorem row_by_times : ∀ {r : List VPoint}, UpR r → (r.map (·.t)).map (fun t => (⟨t, valueAt' r t⟩ : VPoint)) = r
  | [], _ => rfl
  | q :: r, h => by
    obtain ⟨h1, h2⟩ := List.pairwise_cons.mp h
    rw [List.map_cons, List.map_cons, valueAt_cons, if_pos rfl]
    congr 1
    refine Eq.trans (List.map_congr_left fun t ht => ?_) (row_by_times h2)
    obtain ⟨z, hz, e⟩ := List.mem_map.mp ht
    have := h1 z hz
    rw [valueAt_cons, if_neg (by omega)]
theorem merged_by {a b : List VPoint} (ha : UpR a) (hb : UpR b) : ((Vatmsa.merged a b).map (·.t)).map (fun t => (⟨t, vOr (valueAt' a t) (valueAt' b t)⟩ : VPoint)) = Vatmsa.merged a b := by
  refine Eq.trans (List.map_congr_left fun t _ => ?_) (row_by_times (up_merged ha))
  rw [val_merged t ha hb]
/-- the pairs of a row, as a dict takes them -/
def kvR (r : List VPoint) : List (Key × D) := r.map fun q => (Sum.inl q.t, optFd q.v)
theorem kv_row (r : List VPoint) : rowD r = .lst ((kvR r).map fun kv => D.tup [kD kv.1, kv.2]) := by
  show D.lst (r.map ptD) = _
  unfold kvR
  rw [List.map_map]
  rfl
theorem put_keys {acc : List (Key × D)} {ks : List Int} (x : Int) (v : D) (h : acc.map (·.1) = ks.map Sum.inl) (nd : ks.Nodup) : ∃ ks' : List Int, (putKD acc (.inl x) v).map (·.1) = ks'.map Sum.inl ∧ ks'.Nodup ∧ ∀ y, y ∈ ks' ↔ y ∈ ks ∨ y = x := by
  have hany : (acc.any fun kv => decide (kv.1 = Sum.inl x)) = true ↔ x ∈ ks := by
    rw [List.any_eq_true]
    constructor
    · rintro ⟨kv, hk, e⟩
      have : kv.1 ∈ ks.map (Sum.inl : Int → Key) := by rw [← h]; exact List.mem_map_of_mem hk
      rw [of_decide_eq_true e] at this
      obtain ⟨z, hz, e2⟩ := List.mem_map.mp this
      cases e2; exact hz
    · intro hx
      have : (Sum.inl x : Key) ∈ acc.map (·.1) := by rw [h]; exact List.mem_map_of_mem hx
      obtain ⟨kv, hk, e⟩ := List.mem_map.mp this
      exact ⟨kv, hk, decide_eq_true e⟩
  unfold putKD
  by_cases hc : (acc.any fun kv => decide (kv.1 = Sum.inl x)) = true
  · rw [if_pos hc]
    refine ⟨ks, ?_, nd, fun y => ⟨.inl, fun h => h.elim id fun e => e ▸ hany.mp hc⟩⟩
    rw [← h, List.map_map]
    refine List.map_congr_left fun kv _ => ?_
    show (if kv.1 = Sum.inl x then (kv.1, v) else kv).1 = kv.1
    split <;> rfl
  · rw [if_neg hc]
    refine ⟨ks ++ [x], by rw [List.map_append, h, List.map_append]; rfl, ?_, fun y => by simp⟩
    rw [List.nodup_append]
    refine ⟨nd, by simp, fun a ha b hb e => hc (hany.mpr ?_)⟩
    rw [List.mem_singleton] at hb
    rw [← hb, ← e]; exact ha
theorem merge_keys : ∀ (r : List VPoint) {acc : List (Key × D)} {ks : List Int}, acc.map (·.1) = ks.map Sum.inl → ks.Nodup → ∃ ks' : List Int, (mergeD acc (kvR r)).map (·.1) = ks'.map Sum.inl ∧ ks'.Nodup ∧ ∀ y, y ∈ ks' ↔ y ∈ ks ∨ y ∈ r.map (·.t)
  | [], acc, ks, h, nd => ⟨ks, h, nd, fun y => by simp⟩
  | q :: r, acc, ks, h, nd => by
    obtain ⟨k1, e1, n1, m1⟩ := put_keys q.t (optFd q.v) h nd
    obtain ⟨k2, e2, n2, m2⟩ := merge_keys r e1 n1
    refine ⟨k2, e2, n2, fun y => ?_⟩
    rw [m2, m1, List.map_cons, List.mem_cons]
    exact ⟨fun h => h.elim (fun h => h.elim .inl fun e => .inr (.inl e)) fun h => .inr (.inr h), fun h => h.elim (fun h => .inl (.inl h)) fun h => h.elim (fun e => .inl (.inr e)) .inr⟩
theorem up_nodup {r : List VPoint} (h : UpR r) : (r.map (·.t)).Nodup := by
  rw [List.nodup_iff_pairwise_ne, List.pairwise_map]
  exact h.imp fun h => by omega
theorem up_le {r : List VPoint} (h : UpR r) : (r.map (·.t)).Pairwise (· ≤ ·) := by
  rw [List.pairwise_map]
  exact h.imp fun h => by omega
theorem merged_keys {a b : List VPoint} (ha : UpR a) : ∃ ks : List Int, (mergeD [] (kvR (a ++ b))).map (·.1) = ks.map Sum.inl ∧ ((Vatmsa.merged a b).map (·.t)).Perm ks := by
  obtain ⟨ks, e, nd, m⟩ := merge_keys (a ++ b) (acc := []) (ks := []) rfl .nil
  refine ⟨ks, e, (List.perm_ext_iff_of_nodup (up_nodup (up_merged ha)) nd).mpr fun x => ?_⟩
  rw [mem_merged, m, List.map_append, List.mem_append]
  simp
section
variable {P : Program} {w : World} {K : PySem.W.Frag} {mg : Str → Option Value} {base : Heap}
abbrev s_merged : Stmt := top 72
abbrev n_merged : List Str := ["one", "other", "times_of_both", "found", "time", "value"]
theorem sc_merged : FnScope n_merged ["one", "other"] (defScope s_merged) := ⟨rfl, rfl, rfl, by decide +kernel, rfl, by decide +kernel, by decide +kernel⟩
def p_merged : List D → D → Prop := fun ds d => ∃ (B C : Nat) (a b : List VPoint), ds = [rowD a, rowD b] ∧ RwOk B a ∧ RwOk C b ∧ d = rowD (Vatmsa.merged a b)
theorem f_merged (F : Fa K mg "merged" s_merged) (hvalue_at : Fv P w K mg base CX0 1 "value_at" ["row", "time"] (PureP p_value_at)) (nsorted : mg "sorted" = none) (ndict : mg "dict" = none) : Fv P w K mg base CX0 2 "merged" ["one", "other"] (PureP p_merged) := by
  refine fa_fv F (fun _ _ _ _ _ _ us hl => match us, hl with | [_, _], _ => rfl) fun f fd F => fn0 F sc_merged (fun Γ r ⟨ds, d, e, _, B, C, x, y, e2, _⟩ => by subst e; subst e2; rfl) ?_
  have nd := sc_merged.nd
  rintro cdv A outer s H E _ _ hr ⟨_, _, rfl, rfl, B, C, a, b, rfl, oka, okb, rfl⟩
  have hz : sizeLine = 16777216 := sizeLine_eq
  have la := oka.len
  have lb := okb.len
  obtain ⟨ks, hk, hp⟩ := merged_keys (b := b) oka.up
  have e1 : D.lst (a.map ptD ++ b.map ptD) = .lst ((kvR (a ++ b)).map fun kv => D.tup [kD kv.1, kv.2]) := by
    rw [← kv_row, ← List.map_append]
  have lm : (Vatmsa.merged a b).length ≤ 120 := by
    have : ∀ (b a : List VPoint), (Vatmsa.merged a b).length ≤ a.length + b.length := by
      have hput : ∀ (p : VPoint) (r : List VPoint), (putPoint p r).length ≤ r.length + 1 := by
        intro p r
        induction r with
        | nil => exact Nat.le_refl _
        | cons q r ih =>
          unfold putPoint
          split
          · exact Nat.succ_le_succ ih
          · split <;> simp
      intro b
      induction b with
      | nil => intro a; exact Nat.le_refl _
      | cons p b ih =>
        intro a
        have := ih (putPoint p a)
        have := hput p a
        rw [merged_cons, List.length_cons]
        omega
    have := this b a
    omega
  refine ss_cons (ss 2 nd (w_callB rfl nsorted boot_sorted (d_cons (w_callTy rfl ndict boot_dict (d_cons (w_new (w_binN (wv 0 rfl (wv 1 rfl ⟨.lst ((kvR (a ++ b)).map fun kv => D.tup [kD kv.1, kv.2]), ?_, (d_nil ⟨_, c_dict rfl, (d_nil ⟨_, c_sortedD rfl hk hp (up_le (up_merged oka.up)), ?_⟩)⟩)⟩)))))))))
  · rw [← D.lst.inj e1]; exact o_catL (by rw [List.length_map, List.length_map]; omega)
  refine ss_cons (ssN 3 nd (w_lst (d_nil ⟨len_le, fun pfound => ?_⟩)))
  refine ss_cons (s_for (js := [4, 5]) .never rfl (i_list (wv 2 rfl ⟨_, rfl, ?_⟩)))
  let g : Int → VPoint := fun t => ⟨t, vOr (valueAt' a t) (valueAt' b t)⟩
  refine for_ind D.int (fun (u : List VPoint × Sl × Sl) => [.im (rowD a), .im (rowD b), .im (.lst (((Vatmsa.merged a b).map (·.t)).map D.int)), .own pfound (.lst (u.1.map ptD)), u.2.1, u.2.2])
    (fun u rest => u.1.length + rest.length ≤ 120 ∧ u.1 ++ rest.map g = Vatmsa.merged a b) ?_ ?_ _ ([], .un, .un) ⟨by rw [List.length_map]; show 0 + _ ≤ _; omega, merged_by oka.up okb.up⟩
  · rintro ⟨acc, s1, s2⟩ t rest ⟨h1, h2⟩ nx hn
    have h1 : acc.length + (rest.length + 1) ≤ 120 := h1
    have h2 : acc ++ (g t :: rest.map g) = Vatmsa.merged a b := h2
    have go : ∀ s4 : D, s4 = optFd (g t).v → nx [.im (rowD a), .im (rowD b), .im (.lst (((Vatmsa.merged a b).map (·.t)).map D.int)), .own pfound (.lst (acc.map ptD ++ [D.tup [.int t, s4]])), .im (.int t), .im (optFd (valueAt' a t))] := fun s4 e4 => by
      subst e4
      have := hn (acc ++ [g t], .im (.int t), .im (optFd (valueAt' a t))) ⟨by show (acc ++ [_]).length + _ ≤ _; rw [List.length_append]; show acc.length + 1 + _ ≤ _; omega, by rw [← h2]; show (acc ++ [_]) ++ _ = acc ++ _; rw [List.append_assoc]; rfl⟩
      rw [List.map_append] at this
      exact this
    refine (gn 4 nd ?_)
    refine ss_cons (ss 5 nd (w_callP hvalue_at (hr.mono (by decide)) rfl pass (d_cons (wv 0 rfl (d_cons (wv 4 rfl (d_nil ⟨_, ⟨a, t, rfl, rfl⟩, ?_⟩)))))))
    cases hv : valueAt' a t with
    | none =>
      have gq : (g t).v = valueAt' b t := by show vOr _ _ = _; rw [hv]; rfl
      rw [gq, hv] at go
      exact ss_one (s_append 3 rfl (.inl rfl) rfl (w_tup (d_cons (wv 4 rfl (d_cons (w_if (t_cmp (wv 5 rfl (w_none ⟨_, o_is, ⟨fun hT => (w_callP hvalue_at (hr.mono (by decide)) rfl pass (d_cons (wv 1 rfl (d_cons (wv 4 rfl (d_nil ⟨_, ⟨b, t, rfl, rfl⟩, (d_nil ⟨len_le, ⟨_, rfl, by rw [List.length_map]; omega, go _ rfl⟩⟩)⟩)))))), fun hF => (nomatch hF)⟩⟩)))))))))
    | some v =>
      have gq : (g t).v = some v := by show vOr _ _ = _; rw [hv]; rfl
      rw [gq, hv] at go
      exact ss_one (s_append 3 rfl (.inl rfl) rfl (w_tup (d_cons (wv 4 rfl (d_cons (w_if (t_cmp (wv 5 rfl (w_none ⟨_, o_is, ⟨fun hT => (nomatch hT), fun hF => (wv 5 rfl (d_nil ⟨len_le, ⟨_, rfl, by rw [List.length_map]; omega, go _ rfl⟩⟩))⟩⟩)))))))))
  · rintro ⟨acc, s1, s2⟩ ⟨_, h2⟩
    have h2 : acc ++ [] = Vatmsa.merged a b := h2
    refine ss_one (s_ret (wg 3 rfl (fin_eq (ds := [rowD a, rowD b]) ?_)))
    rw [← h2, List.append_nil]; rfl
end
end Fp

set_option Elab.async false
set_option linter.all false
set_option maxRecDepth 100000
set_option maxHeartbeats 2000000
namespace Fp
open PySem PySem.Spec PyProof.Rows L2 Dl
open VatmsBase (Bytes word Frac frac whole)
open Vatmsa (pairWord operate)
theorem lit_asof : Str.ofString "asof" = strB (word "asof") := by decide +kernel
theorem lit_merge : Str.ofString "merge" = strB (word "merge") := by decide +kernel
inductive TwoK where
  | pair (o : Vatmsa.Pair) | asof | merge
def twoB : TwoK → Bytes
  | .pair o => pairWord o
  | .asof => word "asof"
  | .merge => word "merge"
def twoR : TwoK → List VPoint → List VPoint → List VPoint
  | .pair o, a, b => Vatmsa.paired o a b
  | .asof, a, b => Vatmsa.asofRow a b
  | .merge, a, b => Vatmsa.merged a b
theorem any_kv (r : List VPoint) (t : Int) : ((kvR r).any fun kv => decide (kv.1 = Sum.inl t)) = r.any fun q => decide (q.t = t) := by
  unfold kvR
  rw [List.any_map]
  refine congrArg (List.any r) (funext fun q => ?_)
  rw [Bool.eq_iff_iff]
  show decide ((Sum.inl q.t : Key) = Sum.inl t) = true ↔ decide (q.t = t) = true
  rw [decide_eq_true_iff, decide_eq_true_iff]
  exact ⟨fun h => Sum.inl.inj h, fun h => by rw [h]⟩
theorem merge_nodup : ∀ (r s : List VPoint), (s ++ r).Pairwise (fun a b => a.t < b.t) → mergeD (kvR s) (kvR r) = kvR (s ++ r)
  | [], s, _ => by rw [List.append_nil]; rfl
  | q :: r, s, h => by
    show mergeD (putKD (kvR s) (Sum.inl q.t) (optFd q.v)) (kvR r) = _
    have e : putKD (kvR s) (Sum.inl q.t) (optFd q.v) = kvR (s ++ [q]) := by
      unfold putKD
      rw [any_kv, if_neg]
      · unfold kvR; rw [List.map_append]; rfl
      · intro z
        obtain ⟨p, hp, hz⟩ := List.any_eq_true.mp z
        have := (List.pairwise_append.mp h).2.2 p hp q List.mem_cons_self
        have := of_decide_eq_true hz
        omega
    rw [e, merge_nodup r (s ++ [q]) (by rw [List.append_assoc]; exact h), List.append_assoc]; rfl
theorem dict_row {r : List VPoint} (h : UpR r) : mergeD [] (kvR r) = kvR r := merge_nodup r [] h
theorem val_kv (r : List VPoint) (t : Int) : valD (kvR r) (Sum.inl t) = (Vatmsa.pointAt r t).map fun q => optFd q.v := by
  unfold valD Vatmsa.pointAt kvR
  induction r with
  | nil => rfl
  | cons q r ih =>
    rw [List.map_cons, List.find?_cons, List.find?_cons]
    by_cases h : q.t = t
    · rw [show (q.t == t) = true by simpa using h, show decide ((Sum.inl q.t : Key) = Sum.inl t) = true from decide_eq_true (by rw [h])]
      rfl
    · rw [show (q.t == t) = false by simpa using h, show decide ((Sum.inl q.t : Key) = Sum.inl t) = false from decide_eq_false fun z => h (Sum.inl.inj z)]
      exact ih
theorem paired_eq (o : Vatmsa.Pair) (a b : List VPoint) : Vatmsa.paired o a b = (a.filter fun p => (Vatmsa.pointAt b p.t).isSome).map fun p => ⟨p.t, opV o p.v (valueAt' b p.t)⟩ := by
  unfold Vatmsa.paired
  induction a with
  | nil => rfl
  | cons p a ih =>
    rw [List.filterMap_cons, List.filter_cons, ih]
    cases h : Vatmsa.pointAt b p.t with
    | none => rfl
    | some q =>
      have e : valueAt' b p.t = q.v := by unfold valueAt'; rw [h]; rfl
      show (⟨p.t, opV o p.v q.v⟩ : VPoint) :: _ = ⟨p.t, opV o p.v (valueAt' b p.t)⟩ :: _
      rw [e]
section
variable {P : Program} {w : World} {K : PySem.W.Frag} {mg : Str → Option Value} {base : Heap}
abbrev s_of_two : Stmt := top 73
abbrev n_of_two : List Str := ["word", "one", "other", "own", "time", "value"]
theorem sc_of_two : FnScope n_of_two ["word", "one", "other"] (defScope s_of_two) := ⟨rfl, rfl, rfl, by decide +kernel, rfl, by decide +kernel, by decide +kernel⟩
def p_of_two : List D → D → Prop := fun ds d => ∃ (k : TwoK) (B C : Nat) (a b : List VPoint), ds = [.str (strB (twoB k)), rowD a, rowD b] ∧ RwOk B a ∧ RwOk C b ∧ d = rowD (twoR k a b)
abbrev FvOfTwo (P : Program) (w : World) (K : PySem.W.Frag) (mg : Str → Option Value) (base : Heap) : Prop := Fv P w K mg base CX0 5 "of_two" ["word", "one", "other"] (PureP p_of_two)
theorem f_of_two (F : Fa K mg "of_two" s_of_two) (hlast_value : Fv P w K mg base CX0 1 "last_value" ["row", "time"] (PureP p_last_value)) (hmerged : Fv P w K mg base CX0 2 "merged" ["one", "other"] (PureP p_merged)) (hof_two_values : FvOTV P w K mg base) (ndict : mg "dict" = none) : FvOfTwo P w K mg base := by
  refine fa_fv F (fun _ _ _ _ _ _ us hl => match us, hl with | [_, _, _], _ => rfl) fun f fd F => fn0 F sc_of_two (fun Γ r ⟨ds, d, e, _, k, B, C, x, y, e2, _⟩ => by subst e; subst e2; rfl) ?_
  have nd := sc_of_two.nd
  rintro cdv A outer s H E _ _ hr ⟨_, _, rfl, rfl, k, B, C, a, b, rfl, oka, okb, rfl⟩
  have hz : sizeLine = 16777216 := sizeLine_eq
  have la := oka.len
  have lb := okb.len
  refine ss_cons (s_if (t_cmp (wv 0 rfl (w_str ⟨_, o_eqS, ⟨fun hT => ?_, fun hF => ss_nil ?_⟩⟩))))
  · rw [dec_word lit_asof] at hT
    have : k = .asof := by
      rcases k with o | _ | _ <;> first | rfl | (cases o <;> exact absurd hT (by decide)) | exact absurd hT (by decide)
    subst this
    refine ss_one (s_ret (w_new (wlc [("time", 4), ("value", 5)] [4, 5] ptD (fun x => true) (fun x => D.tup [.int x.t, optFd (lastV b x.t)]) nd (blkOk_by (by show blkC n_of_two (defScope s_of_two) _ _ = true; decide +kernel)) (i_list (wv 1 rfl ⟨_, rfl, ⟨a, rfl, by omega, ?_, ?_⟩⟩)))))
    · refine fin_eq (ds := [.str (strB (word "asof")), rowD a, rowD b]) ?_
      rw [List.filter_eq_self.mpr (fun _ _ => rfl)]
      show D.lst _ = D.lst ((Vatmsa.asofRow a b).map ptD)
      unfold Vatmsa.asofRow
      rw [List.map_map]; rfl
    · intro x hx
      exact ⟨_, fun s H0 C cl fp => (g1_tup rfl (gs_cons (gn 4 nd (gs_cons (gn 5 nd (gs_nil rfl)))))), fun s H0 C cl fp => ⟨rfl, rfl⟩, fun _ s H0 C cl fp => (w_tup (d_cons (wv 4 rfl (d_cons (w_callP hlast_value (hr.mono (by decide)) rfl pass (d_cons (wv 2 rfl (d_cons (wv 4 rfl (d_nil ⟨_, ⟨b, x.t, rfl, rfl⟩, (d_nil ⟨len_le, rfl⟩)⟩))))))))))⟩
  rw [dec_word lit_asof] at hF
  refine ss_cons (s_if (t_cmp (wv 0 rfl (w_str ⟨_, o_eqS, ⟨fun hT => ?_, fun hF2 => ss_nil ?_⟩⟩))))
  · rw [dec_word lit_merge] at hT
    have : k = .merge := by
      rcases k with o | _ | _ <;> first | rfl | (cases o <;> exact absurd hT (by decide)) | exact absurd hT (by decide)
    subst this
    exact ss_one (s_ret (w_callP hmerged (hr.mono (by decide)) rfl pass (d_cons (wv 1 rfl (d_cons (wv 2 rfl (d_nil ⟨_, ⟨B, C, a, b, rfl, oka, okb, rfl⟩, fin_eq rfl⟩)))))))
  rw [dec_word lit_merge] at hF2
  have : ∃ o, k = .pair o := by
    rcases k with o | _ | _ <;> first | exact ⟨_, rfl⟩ | exact absurd hF (by decide) | exact absurd hF2 (by decide)
  obtain ⟨o, rfl⟩ := this
  refine ss_cons (ss 3 nd (w_callTy rfl ndict boot_dict (d_cons (wv 2 rfl (d_nil ⟨.dct (kvR b), by rw [kv_row]; have := c_dict (X := (cxOf CX0 P w K mg base n_of_two "of_two" (defScope s_of_two) f cdv A outer s H E).nox) rfl (kvs := kvR b); rw [dict_row okb.up] at this; exact this, ?_⟩)))))
  have hu := Nat.lt_of_le_of_lt (Nat.add_le_add_left (show 1 ≤ 64 by decide) _) hr.units
  refine ss_one (s_ret (w_new (wlc [("time", 4), ("value", 5)] [4, 5] ptD (fun x => (Vatmsa.pointAt b x.t).isSome) (fun x => D.tup [.int x.t, optFd (opV o x.v (valueAt' b x.t))]) nd (blkOk_by (by show blkC n_of_two (defScope s_of_two) _ _ = true; decide +kernel)) (i_list (wv 1 rfl ⟨_, rfl, ⟨a, rfl, by omega, ?_, ?_⟩⟩)))))
  · refine fin_eq (ds := [.str (strB (pairWord o)), rowD a, rowD b]) ?_
    show D.lst _ = D.lst ((Vatmsa.paired o a b).map ptD)
    rw [paired_eq, List.map_map]; rfl
  · intro x hx
    refine ⟨_, fun s H0 C cl fp => (g1_tup rfl (gs_cons (gn 4 nd (gs_cons (gn 5 nd (gs_nil rfl)))))), fun s H0 C cl fp => (t_din hu (wv 4 rfl ⟨.inl x.t, rfl, (wv 3 rfl ⟨_, rfl, ⟨?_, rfl⟩⟩)⟩)), fun hk s H0 C cl fp => ?_⟩
    · rw [val_kv]; exact Option.isSome_map
    · have hq : ∃ q, Vatmsa.pointAt b x.t = some q := Option.isSome_iff_exists.mp hk
      obtain ⟨q, hq⟩ := hq
      have e1 : valD (kvR b) (Sum.inl x.t) = some (optFd (valueAt' b x.t)) := by
        rw [val_kv, hq]
        unfold valueAt'
        rw [hq]; rfl
      have e2 : valueAt' b x.t = q.v := by unfold valueAt'; rw [hq]; rfl
      exact (w_tup (d_cons (wv 4 rfl (d_cons (w_callP hof_two_values (hr.mono (by decide)) rfl pass (d_cons (wv 0 rfl (d_cons (wv 5 rfl (d_cons (w_dget hu (wv 3 rfl ⟨_, rfl, (wv 4 rfl ⟨.inl x.t, _, rfl, e1, (d_nil ⟨_, ⟨o, x.v, valueAt' b x.t, rfl, oka.vs x hx, by rw [e2]; exact okb.vs q (List.mem_of_find?_eq_some hq), rfl⟩, (d_nil ⟨len_le, rfl⟩)⟩)⟩)⟩))))))))))))
end
end Fp

set_option Elab.async false
set_option linter.all false
set_option maxRecDepth 100000
set_option maxHeartbeats 2000000
namespace Fp
open PySem PySem.Spec PyProof.Rows L2 Dl
open VatmsBase (Bytes word Frac frac whole)
open Vatmsa (pairWord operate byRule)
def NsOk (v : Option Frac) : Prop := ∀ f, v = some f → Norm f
/-- a row before it is known whether it comes -/
structure RwPre (B : Nat) (r : List VPoint) : Prop where
  up : UpR r
  tm : ∀ q ∈ r, q.t.natAbs ≤ B
  nv : ∀ q ∈ r, NsOk q.v
theorem RwOk.pre {B : Nat} {r : List VPoint} (h : RwOk B r) : RwPre B r := ⟨h.up, h.tm, fun q hq f hf => (h.vs q hq f hf).norm⟩
theorem RwOk.mono {B C : Nat} {r : List VPoint} (h : RwOk B r) (hc : B ≤ C) : RwOk C r := ⟨h.len, h.up, fun q hq => Nat.le_trans (h.tm q hq) hc, h.vs⟩
theorem RwPre.mono {B C : Nat} {r : List VPoint} (h : RwPre B r) (hc : B ≤ C) : RwPre C r := ⟨h.up, fun q hq => Nat.le_trans (h.tm q hq) hc, h.nv⟩
theorem great_false {v : Option Frac} (h : greatV v = false) : ∀ f, v = some f → f.num.natAbs ≤ 1000000000000000000000000 ∧ f.den ≤ 1000000000000000000000000 := by
  intro f hf
  subst hf
  have : ¬ (1000000000000000000000000 < f.num.natAbs ∨ 1000000000000000000000000 < f.den) := of_decide_eq_false h
  omega
theorem RwPre.ok {B : Nat} {r : List VPoint} (h : RwPre B r) (hc : comesB r = true) : RwOk B r := by
  unfold comesB at hc
  rw [Bool.not_eq_true', Bool.or_eq_false_iff] at hc
  have h1 := of_decide_eq_false hc.1
  refine ⟨by omega, h.up, h.tm, fun q hq f hf => ?_⟩
  have h2 := List.any_eq_false.mp hc.2 q hq
  have h3 := great_false (v := q.v) (by simpa using h2) f hf
  have := h.nv q hq f hf
  exact ⟨h3.1, h3.2, this.pos, this.cop⟩
theorem great_ok {v : Option Frac} (h : VsOk v) : greatV v = false := by
  cases v with
  | none => rfl
  | some f =>
    have := h f rfl
    have h1 := this.num
    have h2 := this.den
    exact decide_eq_false (show ¬ (1000000000000000000000000 < f.num.natAbs ∨ 1000000000000000000000000 < f.den) by omega)
theorem comes_of {r : List VPoint} (hl : r.length ≤ 60) (hv : ∀ q ∈ r, VsOk q.v) : comesB r = true := by
  unfold comesB
  rw [decide_eq_false (by omega), Bool.false_or, List.any_eq_false.mpr fun q hq => by rw [great_ok (hv q hq)]; decide]
  rfl
theorem RwOk.comes {B : Nat} {r : List VPoint} (h : RwOk B r) : comesB r = true := comes_of h.len h.vs
theorem pre_times {B : Nat} {r r' : List VPoint} (h : r'.map (·.t) = r.map (·.t)) (p : RwPre B r) (nv : ∀ q ∈ r', NsOk q.v) : RwPre B r' := by
  refine ⟨?_, fun q hq => ?_, nv⟩
  · have : (r'.map (·.t)).Pairwise (· < ·) := by rw [h, List.pairwise_map]; exact p.up
    rw [List.pairwise_map] at this
    exact this
  · have : q.t ∈ r.map (·.t) := by rw [← h]; exact List.mem_map_of_mem hq
    obtain ⟨z, hz, e⟩ := List.mem_map.mp this
    rw [← e]; exact p.tm z hz
theorem pre_map {B : Nat} {r : List VPoint} (g : VPoint → VPoint) (ht : ∀ q, (g q).t = q.t) (p : RwPre B r) (nv : ∀ q ∈ r, NsOk (g q).v) : RwPre B (r.map g) :=
  pre_times (by rw [List.map_map]; exact List.map_congr_left fun q _ => ht q) p fun q hq => by
    obtain ⟨z, hz, e⟩ := List.mem_map.mp hq
    rw [← e]; exact nv z hz
theorem ns_none : NsOk none := fun f h => nomatch h
theorem ns_some {f : Frac} (h : Norm f) : NsOk (some f) := fun g e => by cases e; exact h
theorem ns_map {v : Option Frac} {g : Frac → Frac} (h : NsOk v) (hg : ∀ f, Norm f → Norm (g f)) : NsOk (v.map g) := by
  cases v with
  | none => exact ns_none
  | some f => exact ns_some (hg f (h f rfl))
theorem norm_operate (o : Vatmsa.Pair) {a b : Frac} (ha : Norm a) (hb : Norm b) : Norm (operate o a b) := by
  cases o with
  | add => exact norm_plus ha.pos hb.pos
  | sub => exact norm_minus ha.pos hb.pos
  | least => show Norm (VatmsBase.least a b); unfold VatmsBase.least; split <;> assumption
  | most => show Norm (VatmsBase.greatest a b); unfold VatmsBase.greatest; split <;> assumption
theorem ns_op (o : Vatmsa.Pair) {a b : Option Frac} (ha : NsOk a) (hb : NsOk b) : NsOk (opV o a b) := by
  cases a with
  | none => exact ns_none
  | some x =>
    cases b with
    | none => exact ns_none
    | some y => exact ns_some (norm_operate o (ha x rfl) (hb y rfl))
theorem ns_at {B : Nat} {r : List VPoint} (p : RwPre B r) (t : Int) : NsOk (valueAt' r t) := by
  unfold valueAt'
  cases h : Vatmsa.pointAt r t with
  | none => exact ns_none
  | some q => exact p.nv q (List.mem_of_find?_eq_some h)
theorem vs_last {B : Nat} {r : List VPoint} (p : RwOk B r) (t : Int) : VsOk (lastV r t) := by
  unfold lastV Vatmsa.lastAt
  cases h : (r.filter fun p => decide (p.t ≤ t)).getLast? with
  | none => exact fun f z => nomatch z
  | some q => exact p.vs q (List.mem_filter.mp (List.mem_of_getLast? h)).1
theorem asof_ok {B C : Nat} {a b : List VPoint} (ha : RwOk B a) (hb : RwOk C b) : RwOk B (Vatmsa.asofRow a b) := by
  refine (pre_map (fun p => (⟨p.t, lastV b p.t⟩ : VPoint)) (fun _ => rfl) ha.pre fun q _ f hf => (vs_last hb q.t f hf).norm).ok (comes_of ?_ fun q hq => ?_)
  · rw [List.length_map]; exact ha.len
  · obtain ⟨z, _, e⟩ := List.mem_map.mp hq
    rw [← e]; exact vs_last hb z.t
theorem two_pre {B C : Nat} {a b : List VPoint} (ha : RwOk B a) (hb : RwOk C b) (k : TwoK) : RwPre (max B C) (twoR k a b) := by
  cases k with
  | pair o =>
    show RwPre _ (Vatmsa.paired o a b)
    rw [paired_eq]
    have p : RwPre B (a.filter fun p => (Vatmsa.pointAt b p.t).isSome) := ⟨ha.up.sublist List.filter_sublist, fun q hq => ha.tm q (List.mem_filter.mp hq).1, fun q hq => ha.pre.nv q (List.mem_filter.mp hq).1⟩
    exact (pre_map (fun p => (⟨p.t, opV o p.v (valueAt' b p.t)⟩ : VPoint)) (fun _ => rfl) p fun q hq => ns_op o (p.nv q hq) (ns_at hb.pre _)).mono (Nat.le_max_left _ _)
  | asof => exact (asof_ok ha hb).pre.mono (Nat.le_max_left _ _)
  | merge =>
    show RwPre _ (Vatmsa.merged a b)
    refine ⟨up_merged ha.up, fun q hq => ?_, fun q hq => ?_⟩
    · have : q.t ∈ (Vatmsa.merged a b).map (·.t) := List.mem_map_of_mem hq
      rw [mem_merged] at this
      rcases this with h | h <;> obtain ⟨z, hz, e⟩ := List.mem_map.mp h <;> rw [← e]
      · exact Nat.le_trans (ha.tm z hz) (Nat.le_max_left _ _)
      · exact Nat.le_trans (hb.tm z hz) (Nat.le_max_right _ _)
    · rw [← merged_by ha.up hb.up] at hq
      obtain ⟨t, _, e⟩ := List.mem_map.mp hq
      rw [← e]
      show NsOk (vOr (valueAt' a t) (valueAt' b t))
      have h1 := ns_at ha.pre t
      have h2 := ns_at hb.pre t
      cases hv : valueAt' a t with
      | none => exact h2
      | some v => rw [hv] at h1; exact h1
/-! ### one row -/
def isOne : VExpr → Bool
  | .shift _ _ => true | .scale _ _ => true | .fill _ _ => true | .window _ _ _ => true | .diff _ => true | .run _ => true | .over _ _ => true
  | _ => false
def oneR : VExpr → List VPoint → Option (List VPoint)
  | .shift _ k, r => some (Vatmsa.shifted r k)
  | .scale _ c, r => some (Vatmsa.scaledBy r c)
  | .fill _ f, r => some (Vatmsa.filled r f)
  | .window _ k o, r => if 60 < Vatmsa.windowCount r k then none else some (Vatmsa.windowed r k o)
  | .diff _, r => some (Vatmsa.differences r)
  | .run _, r => some (Vatmsa.running none r)
  | .over _ c, r => some (Vatmsa.overRow r c)
  | _, _ => none
theorem SmallF.vok {f : Frac} (h : SmallF f) : VOk f := ⟨Nat.le_trans h.num (by decide), Nat.le_trans h.den (by decide), h.pos, h.nm⟩
theorem shift_ok {B : Nat} {r : List VPoint} (h : RwOk B r) {k : Int} (hk : k.natAbs ≤ 100000) : RwOk (B + 100000) (Vatmsa.shifted r k) := by
  unfold Vatmsa.shifted
  refine ⟨by rw [List.length_map]; exact h.len, ?_, fun q hq => ?_, fun q hq => ?_⟩
  · rw [List.pairwise_map]
    exact h.up.imp fun z => by show _ + k < _ + k; omega
  · obtain ⟨z, hz, e⟩ := List.mem_map.mp hq
    have := h.tm z hz
    rw [← e]
    show (z.t + k).natAbs ≤ _
    omega
  · obtain ⟨z, hz, e⟩ := List.mem_map.mp hq
    rw [← e]; exact h.vs z hz
theorem over_ok {B : Nat} {r : List VPoint} (h : RwOk B r) (c : Frac) : RwOk B (Vatmsa.overRow r c) := by
  have hv : ∀ v : Frac, VOk (if VatmsBase.less c v = true then whole 1 else whole 0) := fun v => by
    split <;> exact ⟨by decide, by decide, by decide, by decide⟩
  have hm : ∀ v : Option Frac, VsOk (v.map fun v => if VatmsBase.less c v = true then whole 1 else whole 0) := fun v f hf => by
    cases v with
    | none => cases hf
    | some x => cases hf; exact hv x
  refine (pre_map (fun p => (⟨p.t, p.v.map fun v => if VatmsBase.less c v = true then whole 1 else whole 0⟩ : VPoint)) (fun _ => rfl) h.pre fun q _ f hf => (hm q.v f hf).norm).ok (comes_of ?_ fun q hq => ?_)
  · rw [List.length_map]; exact h.len
  · obtain ⟨z, _, e⟩ := List.mem_map.mp hq
    rw [← e]; exact hm z.v
theorem times_running : ∀ (r : List VPoint) (s : Option Frac), (Vatmsa.running s r).map (·.t) = r.map (·.t)
  | [], _ => rfl
  | q :: r, s => by rw [running_cons, List.map_cons, List.map_cons, times_running r]
theorem ns_running : ∀ (r : List VPoint) (s : Option Frac), NsOk s → (∀ q ∈ r, NsOk q.v) → ∀ q ∈ Vatmsa.running s r, NsOk q.v
  | [], _, _, _ => fun q hq => nomatch hq
  | p :: r, s, hs, h => fun q hq => by
    have h1 : NsOk (stepR s p.v) := by
      have hp := h p List.mem_cons_self
      cases s with
      | none => exact hp
      | some a =>
        cases hv : p.v with
        | none => exact hs
        | some b => exact ns_some (norm_plus (hs a rfl).pos (hp b hv).pos)
    rw [running_cons] at hq
    rcases List.mem_cons.mp hq with e | e
    · subst e; exact h1
    · exact ns_running r _ h1 (fun z hz => h z (List.mem_cons_of_mem _ hz)) q e
theorem fold_pick {f : Frac → Frac → Frac} (hf : ∀ a b, Norm a → Norm b → Norm (f a b)) : ∀ (l : List Frac) (a : Frac), Norm a → (∀ x ∈ l, Norm x) → Norm (l.foldl f a)
  | [], _, h, _ => h
  | x :: l, a, h, hl => fold_pick hf l _ (hf _ _ h (hl x List.mem_cons_self)) fun y hy => hl y (List.mem_cons_of_mem _ hy)
theorem ns_rule (o : Vatmsa.Over) {l : List Frac} (h : ∀ f ∈ l, Norm f) : NsOk (byRule o l) := by
  have hs : Norm (Vatmsa.sumOf l) := fold_norm l _ (norm_whole 0) fun x hx => (h x hx).pos
  cases l with
  | nil => cases o <;> first | exact ns_some (norm_whole _) | exact ns_none
  | cons a l =>
    have ha := h a List.mem_cons_self
    have hl : ∀ x ∈ l, Norm x := fun x hx => h x (List.mem_cons_of_mem _ hx)
    cases o with
    | sum => exact ns_some hs
    | mean => exact ns_some (norm_times hs.pos (norm_frac (Nat.succ_pos _)).pos)
    | least => exact ns_some (fold_pick (fun a b => norm_operate .least) l a ha hl)
    | most => exact ns_some (fold_pick (fun a b => norm_operate .most) l a ha hl)
    | first => exact ns_some ha
    | last =>
      show NsOk ((a :: l).getLast?)
      exact fun f hf => h f (List.mem_of_getLast? hf)
    | count => exact ns_some (norm_whole _)
theorem ns_fill {B : Nat} {r : List VPoint} (p : RwPre B r) (o : Vatmsa.Fill) (t : Int) : NsOk (fillV o r t) := by
  have hb : ∀ q, Vatmsa.before r t = some q → q ∈ r ∧ q.t < t := fun q hq => by
    have := List.mem_of_getLast? hq
    obtain ⟨h1, h2⟩ := List.mem_filter.mp this
    exact ⟨h1, by simp at h2; exact h2.1⟩
  have hh : ∀ q, Vatmsa.behind r t = some q → q ∈ r ∧ t < q.t := fun q hq => by
    have h2 := List.find?_some hq
    exact ⟨List.mem_of_find?_eq_some hq, by simp at h2; exact h2.1⟩
  cases o with
  | last =>
    show NsOk ((Vatmsa.before r t).bind fun q => q.v)
    cases h : Vatmsa.before r t with
    | none => exact ns_none
    | some q => exact p.nv q (hb q h).1
  | next =>
    show NsOk ((Vatmsa.behind r t).bind fun q => q.v)
    cases h : Vatmsa.behind r t with
    | none => exact ns_none
    | some q => exact p.nv q (hh q h).1
  | line =>
    show NsOk ((Vatmsa.before r t).bind fun a => (Vatmsa.behind r t).bind fun b => Vatmsa.onLine a b t)
    cases h : Vatmsa.before r t with
    | none => exact ns_none
    | some a =>
      cases h2 : Vatmsa.behind r t with
      | none => exact ns_none
      | some b =>
        show NsOk (Vatmsa.onLine a b t)
        obtain ⟨a1, a2⟩ := hb a h
        obtain ⟨b1, b2⟩ := hh b h2
        unfold Vatmsa.onLine
        cases ea : a.v with
        | none => exact ns_none
        | some x =>
          cases eb : b.v with
          | none => exact ns_none
          | some y =>
            have nx := p.nv a a1 x ea
            have ny := p.nv b b1 y eb
            exact ns_some (norm_plus nx.pos (norm_times (norm_minus ny.pos nx.pos).pos (norm_frac (by omega)).pos).pos)
  | zero => exact ns_some (norm_whole 0)
theorem fill_pre {B : Nat} {r : List VPoint} (p : RwPre B r) (o : Vatmsa.Fill) : RwPre B (Vatmsa.filled r o) := by
  rw [filled_eq]
  refine pre_map _ (fun _ => rfl) p fun q hq => ?_
  show NsOk (match q.v with
    | some v => some v
    | none => fillV o r q.t)
  cases h : q.v with
  | none => exact ns_fill p o q.t
  | some v => exact ns_some (p.nv q hq v h)
theorem diff_times (r : List VPoint) : (Vatmsa.differences r).map (·.t) = (r.drop 1).map (·.t) := by
  unfold Vatmsa.differences
  rw [List.map_map]
  cases r with
  | nil => rfl
  | cons a r =>
    show ((a :: r).zip r).map _ = r.map _
    have : ∀ (r l : List VPoint), r.length ≤ l.length → (l.zip r).map (fun x => x.2.t) = r.map (·.t) := by
      intro r
      induction r with
      | nil => intro l _; cases l <;> rfl
      | cons b r ih =>
        intro l hl
        cases l with
        | nil => cases hl
        | cons c l =>
          show _ :: _ = _ :: _
          congr 1
          exact ih l (Nat.le_of_succ_le_succ hl)
    exact this r (a :: r) (Nat.le_succ _)
theorem diff_pre {B : Nat} {r : List VPoint} (p : RwPre B r) : RwPre B (Vatmsa.differences r) := by
  have pd : RwPre B (r.drop 1) := ⟨p.up.sublist (List.drop_sublist _ _), fun q hq => p.tm q (List.mem_of_mem_drop hq), fun q hq => p.nv q (List.mem_of_mem_drop hq)⟩
  refine pre_times (diff_times r) pd fun q hq => ?_
  obtain ⟨z, hz, e⟩ := List.mem_map.mp hq
  obtain ⟨z1, z2⟩ := z
  have h1 := (List.of_mem_zip hz).1
  have h2 := List.mem_of_mem_drop (List.of_mem_zip hz).2
  rw [← e]
  show NsOk (z1.v.bind fun a => z2.v.map fun b => VatmsBase.minus b a)
  cases e1 : z1.v with
  | none => exact ns_none
  | some x =>
    cases e2 : z2.v with
    | none => exact ns_none
    | some y => exact ns_some (norm_minus (p.nv z2 h2 y e2).pos (p.nv z1 h1 x e1).pos)
theorem win_pre {B : Nat} {r : List VPoint} (p : RwPre B r) {k : Nat} (hk : 1 ≤ k) (hk2 : k ≤ 100000) (o : Vatmsa.Over) : RwPre (B + 100000) (Vatmsa.windowed r k o) := by
  have nin : ∀ j f, f ∈ Vatmsa.inWindow r k j → Norm f := fun j f hf => by
    unfold Vatmsa.inWindow at hf
    obtain ⟨q, hq, hf⟩ := List.mem_filterMap.mp hf
    exact p.nv q (List.mem_filter.mp hq).1 f hf
  unfold Vatmsa.windowed
  have k0 : (0 : Int) < (k : Int) := by omega
  cases h1 : r.head? with
  | none =>
    have : Vatmsa.windows r k = [] := by unfold Vatmsa.windows; rw [h1]
    rw [this]
    exact ⟨.nil, (fun q hq => nomatch hq), (fun q hq => nomatch hq)⟩
  | some a =>
  cases h2 : r.getLast? with
  | none =>
    have : Vatmsa.windows r k = [] := by unfold Vatmsa.windows; rw [h1, h2]
    rw [this]
    exact ⟨.nil, (fun q hq => nomatch hq), (fun q hq => nomatch hq)⟩
  | some b =>
  have ew : Vatmsa.windows r k = (List.range ((Vatmsa.windowNo k b.t - Vatmsa.windowNo k a.t).toNat + 1)).map fun (i : Nat) => Vatmsa.windowNo k a.t + (i : Int) := by unfold Vatmsa.windows; rw [h1, h2]
  have ta := p.tm a (List.mem_of_head? h1)
  have tb := p.tm b (List.mem_of_getLast? h2)
  have hab : a.t ≤ b.t := by
    cases r with
    | nil => cases h1
    | cons c r =>
      cases h1
      have hb := List.mem_of_getLast? h2
      rcases List.mem_cons.mp hb with e | e
      · rw [e]; exact Int.le_refl _
      · have := (List.pairwise_cons.mp p.up).1 b e; omega
  rw [ew, List.map_map]
  have wa := win_no (k := k) a.t
  have wb := win_no (k := k) b.t
  have a1 := Int.ediv_mul_le a.t (b := (k : Int)) (by omega)
  have a2 := Int.lt_ediv_add_one_mul_self a.t k0
  have b1 := Int.ediv_mul_le b.t (b := (k : Int)) (by omega)
  have mono : a.t / (k : Int) ≤ b.t / (k : Int) := Int.ediv_le_ediv k0 hab
  refine ⟨?_, fun q hq => ?_, fun q hq => ?_⟩
  · unfold UpR
    rw [List.pairwise_map]
    refine List.pairwise_lt_range.imp fun {i j} hij => ?_
    show (Vatmsa.windowNo k a.t + (i : Int)) * (k : Int) < (Vatmsa.windowNo k a.t + (j : Int)) * (k : Int)
    exact Int.mul_lt_mul_of_pos_right (by omega) k0
  · obtain ⟨i, hi, e⟩ := List.mem_map.mp hq
    rw [← e]
    show ((Vatmsa.windowNo k a.t + (i : Int)) * (k : Int)).natAbs ≤ _
    have hi := List.mem_range.mp hi
    rw [wa, wb] at hi
    rw [wa]
    have l1 : (a.t / (k : Int)) * (k : Int) ≤ (a.t / (k : Int) + (i : Int)) * (k : Int) := Int.mul_le_mul_of_nonneg_right (by omega) (by omega)
    have l2 : (a.t / (k : Int) + (i : Int)) * (k : Int) ≤ (b.t / (k : Int)) * (k : Int) := Int.mul_le_mul_of_nonneg_right (by omega) (by omega)
    have l3 : (a.t / (k : Int) + 1) * (k : Int) = (a.t / (k : Int)) * (k : Int) + (k : Int) := by rw [Int.add_mul, Int.one_mul]
    omega
  · obtain ⟨i, hi, e⟩ := List.mem_map.mp hq
    rw [← e]
    exact ns_rule o (nin _)
theorem one_pre {B : Nat} {r : List VPoint} (h : RwOk B r) {e : VExpr} (hw : WfE e) {r' : List VPoint} (hr : oneR e r = some r') : RwPre (B + 100000) r' := by
  cases e with
  | name x => cases hr
  | pair o a b => cases hr
  | asof a b => cases hr
  | merge a b => cases hr
  | shift a k => cases hr; exact (shift_ok h hw.2).pre
  | scale a c =>
    cases hr
    refine (pre_map (fun p => (⟨p.t, p.v.map fun v => VatmsBase.times v c⟩ : VPoint)) (fun _ => rfl) h.pre fun q hq => ns_map (h.pre.nv q hq) fun f hf => norm_times hf.pos hw.2.pos).mono (Nat.le_add_right _ _)
  | fill a f => cases hr; exact (fill_pre h.pre f).mono (Nat.le_add_right _ _)
  | window a k o =>
    have hr : (if 60 < Vatmsa.windowCount r k then none else some (Vatmsa.windowed r k o)) = some r' := hr
    split at hr
    · cases hr
    · cases hr; exact win_pre h.pre hw.2.1 hw.2.2 o
  | diff a => cases hr; exact (diff_pre h.pre).mono (Nat.le_add_right _ _)
  | run a => cases hr; exact (pre_times (times_running r none) h.pre (ns_running r none ns_none h.pre.nv)).mono (Nat.le_add_right _ _)
  | over a c => cases hr; exact (over_ok h c).pre.mono (Nat.le_add_right _ _)
/-! ### the meaning -/
def keep (o : Option (List VPoint)) : Option (List VPoint) := o.bind fun r => if comesB r = true then some r else none
theorem keep_ok {B : Nat} {r : List VPoint} (h : RwOk B r) : keep (some r) = some r := if_pos h.comes
theorem mean_one {l : Vatmsa.Rows} {e a : VExpr} (ho : isOne e = true) (hs : subs e = [a]) (hw : WfE e) {B : Nat} (ha : ∀ r, Vatmsa.meaning l a = some r → RwOk B r) : Vatmsa.meaning l e = (Vatmsa.meaning l a).bind fun r => keep (oneR e r) := by
  have fe : ∀ r, Vatmsa.fine r = keep (some r) := fine_eq
  cases e with
  | name x => cases ho
  | pair o a b => cases ho
  | asof a b => cases ho
  | merge a b => cases ho
  | shift a0 k =>
    cases hs
    show (Vatmsa.meaning l a).map (fun r => Vatmsa.shifted r k) = _
    cases h : Vatmsa.meaning l a with
    | none => rfl
    | some r => exact (keep_ok (shift_ok (ha r h) hw.2)).symm
  | over a0 c =>
    cases hs
    show (Vatmsa.meaning l a).map (fun r => Vatmsa.overRow r c) = _
    cases h : Vatmsa.meaning l a with
    | none => rfl
    | some r => exact (keep_ok (over_ok (ha r h) c)).symm
  | scale a0 c => cases hs; exact congrArg _ (funext fun r => fe _)
  | fill a0 f => cases hs; exact congrArg _ (funext fun r => fe _)
  | diff a0 => cases hs; exact congrArg _ (funext fun r => fe _)
  | run a0 => cases hs; exact congrArg _ (funext fun r => fe _)
  | window a0 k o =>
    cases hs
    refine congrArg _ (funext fun r => ?_)
    show (if 60 < Vatmsa.windowCount r k then none else Vatmsa.fine _) = keep (if 60 < Vatmsa.windowCount r k then none else some _)
    rw [fe]
    split <;> rfl
def twoOf : VExpr → Option TwoK
  | .pair o _ _ => some (.pair o) | .asof _ _ => some .asof | .merge _ _ => some .merge
  | _ => none
theorem mean_two {l : Vatmsa.Rows} {e a b : VExpr} {k : TwoK} (ho : twoOf e = some k) (hs : subs e = [a, b]) {B C : Nat} (ha : ∀ r, Vatmsa.meaning l a = some r → RwOk B r) (hb : ∀ r, Vatmsa.meaning l b = some r → RwOk C r) :
    Vatmsa.meaning l e = (Vatmsa.meaning l a).bind fun r => (Vatmsa.meaning l b).bind fun s => keep (some (twoR k r s)) := by
  have fe : ∀ r, Vatmsa.fine r = keep (some r) := fine_eq
  cases e with
  | pair o a0 b0 => cases ho; cases hs; exact congrArg _ (funext fun r => congrArg _ (funext fun s => fe _))
  | merge a0 b0 => cases ho; cases hs; exact congrArg _ (funext fun r => congrArg _ (funext fun s => fe _))
  | asof a0 b0 =>
    cases ho; cases hs
    show ((Vatmsa.meaning l a).bind fun r => (Vatmsa.meaning l b).map fun s => Vatmsa.asofRow r s) = _
    cases h : Vatmsa.meaning l a with
    | none => rfl
    | some r =>
      cases h2 : Vatmsa.meaning l b with
      | none => rfl
      | some s => exact (keep_ok (asof_ok (ha r h) (hb s h2))).symm
  | _ => cases ho
theorem keep_pre {B : Nat} {o : Option (List VPoint)} (h : ∀ r, o = some r → RwPre B r) {r : List VPoint} (hk : keep o = some r) : RwOk B r := by
  cases o with
  | none => cases hk
  | some x =>
    have hk : (if comesB x = true then some x else none) = some r := hk
    split at hk
    · rename_i hc; cases hk; exact (h _ rfl).ok hc
    · cases hk
theorem name_one_two (e : VExpr) : isNm e = true ∨ (∃ a, subs e = [a] ∧ isOne e = true ∧ twoOf e = none) ∨ ∃ a b k, subs e = [a, b] ∧ isOne e = false ∧ twoOf e = some k ∧ wordE e = twoB k := by
  cases e <;> first | exact .inl rfl | exact .inr (.inl ⟨_, rfl, rfl, rfl⟩) | exact .inr (.inr ⟨_, _, _, rfl, rfl, rfl, rfl⟩)
theorem mean_ok {l : Vatmsa.Rows} {B : Nat} (hl : ∀ x ∈ l, RwOk B x.2) : ∀ (n : Nat) (e : VExpr), dep e ≤ n + 1 → WfE e → ∀ r, Vatmsa.meaning l e = some r → RwOk (B + 100000 * n) r
  | n, e, hd, hw, r, hr => by
    rcases name_one_two e with hn | ⟨a, hs, ho, ht⟩ | ⟨a, b, k, hs, ho, ht, _⟩
    · cases e with
      | name x =>
        have hr : (Vatmsa.rowIn l x.name) = some r := hr
        unfold Vatmsa.rowIn at hr
        cases h : l.find? (fun z => z.1 == x.name) with
        | none => rw [h] at hr; cases hr
        | some y =>
          rw [h] at hr
          cases hr
          exact (hl y (List.mem_of_find?_eq_some h)).mono (Nat.le_add_right _ _)
      | _ => cases hn
    · have hda := dep_subs hd a (by rw [hs]; exact List.mem_cons_self)
      have hwa := wf_subs hw a (by rw [hs]; exact List.mem_cons_self)
      cases n with
      | zero => cases a <;> simp [dep] at hda
      | succ n =>
        have ih := mean_ok hl n a hda hwa
        rw [mean_one ho hs hw ih] at hr
        cases h : Vatmsa.meaning l a with
        | none => rw [h] at hr; cases hr
        | some s =>
          rw [h] at hr
          exact (keep_pre (fun r' hr' => one_pre (ih s h) hw hr') hr).mono (by omega)
    · have hda := dep_subs hd a (by rw [hs]; exact List.mem_cons_self)
      have hwa := wf_subs hw a (by rw [hs]; exact List.mem_cons_self)
      have hdb := dep_subs hd b (by rw [hs]; simp)
      have hwb := wf_subs hw b (by rw [hs]; simp)
      cases n with
      | zero => cases a <;> simp [dep] at hda
      | succ n =>
        have iha := mean_ok hl n a hda hwa
        have ihb := mean_ok hl n b hdb hwb
        rw [mean_two ht hs iha ihb] at hr
        cases h : Vatmsa.meaning l a with
        | none => rw [h] at hr; cases hr
        | some s =>
          rw [h] at hr
          cases h2 : Vatmsa.meaning l b with
          | none => rw [h2] at hr; cases hr
          | some s2 =>
            rw [h2] at hr
            have hr : keep (some (twoR k s s2)) = some r := hr
            exact (keep_pre (B := max (B + 100000 * n) (B + 100000 * n)) (fun r' hr' => by cases hr'; exact two_pre (iha s h) (ihb s2 h2) k) hr).mono (by rw [Nat.max_self]; omega)
end Fp

set_option Elab.async false
set_option linter.all false
set_option maxRecDepth 100000
set_option maxHeartbeats 2000000
namespace Fp
open PySem PySem.Spec PyProof.Rows L2 Dl
open VatmsBase (Bytes word Frac frac whole)
open Vatmsa (pairWord operate byRule)
section
variable {P : Program} {w : World} {K : PySem.W.Frag} {mg : Str → Option Value} {base : Heap}
abbrev s_of_one : Stmt := top 81
abbrev n_of_one : List Str := ["expression", "row", "word", "time", "value"]
theorem sc_of_one : FnScope n_of_one ["expression", "row"] (defScope s_of_one) := ⟨rfl, rfl, rfl, by decide +kernel, rfl, by decide +kernel, by decide +kernel⟩
def p_of_one : List D → D → Prop := fun ds d => ∃ (B : Nat) (e : VExpr) (r : List VPoint), ds = [exprD e, rowD r] ∧ isOne e = true ∧ WfE e ∧ RwOk B r ∧ B ≤ 100000000 ∧ d = optRow (oneR e r)
abbrev FvOfOne (P : Program) (w : World) (K : PySem.W.Frag) (mg : Str → Option Value) (base : Heap) : Prop := Fv P w K mg base CX0 7 "of_one" ["expression", "row"] (PureP p_of_one)
theorem f_of_one (F : Fa K mg "of_one" s_of_one) (hfilled : Fv P w K mg base CX0 6 "filled" ["row", "word"] (PureP p_filled)) (hwindowed : Fv P w K mg base CX0 6 "windowed" ["row", "length", "word"] (PureP p_windowed))
    (hdifferences : Fv P w K mg base CX0 5 "differences" ["row"] (PureP p_differences)) (hsums : Fv P w K mg base CX0 4 "sums" ["row"] (PureP p_sums)) (heach_value : Fv P w K mg base CX0 4 "each_value" ["row", "word", "own"] (PureP p_each_value)) : FvOfOne P w K mg base := by
  refine fa_fv F (fun _ _ _ _ _ _ us hl => match us, hl with | [_, _], _ => rfl) fun f fd F => fn0 F sc_of_one (fun Γ r ⟨ds, d, e, _, B, x, y, e2, _⟩ => by subst e; subst e2; rfl) ?_
  have nd := sc_of_one.nd
  rintro cdv A outer s H E _ _ hr ⟨_, _, rfl, rfl, B, e, r, rfl, ho, hw, ok, hB, rfl⟩
  have hz : sizeLine = 16777216 := sizeLine_eq
  have hl := ok.len
  refine ss_cons (ss 2 nd (w_ix (wv 0 rfl (w_int ⟨_, ix_expr0, ?_⟩))))
  refine ss_cons (s_if (t_cmp (wv 2 rfl (w_str ⟨_, o_eqS, ⟨fun hT => ?_, fun hF => ss_nil ?_⟩⟩))))
  · rw [dec_word lit_shift] at hT
    have : ∃ a k, e = .shift a k := by cases e <;> first | exact ⟨_, _, rfl⟩ | (cases ho; done) | exact absurd (of_decide_eq_true hT) (by show ¬ word _ = word _; decide)
    obtain ⟨a, k, rfl⟩ := this
    refine ss_one (s_ret (w_new (wlc [("time", 3), ("value", 4)] [3, 4] ptD (fun x => true) (fun x => D.tup [.int (x.t + k), optFd x.v]) nd (blkOk_by (by show blkC n_of_one (defScope s_of_one) _ _ = true; decide +kernel)) (i_list (wv 1 rfl ⟨_, rfl, ⟨r, rfl, by omega, ?_, ?_⟩⟩)))))
    · refine fin_eq (ds := [exprD (.shift a k), rowD r]) ?_
      rw [List.filter_eq_self.mpr (fun _ _ => rfl)]
      show D.lst _ = D.lst ((Vatmsa.shifted r k).map ptD)
      unfold Vatmsa.shifted
      rw [List.map_map]; rfl
    · intro x hx
      exact ⟨_, fun s H0 C cl fp => (g1_tup rfl (gs_cons (gn 3 nd (gs_cons (gn 4 nd (gs_nil rfl)))))), fun s H0 C cl fp => ⟨rfl, rfl⟩, fun _ s H0 C cl fp => (w_tup (d_cons (w_bin (wv 3 rfl (w_ix (wv 0 rfl (w_int ⟨_, (ix2_tup rfl), ⟨_, o_addI, (d_cons (wv 4 rfl (d_nil ⟨len_le, rfl⟩)))⟩⟩)))))))⟩
  rw [dec_word lit_shift] at hF
  refine ss_cons (s_if (t_cmp (wv 2 rfl (w_str ⟨_, o_eqS, ⟨fun hT => ?_, fun hF2 => ss_nil ?_⟩⟩))))
  · rw [dec_word lit_fill] at hT
    have : ∃ a k, e = .fill a k := by cases e <;> first | exact ⟨_, _, rfl⟩ | (cases ho; done) | exact absurd (of_decide_eq_true hT) (by show ¬ word _ = word _; decide)
    obtain ⟨a, k, rfl⟩ := this
    exact ss_one (s_ret (w_callP hfilled (hr.mono (by decide)) rfl pass (d_cons (wv 1 rfl (d_cons (w_ix (wv 0 rfl (w_int ⟨_, (ix2_tup rfl), (d_nil ⟨_, ⟨B, r, k, rfl, ok, hB, rfl⟩, fin_eq rfl⟩)⟩))))))))
  rw [dec_word lit_fill] at hF2
  refine ss_cons (s_if (t_cmp (wv 2 rfl (w_str ⟨_, o_eqS, ⟨fun hT => ?_, fun hF3 => ss_nil ?_⟩⟩))))
  · rw [dec_word lit_window] at hT
    have : ∃ a k o, e = .window a k o := by cases e <;> first | exact ⟨_, _, _, rfl⟩ | (cases ho; done) | exact absurd (of_decide_eq_true hT) (by show ¬ word _ = word _; decide)
    obtain ⟨a, k, o, rfl⟩ := this
    exact ss_one (s_ret (w_callP hwindowed (hr.mono (by decide)) rfl pass (d_cons (wv 1 rfl (d_cons (w_ix (wv 0 rfl (w_int ⟨_, (ix2_tup rfl), (d_cons (w_ix (wv 0 rfl (w_int ⟨_, (ix2_tup rfl), (d_nil ⟨_, ⟨B, r, k, o, rfl, ok, hB, hw.2.1, hw.2.2, rfl⟩, fin_eq rfl⟩)⟩))))⟩))))))))
  rw [dec_word lit_window] at hF3
  refine ss_cons (s_if (t_cmp (wv 2 rfl (w_str ⟨_, o_eqS, ⟨fun hT => ?_, fun hF4 => ss_nil ?_⟩⟩))))
  · rw [dec_word lit_diff] at hT
    have : ∃ a, e = .diff a := by cases e <;> first | exact ⟨_, rfl⟩ | (cases ho; done) | exact absurd (of_decide_eq_true hT) (by show ¬ word _ = word _; decide)
    obtain ⟨a, rfl⟩ := this
    exact ss_one (s_ret (w_callP hdifferences (hr.mono (by decide)) rfl pass (d_cons (wv 1 rfl (d_nil ⟨_, ⟨B, r, rfl, ok, rfl⟩, fin_eq rfl⟩)))))
  rw [dec_word lit_diff] at hF4
  refine ss_cons (s_if (t_cmp (wv 2 rfl (w_str ⟨_, o_eqS, ⟨fun hT => ?_, fun hF5 => ss_nil ?_⟩⟩))))
  · rw [dec_word lit_run] at hT
    have : ∃ a, e = .run a := by cases e <;> first | exact ⟨_, rfl⟩ | (cases ho; done) | exact absurd (of_decide_eq_true hT) (by show ¬ word _ = word _; decide)
    obtain ⟨a, rfl⟩ := this
    exact ss_one (s_ret (w_callP hsums (hr.mono (by decide)) rfl pass (d_cons (wv 1 rfl (d_nil ⟨_, ⟨B, r, rfl, ok, rfl⟩, fin_eq rfl⟩)))))
  rw [dec_word lit_run] at hF5
  have : ∃ a c, e = .scale a c ∨ e = .over a c := by
    cases e <;> first | exact ⟨_, _, .inl rfl⟩ | exact ⟨_, _, .inr rfl⟩ | (cases ho; done) | exact (of_decide_eq_false hF rfl).elim | exact (of_decide_eq_false hF2 rfl).elim | exact (of_decide_eq_false hF3 rfl).elim | exact (of_decide_eq_false hF4 rfl).elim | exact (of_decide_eq_false hF5 rfl).elim
  obtain ⟨a, c, rfl | rfl⟩ := this
  · exact ss_one (s_ret (w_callP heach_value (hr.mono (by decide)) rfl pass (d_cons (wv 1 rfl (d_cons (wv 2 rfl (d_cons (w_ix (wv 0 rfl (w_int ⟨_, (ix2_tup rfl), (d_nil ⟨_, ⟨B, r, word "scale", c, rfl, ok, hw.2.vok.bd, rfl⟩, fin_eq (by rw [if_pos rfl]; rfl)⟩)⟩))))))))))
  · exact ss_one (s_ret (w_callP heach_value (hr.mono (by decide)) rfl pass (d_cons (wv 1 rfl (d_cons (wv 2 rfl (d_cons (w_ix (wv 0 rfl (w_int ⟨_, (ix2_tup rfl), (d_nil ⟨_, ⟨B, r, word "over", c, rfl, ok, hw.2.vok.bd, rfl⟩, fin_eq (by rw [if_neg (by decide)]; rfl)⟩)⟩))))))))))
end
end Fp

set_option Elab.async false
set_option linter.all false
set_option maxRecDepth 100000
set_option maxHeartbeats 2000000
namespace Fp
open PySem PySem.Spec PyProof.Rows L2 Dl
open VatmsBase (Bytes word Frac frac whole)
open Vatmsa (pairWord operate byRule meaning rowIn namesE)
theorem two_word (e : VExpr) : decide (strB (wordE e) ∈ twoW.map strB) = (twoOf e).isSome := by
  rw [mem_strB]
  cases e with
  | pair o a b => cases o <;> (show List.contains _ (word _) = true; decide)
  | asof a b => show List.contains _ (word _) = true; decide
  | merge a b => show List.contains _ (word _) = true; decide
  | _ => show List.contains _ (word _) = false; decide
theorem names_of_sub {e a : VExpr} (hn : isNm e = false) (ha : a ∈ subs e) {x : VatmsBase.PName} (hx : x ∈ namesE a) : x ∈ namesE e := by
  rw [names_subs hn]; exact List.mem_flatMap.mpr ⟨a, ha, hx⟩
section
variable {P : Program} {w : World} {K : PySem.W.Frag} {mg : Str → Option Value} {base : Heap}
abbrev s_worked_out : Stmt := top 82
abbrev n_worked_out : List Str := ["expression", "known", "row", "other", "found"]
theorem sc_worked_out : FnScope n_worked_out ["expression", "known"] (defScope s_worked_out) := ⟨rfl, rfl, rfl, by decide +kernel, rfl, by decide +kernel, by decide +kernel⟩
def nmK (b : Bytes) : Key := .inr (strB b)
def p_worked_out (n : Nat) : List D → D → Prop := fun ds d => ∃ (e : VExpr) (B : Nat) (l : Vatmsa.Rows) (kvs : List (Key × D)), ds = [exprD e, .dct kvs] ∧ dep e ≤ n ∧ WfE e ∧ (∀ x ∈ l, RwOk B x.2) ∧ B + 100000 * n ≤ 100000000 ∧ (∀ x ∈ namesE e, valD kvs (nmK x.name) = some (optRow (rowIn l x.name))) ∧ d = optRow (meaning l e)
theorem f_worked_out (F : Fa K mg "worked_out" s_worked_out) (hof_two : FvOfTwo P w K mg base) (hof_one : FvOfOne P w K mg base) (hcomes : Fv P w K mg base CX0 1 "comes" ["row"] (PureP p_comes)) (gTwo : Glo K mg "TWO" (.tup ((twoW.map strB).map D.str))) : ∀ n, Fv P w K mg base CX0 (8 + n) "worked_out" ["expression", "known"] (PureP (p_worked_out n))
  | 0 => by
    refine fa_fv F (fun _ _ _ _ _ _ us hl => match us, hl with | [_, _], _ => rfl) fun f fd F => fn0 F sc_worked_out (fun Γ r ⟨ds, d, e, _, x, B, l, kvs, e2, _⟩ => by subst e; subst e2; rfl) ?_
    rintro cdv A outer s H E _ _ hr ⟨_, _, rfl, rfl, e, B, l, kvs, rfl, hd, _⟩
    cases e <;> simp [dep] at hd
  | n + 1 => by
    have ih := f_worked_out F hof_two hof_one hcomes gTwo n
    have r1 : 1 ≤ 8 + n := by omega
    have r2 : 8 + n ≤ 8 + n := Nat.le_refl _
    have r5 : 5 ≤ 8 + n := by omega
    have r7 : 7 ≤ 8 + n := by omega
    refine fa_fv F (fun _ _ _ _ _ _ us hl => match us, hl with | [_, _], _ => rfl) fun f fd F => fn0 F sc_worked_out (fun Γ r ⟨ds, d, e, _, x, B, l, kvs, e2, _⟩ => by subst e; subst e2; rfl) ?_
    have nd := sc_worked_out.nd
    rintro cdv A outer s H E _ _ hr ⟨_, _, rfl, rfl, e, B, l, kvs, rfl, hd, hw, hl, hB, hk, rfl⟩
    have hu := Nat.lt_of_le_of_lt (Nat.add_le_add_left (show 1 ≤ 64 by decide) _) hr.units
    refine ss_cons (s_if (t_cmp (w_ix (wv 0 rfl (w_int ⟨_, ix_expr0, (w_str ⟨_, o_eqS, ⟨fun hT => ?_, fun hF => ss_nil ?_⟩⟩)⟩)))))
    · rw [wordE_is] at hT
      cases e with
      | name x => exact ss_one (s_ret (w_dget hu (wv 1 rfl ⟨_, rfl, (w_ix (wv 0 rfl (w_int ⟨_, (ix2_tup rfl), ⟨nmK x.name, _, rfl, hk x List.mem_cons_self, fin_eq (ds := [exprD (.name x), .dct kvs]) rfl⟩⟩)))⟩)))
      | _ => cases hT
    rw [wordE_is] at hF
    have es := expr_shape hF
    have fin : ∀ (o : Option (List VPoint)) (s2 s3 : Sl), meaning l e = keep o → WpSs (cxOf CX0 P w K mg base n_worked_out "worked_out" (defScope s_worked_out) f cdv A outer s H E).nox E0 noX ((defBody s_worked_out).drop 4) [.im (exprD e), .im (.dct kvs), s2, s3, .im (optRow o)] (retR [.im (exprD e), .im (.dct kvs)] (.ok (optRow (meaning l e)) [.im (exprD e), .im (.dct kvs)])) := fun o s2 s3 em => by
      rw [em]
      cases o with
      | none => exact ss_one (s_ret (w_if (t_bool (tw_and (t_cmp (wv 4 rfl (w_none ⟨_, o_isnot, ⟨fun hF => ⟨fun hT => (Bool.false_ne_true hT).elim, fun _ => (w_none (fin_eq (ds := [exprD e, .dct kvs]) rfl))⟩, fun hT => (nomatch hT)⟩⟩)))))))
      | some r =>
        refine ss_one (s_ret (w_if (t_bool (tw_and (t_cmp (wv 4 rfl (w_none ⟨_, o_isnot, ⟨fun hF => (nomatch hF), fun hT => (tw_and1 (t_val (w_callP hcomes (hr.mono r1) rfl pass (d_cons (wv 4 rfl (d_nil ⟨_, ⟨r, rfl, rfl⟩, ⟨_, rfl, ⟨fun hT => (wv 4 rfl (fin_eq (ds := [exprD e, .dct kvs]) ?_)), fun hF => (w_none (fin_eq (ds := [exprD e, .dct kvs]) ?_))⟩⟩⟩))))))⟩⟩)))))))
        · show rowD r = optRow (if comesB r = true then some r else none)
          rw [if_pos hT]; rfl
        · show D.non = optRow (if comesB r = true then some r else none)
          rw [if_neg (by rw [hF]; decide)]; rfl
    rcases name_one_two e with hn | ⟨a, hs, ho, ht⟩ | ⟨a, b, k, hs, ho, ht, hwd⟩
    · rw [hn] at hF; cases hF
    · have i1 : Ix2 (cxOf CX0 P w K mg base n_worked_out "worked_out" (defScope s_worked_out) f cdv A outer s H E).nox (exprD e) (.int 1) (exprD a) := by
        rw [es, hs]; exact ix2_tup (atN (j := 1) rfl rfl)
      have am : a ∈ subs e := by rw [hs]; exact List.mem_cons_self
      have da := dep_subs hd a am
      have wa := wf_subs hw a am
      have n0 : ∃ m, n = m + 1 := by cases n with
        | zero => cases a <;> simp [dep] at da
        | succ m => exact ⟨m, rfl⟩
      obtain ⟨m, em⟩ := n0
      have oka := mean_ok hl m a (by omega) wa
      have me := mean_one ho hs hw oka
      refine ss_cons (ss 2 nd (w_callP ih (hr.mono r2) rfl pass (d_cons (w_ix (wv 0 rfl (w_int ⟨_, i1, (d_cons (wv 1 rfl (d_nil ⟨_, ⟨a, B, l, kvs, rfl, da, wa, hl, by omega, fun x hx => hk x (names_of_sub hF am hx), rfl⟩, ?_⟩)))⟩))))))
      cases hm : meaning l a with
      | none =>
        rw [hm] at me
        refine ss_cons (s_if (t_cmp (wv 2 rfl (w_none ⟨_, o_is, ⟨fun hT => ?_, fun hF => (nomatch hF)⟩⟩))))
        refine ss_one (s_ret (w_none (fin_eq (ds := [exprD e, .dct kvs]) ?_)))
        rw [me]; rfl
      | some r =>
        rw [hm] at me
        refine ss_cons (s_if (t_cmp (wv 2 rfl (w_none ⟨_, o_is, ⟨fun hT => (nomatch hT), fun hF => ss_nil ?_⟩⟩))))
        refine ss_cons (s_if (t_cmp (w_ix (wv 0 rfl (w_int ⟨_, ix_expr0, (w_glob gTwo rfl ⟨_, o_inST, ⟨fun hT => ?_, fun hF => ?_⟩⟩)⟩)))))
        · rw [two_word, ht] at hT; cases hT
        · exact ss_one (ss 4 nd (w_callP hof_one (hr.mono r7) rfl pass (d_cons (wv 0 rfl (d_cons (wv 2 rfl (d_nil ⟨_, ⟨B + 100000 * m, e, r, rfl, ho, hw, oka r hm, by omega, rfl⟩, fin (oneR e r) _ _ me⟩)))))))
    · have i1 : Ix2 (cxOf CX0 P w K mg base n_worked_out "worked_out" (defScope s_worked_out) f cdv A outer s H E).nox (exprD e) (.int 1) (exprD a) := by
        rw [es, hs]; exact ix2_tup (atN (j := 1) rfl rfl)
      have i2 : Ix2 (cxOf CX0 P w K mg base n_worked_out "worked_out" (defScope s_worked_out) f cdv A outer s H E).nox (exprD e) (.int 2) (exprD b) := by
        rw [es, hs]; exact ix2_tup (atN (j := 2) rfl rfl)
      have i0 : Ix2 (cxOf CX0 P w K mg base n_worked_out "worked_out" (defScope s_worked_out) f cdv A outer s H E).nox (exprD e) (.int 0) (.str (strB (twoB k))) := by
        rw [← hwd]; exact ix_expr0
      have am : a ∈ subs e := by rw [hs]; exact List.mem_cons_self
      have bm : b ∈ subs e := by rw [hs]; simp
      have da := dep_subs hd a am
      have wa := wf_subs hw a am
      have db := dep_subs hd b bm
      have wb := wf_subs hw b bm
      have n0 : ∃ m, n = m + 1 := by cases n with
        | zero => cases a <;> simp [dep] at da
        | succ m => exact ⟨m, rfl⟩
      obtain ⟨m, em⟩ := n0
      have oka := mean_ok hl m a (by omega) wa
      have okb := mean_ok hl m b (by omega) wb
      have me := mean_two ht hs oka okb
      refine ss_cons (ss 2 nd (w_callP ih (hr.mono r2) rfl pass (d_cons (w_ix (wv 0 rfl (w_int ⟨_, i1, (d_cons (wv 1 rfl (d_nil ⟨_, ⟨a, B, l, kvs, rfl, da, wa, hl, by omega, fun x hx => hk x (names_of_sub hF am hx), rfl⟩, ?_⟩)))⟩))))))
      cases hm : meaning l a with
      | none =>
        rw [hm] at me
        refine ss_cons (s_if (t_cmp (wv 2 rfl (w_none ⟨_, o_is, ⟨fun hT => ?_, fun hF => (nomatch hF)⟩⟩))))
        refine ss_one (s_ret (w_none (fin_eq (ds := [exprD e, .dct kvs]) ?_)))
        rw [me]; rfl
      | some r =>
        rw [hm] at me
        refine ss_cons (s_if (t_cmp (wv 2 rfl (w_none ⟨_, o_is, ⟨fun hT => (nomatch hT), fun hF => ss_nil ?_⟩⟩))))
        refine ss_cons (s_if (t_cmp (w_ix (wv 0 rfl (w_int ⟨_, ix_expr0, (w_glob gTwo rfl ⟨_, o_inST, ⟨fun hT => ?_, fun hF => ?_⟩⟩)⟩)))))
        · refine ss_cons (ss 3 nd (w_callP ih (hr.mono r2) rfl pass (d_cons (w_ix (wv 0 rfl (w_int ⟨_, i2, (d_cons (wv 1 rfl (d_nil ⟨_, ⟨b, B, l, kvs, rfl, db, wb, hl, by omega, fun x hx => hk x (names_of_sub (by assumption) bm hx), rfl⟩, ?_⟩)))⟩))))))
          cases hm2 : meaning l b with
          | none =>
            rw [hm2] at me
            refine ss_cons (s_if (t_cmp (wv 3 rfl (w_none ⟨_, o_is, ⟨fun hT => ?_, fun hF => (nomatch hF)⟩⟩))))
            refine ss_one (s_ret (w_none (fin_eq (ds := [exprD e, .dct kvs]) ?_)))
            rw [me]; rfl
          | some r' =>
            rw [hm2] at me
            refine ss_cons (s_if (t_cmp (wv 3 rfl (w_none ⟨_, o_is, ⟨fun hT => (nomatch hT), fun hF => ss_nil ?_⟩⟩))))
            exact ss_one (ss 4 nd (w_callP hof_two (hr.mono r5) rfl pass (d_cons (w_ix (wv 0 rfl (w_int ⟨_, i0, (d_cons (wv 2 rfl (d_cons (wv 3 rfl (d_nil ⟨_, ⟨k, B + 100000 * m, B + 100000 * m, r, r', rfl, oka r hm, okb r' hm2, rfl⟩, fin (some (twoR k r r')) _ _ me⟩)))))⟩))))))
        · rw [two_word, ht] at hF; cases hF
end
end Fp

set_option Elab.async false
set_option linter.all false
set_option maxRecDepth 100000
set_option maxHeartbeats 2000000
namespace Fp
open PySem PySem.Spec PyProof.Rows L2 Dl
open VatmsBase (Bytes word Frac frac whole)
open Vatmsa (meaning rowIn namesE Series Let Prog inputs grow rowsOf namesOf unknown checkS checkL)
theorem ni_row (r : List VPoint) : NI (rowD r) := .lst (.map fun q _ => .tup (.cons (.int _) (.cons (by cases q.v with
  | none => exact .non
  | some f => exact .tup (.cons (.int _) (.cons (.int _) .nil))) .nil)))
theorem ni_opt (o : Option (List VPoint)) : NI (optRow o) := by
  cases o with
  | none => exact .non
  | some r => exact ni_row r
/-! ### the names and the rows of a program -/
theorem rowIn_app (l : Vatmsa.Rows) (x : Bytes) (r : List VPoint) (b : Bytes) : rowIn (l ++ [(x, r)]) b = match rowIn l b with
    | some s => some s
    | none => if x = b then some r else none := by
  unfold rowIn
  rw [List.find?_append]
  cases h : l.find? (fun z => z.1 == b) with
  | some y => rfl
  | none =>
    rw [Option.none_or, List.find?_cons]
    by_cases e : x = b
    · rw [show ((x, r).1 == b) = true by simpa using e]
      show some r = if x = b then some r else none
      rw [if_pos e]
    · rw [show ((x, r).1 == b) = false by simpa using e]
      show none = if x = b then some r else none
      rw [if_neg e]
theorem rowIn_none {l : Vatmsa.Rows} {ns : List Bytes} (h : ∀ x ∈ l, x.1 ∈ ns) {b : Bytes} (hb : b ∉ ns) : rowIn l b = none := by
  unfold rowIn
  rw [List.find?_eq_none.mpr fun x hx z => hb (by rw [← beq_iff_eq.mp z]; exact h x hx)]
  rfl
theorem grow_keep {l : Vatmsa.Rows} {ns : List Bytes} (x : Let) (hx : x.x.name ∉ ns) {b : Bytes} (hb : b ∈ ns) : rowIn (grow l x) b = rowIn l b := by
  unfold grow
  cases meaning l x.e with
  | none => rfl
  | some r =>
    show rowIn (l ++ [(x.x.name, r)]) b = _
    rw [rowIn_app]
    cases rowIn l b with
    | some s => rfl
    | none =>
      show (if x.x.name = b then some r else none) = none
      rw [if_neg fun z => hx (by rw [z]; exact hb)]
theorem grow_new_row {l : Vatmsa.Rows} {ns : List Bytes} (h : ∀ x ∈ l, x.1 ∈ ns) (x : Let) (hx : x.x.name ∉ ns) : rowIn (grow l x) x.x.name = meaning l x.e := by
  unfold grow
  cases e : meaning l x.e with
  | none => exact rowIn_none h hx
  | some r =>
    show rowIn (l ++ [(x.x.name, r)]) x.x.name = _
    rw [rowIn_app, rowIn_none h hx]
    exact if_pos rfl
theorem grow_sub {l : Vatmsa.Rows} {ns : List Bytes} (h : ∀ x ∈ l, x.1 ∈ ns) (x : Let) : ∀ z ∈ grow l x, z.1 ∈ ns ++ [x.x.name] := by
  unfold grow
  cases e : meaning l x.e with
  | none => exact fun z hz => List.mem_append_left _ (h z hz)
  | some r =>
    intro z hz
    rcases List.mem_append.mp hz with hz | hz
    · exact List.mem_append_left _ (h z hz)
    · rw [List.mem_singleton.mp hz]; simp
theorem grow_ok {l : Vatmsa.Rows} {B : Nat} (h : ∀ x ∈ l, RwOk B x.2) (x : Let) (hd : dep x.e ≤ 7) (hw : WfE x.e) : ∀ z ∈ grow l x, RwOk (B + 600000) z.2 := by
  unfold grow
  cases e : meaning l x.e with
  | none => exact fun z hz => (h z hz).mono (Nat.le_add_right _ _)
  | some r =>
    intro z hz
    rcases List.mem_append.mp hz with hz | hz
    · exact (h z hz).mono (Nat.le_add_right _ _)
    · rw [List.mem_singleton.mp hz]
      exact mean_ok h 6 x.e hd hw r e
theorem contains_false {ns : List Bytes} {b : Bytes} (h : ¬ ns.contains b = true) : b ∉ ns := fun z => h (List.contains_iff_mem.mpr z)
theorem checkS_ok : ∀ (l : List Series) (ns ms : List Bytes), checkS ns l = .ok ms → ms = ns ++ l.map (fun s => s.x.name) ∧ (ns.Nodup → ms.Nodup)
  | [], ns, ms, h => by cases h; exact ⟨(List.append_nil _).symm, id⟩
  | s :: l, ns, ms, h => by
    have h : (if ns.contains s.x.name = true then (Except.error ⟨5, s.x.place⟩ : Except VF (List Bytes)) else checkS (ns ++ [s.x.name]) l) = .ok ms := h
    split at h
    · cases h
    · rename_i hc
      obtain ⟨h1, h2⟩ := checkS_ok l _ ms h
      refine ⟨by rw [h1, List.append_assoc]; rfl, fun nd => h2 (List.nodup_append.mpr ⟨nd, by simp, fun a ha b hb e => contains_false hc ?_⟩)⟩
      rw [List.mem_singleton] at hb
      rw [← hb, ← e]; exact ha
theorem checkL_cons {ns : List Bytes} {x : Let} {l : List Let} (h : checkL ns (x :: l) = .ok ()) : x.x.name ∉ ns ∧ (∀ y ∈ namesE x.e, y.name ∈ ns) ∧ checkL (ns ++ [x.x.name]) l = .ok () := by
  have h : (if ns.contains x.x.name = true then (Except.error ⟨5, x.x.place⟩ : Except VF Unit) else match unknown ns x.e with
    | some y => .error ⟨8, y.place⟩
    | none => checkL (ns ++ [x.x.name]) l) = .ok () := h
  split at h
  · cases h
  · rename_i hc
    cases hu : unknown ns x.e with
    | some y => rw [hu] at h; cases h
    | none =>
      rw [hu] at h
      refine ⟨contains_false hc, fun y hy => ?_, h⟩
      have := List.find?_eq_none.mp hu y hy
      simpa using this
theorem rowIn_ins : ∀ {l : List Series}, (l.map fun s => s.x.name).Nodup → ∀ s ∈ l, rowIn (l.map fun s => (s.x.name, s.row)) s.x.name = some s.row
  | [], _, s, hs => nomatch hs
  | a :: l, nd, s, hs => by
    rw [List.map_cons, List.nodup_cons] at nd
    unfold rowIn
    rw [List.map_cons, List.find?_cons]
    rcases List.mem_cons.mp hs with e | e
    · subst e
      simp
    · have ne : a.x.name ≠ s.x.name := fun z => nd.1 (by rw [z]; exact List.mem_map_of_mem e)
      rw [show ((a.x.name, a.row).1 == s.x.name) = false by simpa using ne]
      exact rowIn_ins nd.2 s e
/-- all rows, in the order of the names; none that doesn't come -/
def rowsAll (p : Prog) : List (Option (List VPoint)) := (namesOf p).map (rowIn (rowsOf p))
/-- what is known after some lets -/
structure KnSt (pr : Prog) (pre rest : List Let) (ns : List Bytes) (l : Vatmsa.Rows) : Prop where
  all : pre ++ rest = pr.lets
  en : ns = pr.ins.map (fun s => s.x.name) ++ pre.map (fun x => x.x.name)
  el : l = pre.foldl grow (inputs pr)
  sub : ∀ x ∈ l, x.1 ∈ ns
  ok : ∀ x ∈ l, RwOk (100000 + 600000 * pre.length) x.2
  chk : checkL ns rest = .ok ()
def kvN (ns : List Bytes) (l : Vatmsa.Rows) : List (Key × D) := ns.map fun b => (nmK b, optRow (rowIn l b))
theorem nmK_inj {a b : Bytes} (h : nmK a = nmK b) : a = b := strB_inj (Sum.inr.inj h)
theorem val_kvN {ns : List Bytes} {l : Vatmsa.Rows} {b : Bytes} (h : b ∈ ns) : valD (kvN ns l) (nmK b) = some (optRow (rowIn l b)) := by
  unfold valD kvN
  induction ns with
  | nil => cases h
  | cons a ns ih =>
    rw [List.map_cons, List.find?_cons]
    by_cases e : a = b
    · subst e
      rw [show decide ((nmK a, optRow (rowIn l a)).1 = nmK a) = true from decide_eq_true rfl]; rfl
    · rw [show decide ((nmK a, optRow (rowIn l a)).1 = nmK b) = false from decide_eq_false fun z => e (nmK_inj z)]
      exact ih ((List.mem_cons.mp h).resolve_left fun z => e z.symm)
theorem put_newD {kvs : List (Key × D)} {k : Key} {v : D} (h : k ∉ kvs.map (·.1)) : putKD kvs k v = kvs ++ [(k, v)] := by
  unfold putKD
  rw [if_neg]
  intro z
  obtain ⟨kv, hk, e⟩ := List.any_eq_true.mp z
  exact h (by rw [← of_decide_eq_true e]; exact List.mem_map_of_mem hk)
theorem nmK_notin {ns : List Bytes} {b : Bytes} (h : b ∉ ns) {g : Bytes → D} : nmK b ∉ (ns.map fun b => (nmK b, g b)).map (·.1) := by
  rw [List.map_map]
  intro z
  obtain ⟨a, ha, e⟩ := List.mem_map.mp z
  exact h (nmK_inj e ▸ ha)
theorem KnSt.first {pr : Prog} (ok : PrOk pr) (hc : checkNames pr = .ok ()) : KnSt pr [] pr.lets (pr.ins.map fun s => s.x.name) (inputs pr) ∧ (pr.ins.map fun s => s.x.name).Nodup := by
  have hc : ((checkS [] pr.ins).bind fun ns => checkL ns pr.lets) = .ok () := hc
  cases h : checkS [] pr.ins with
  | error e => rw [h] at hc; cases hc
  | ok ms =>
    rw [h] at hc
    obtain ⟨h1, h2⟩ := checkS_ok pr.ins [] ms h
    have h1 : ms = pr.ins.map fun s => s.x.name := h1
    subst h1
    refine ⟨⟨rfl, (List.append_nil _).symm, rfl, fun x hx => ?_, fun x hx => ?_, hc⟩, h2 .nil⟩
    · obtain ⟨s, hs, e⟩ := List.mem_map.mp hx
      rw [← e]; exact List.mem_map_of_mem hs
    · obtain ⟨s, hs, e⟩ := List.mem_map.mp hx
      rw [← e]
      have o := ok.ins s hs
      exact ⟨Nat.le_trans o.len (by decide), o.up, fun q hq => Nat.le_trans (o.tm q hq) (Nat.le_add_right _ _), fun q hq f hf => (o.sv q hq f hf).vok⟩
theorem KnSt.next {pr : Prog} (ok : PrOk pr) {pre rest : List Let} {x : Let} {ns : List Bytes} {l : Vatmsa.Rows} (h : KnSt pr pre (x :: rest) ns l) :
    KnSt pr (pre ++ [x]) rest (ns ++ [x.x.name]) (grow l x) ∧ x.x.name ∉ ns ∧ (∀ y ∈ namesE x.e, y.name ∈ ns) ∧ LetOk x ∧ pre.length < 8 ∧ kvN (ns ++ [x.x.name]) (grow l x) = kvN ns l ++ [(nmK x.x.name, optRow (meaning l x.e))] := by
  obtain ⟨c1, c2, c3⟩ := checkL_cons h.chk
  have hx : x ∈ pr.lets := by rw [← h.all]; simp
  have lo := ok.lets x hx
  have hl : pre.length < 8 := by
    have := ok.l
    rw [← h.all, List.length_append, List.length_cons] at this
    omega
  refine ⟨⟨by rw [List.append_assoc]; exact h.all, by rw [h.en, List.map_append, List.append_assoc]; rfl, by rw [List.foldl_append, ← h.el]; rfl, grow_sub h.sub x, fun z hz => (grow_ok h.ok x lo.dp lo.wf z hz).mono (by rw [List.length_append]; show _ ≤ 100000 + 600000 * (pre.length + 1); omega), c3⟩, c1, c2, lo, hl, ?_⟩
  unfold kvN
  rw [List.map_append]
  congr 1
  · exact List.map_congr_left fun b hb => by rw [grow_keep x c1 hb]
  · show [(nmK x.x.name, optRow (rowIn (grow l x) x.x.name))] = _
    rw [grow_new_row h.sub x c1]
theorem KnSt.done {pr : Prog} {pre : List Let} {ns : List Bytes} {l : Vatmsa.Rows} (h : KnSt pr pre [] ns l) : l = rowsOf pr ∧ ns = namesOf pr ∧ (kvN ns l).map (·.2) = (rowsAll pr).map optRow := by
  have e : pre = pr.lets := by have := h.all; rw [List.append_nil] at this; exact this
  subst e
  have e1 : l = rowsOf pr := h.el
  have e2 : ns = namesOf pr := h.en
  refine ⟨e1, e2, ?_⟩
  unfold kvN rowsAll
  rw [List.map_map, List.map_map, e1, e2]; rfl
theorem KnSt.run {pr : Prog} (ok : PrOk pr) : ∀ (rest pre : List Let) (ns : List Bytes) (l : Vatmsa.Rows), KnSt pr pre rest ns l → ∃ pre' ns' l', KnSt pr pre' [] ns' l'
  | [], pre, ns, l, h => ⟨_, _, _, h⟩
  | x :: rest, pre, ns, l, h => KnSt.run ok rest _ _ _ (KnSt.next ok h).1
theorem rows_ok {pr : Prog} (ok : PrOk pr) (hc : checkNames pr = .ok ()) : ∀ r, some r ∈ rowsAll pr → RwOk 10000000 r := by
  obtain ⟨pre, ns, l, h⟩ := KnSt.run ok _ _ _ _ (KnSt.first ok hc).1
  obtain ⟨e1, e2, _⟩ := h.done
  intro r hr
  unfold rowsAll at hr
  obtain ⟨b, hb, e⟩ := List.mem_map.mp hr
  rw [← e1] at e
  unfold rowIn at e
  cases hf : l.find? (fun z => z.1 == b) with
  | none => rw [hf] at e; cases e
  | some y =>
    rw [hf] at e
    cases e
    refine (h.ok y (List.mem_of_find?_eq_some hf)).mono ?_
    have : pre = pr.lets := by have := h.all; rw [List.append_nil] at this; exact this
    have hl := ok.l
    rw [← this] at hl
    omega
section
variable {P : Program} {w : World} {K : PySem.W.Frag} {mg : Str → Option Value} {base : Heap} {PC : Addr}
abbrev s_all_rows : Stmt := top 83
abbrev n_all_rows : List Str := ["program", "known", "name", "points", "place", "expression"]
theorem sc_all_rows : FnScope n_all_rows ["program"] (defScope s_all_rows) := ⟨rfl, rfl, rfl, by decide +kernel, rfl, by decide +kernel, by decide +kernel⟩
def p_all_rows (PC : Addr) : List D → D → Prop := fun ds d => ∃ pr : Prog, ds = [progD PC pr] ∧ PrOk pr ∧ checkNames pr = .ok () ∧ d = .lst ((rowsAll pr).map optRow)
abbrev FvRows (P : Program) (w : World) (K : PySem.W.Frag) (mg : Str → Option Value) (base : Heap) (PC : Addr) : Prop := Fv P w K mg base CX0 16 "all_rows" ["program"] (PureP (p_all_rows PC))
theorem f_all_rows (F : Fa K mg "all_rows" s_all_rows) (cP : PrC K PC) (hwo : Fv P w K mg base CX0 15 "worked_out" ["expression", "known"] (PureP (p_worked_out 7))) (nlist : mg "list" = none) : FvRows P w K mg base PC := by
  refine fa_fv F (fun _ _ _ _ _ _ us hl => match us, hl with | [_], _ => rfl) fun f fd F => fn0 F sc_all_rows (fun Γ r ⟨ds, d, e, _, pr, e2, _⟩ => by subst e; subst e2; rfl) ?_
  have nd := sc_all_rows.nd
  rintro cdv A outer s H E _ _ hr ⟨_, _, rfl, rfl, pr, rfl, ok, hc, rfl⟩
  have hz : sizeLine = 16777216 := sizeLine_eq
  have hu := Nat.lt_of_le_of_lt (Nat.add_le_add_left (show 1 ≤ 64 by decide) _) hr.units
  obtain ⟨k0, nd0⟩ := KnSt.first ok hc
  refine ss_cons (ssN 1 nd (w_dnew fun pk => ?_))
  refine ss_cons (s_for (js := [2, 3, 4]) .never rfl (i_list (w_fld (wv 0 rfl ⟨PC, _, _, rfl, cP.c, cP.n1, rfl, ⟨_, rfl, ?_⟩⟩))))
  refine for_ind seriesD (fun (u : List Series × Sl × Sl × Sl) => [.im (progD PC pr), .own pk (.dct (u.1.map fun s => (nmK s.x.name, rowD s.row))), u.2.1, u.2.2.1, u.2.2.2, .un])
    (fun u rest => u.1 ++ rest = pr.ins) ?_ ?_ _ ([], .un, .un, .un) rfl
  · rintro ⟨pre, s1, s2, s3⟩ x rest h nx hn
    have h : pre ++ x :: rest = pr.ins := h
    have hnot : x.x.name ∉ pre.map fun s => s.x.name := by
      rw [← h, List.map_append, List.map_cons] at nd0
      intro z
      exact (List.nodup_append.mp nd0).2.2 _ z _ List.mem_cons_self rfl
    have hl : pre.length ≤ 4 := by
      have := ok.i
      rw [← h, List.length_append] at this
      omega
    have e1 : putKD (pre.map fun s => (nmK s.x.name, rowD s.row)) (nmK x.x.name) (rowD x.row) = (pre ++ [x]).map fun s => (nmK s.x.name, rowD s.row) := by
      rw [put_newD, List.map_append]
      · rfl
      · rw [List.map_map]
        intro z
        obtain ⟨s, hs, e⟩ := List.mem_map.mp z
        exact hnot (nmK_inj e ▸ List.mem_map_of_mem hs)
    refine (g1_tup rfl (gs_cons (gn 2 nd (gs_cons (gn 3 nd (gs_cons (gn 4 nd (gs_nil ?_))))))))
    refine ss_one (s_dput 1 hu rfl (.inl rfl) (w_callTy rfl nlist boot_list (d_cons (wv 3 rfl (d_nil ⟨_, c_listL, ⟨_, rfl, (wv 2 rfl ⟨_, nmK x.x.name, rfl, rfl, by show (List.map _ pre).length < _; rw [List.length_map]; omega, ?_⟩)⟩⟩)))))
    have := hn (pre ++ [x], .im (.str (strB x.x.name)), .im (rowD x.row), .im (Nd x.x.place)) (by rw [← h, List.append_assoc]; rfl)
    rw [← e1] at this
    exact this
  · rintro ⟨pre, s1, s2, s3⟩ h
    have h : pre ++ [] = pr.ins := h
    rw [List.append_nil] at h
    subst h
    have e1 : (pr.ins.map fun s => (nmK s.x.name, rowD s.row)) = kvN (pr.ins.map fun s => s.x.name) (inputs pr) := by
      unfold kvN
      rw [List.map_map]
      refine List.map_congr_left fun s hs => ?_
      show _ = (nmK s.x.name, optRow (rowIn (inputs pr) s.x.name))
      unfold inputs
      rw [rowIn_ins nd0 s hs]; rfl
    show WpSs _ _ _ _ [.im (progD PC pr), .own pk (.dct (pr.ins.map fun s => (nmK s.x.name, rowD s.row))), s1, s2, s3, .un] _
    rw [e1]
    refine ss_cons (s_for (js := [2, 5, 4]) .never rfl (i_list (w_fld (wv 0 rfl ⟨PC, _, _, rfl, cP.c, cP.n2, rfl, ⟨_, rfl, ?_⟩⟩))))
    refine for_ind letD (fun (u : List Let × List Bytes × Vatmsa.Rows × Sl × Sl × Sl) => [.im (progD PC pr), .own pk (.dct (kvN u.2.1 u.2.2.1)), u.2.2.2.1, s2, u.2.2.2.2.1, u.2.2.2.2.2])
      (fun u rest => KnSt pr u.1 rest u.2.1 u.2.2.1) ?_ ?_ _ ([], _, _, s1, s3, .un) k0
    · rintro ⟨pre, ns, l, t1, t2, t3⟩ x rest h nx hn
      have h : KnSt pr pre (x :: rest) ns l := h
      obtain ⟨h1, h2, h3, lo, hl, e2⟩ := KnSt.next ok h
      have e3 : putKD (kvN ns l) (nmK x.x.name) (optRow (meaning l x.e)) = kvN (ns ++ [x.x.name]) (grow l x) := by
        rw [e2]
        exact put_newD (nmK_notin h2)
      have hn0 : (kvN ns l).length ≤ 12 := by
        unfold kvN
        rw [List.length_map, h.en, List.length_append, List.length_map, List.length_map]
        have := ok.i
        omega
      refine (g1_tup rfl (gs_cons (gn 2 nd (gs_cons (gn 5 nd (gs_cons (gn 4 nd (gs_nil ?_))))))))
      refine ss_one (s_dput 1 hu rfl (.inl rfl) (w_seeD 1 rfl (w_callP hwo (hr.mono (by decide)) rfl pass (d_cons (wv 5 rfl (d_cons (wv 1 rfl (d_nil ⟨_, ⟨x.e, 100000 + 600000 * pre.length, l, kvN ns l, rfl, lo.dp, lo.wf, h.ok, by omega, fun y hy => val_kvN (h3 y hy), rfl⟩, ni_opt _, ⟨_, rfl, (wv 2 rfl ⟨_, nmK x.x.name, rfl, rfl, by show (kvN ns l).length < _; omega, ?_⟩)⟩⟩))))))))
      have := hn (pre ++ [x], ns ++ [x.x.name], grow l x, .im (.str (strB x.x.name)), .im (Nd x.x.place), .im (exprD x.e)) h1
      rw [← e3] at this
      exact this
    · rintro ⟨pre, ns, l, t1, t2, t3⟩ h
      have h : KnSt pr pre [] ns l := h
      refine ss_one (s_ret (w_new (w_listVals 1 rfl rfl nlist rfl (.inl rfl) rfl (fin_eq (ds := [progD PC pr]) ?_))))
      show D.lst ((kvN ns l).map (·.2)) = _
      rw [h.done.2.2]
end
end Fp

set_option Elab.async false
set_option linter.all false
set_option maxRecDepth 100000
set_option maxHeartbeats 4000000
namespace Dl
open PySem PySem.Spec PyProof.Rows L2
/-! ### lists of ints handed in -/
section
variable {X : Cx}
theorem arr_at {ns : List Int} {i : Int} {n : Int} (h : atI ns i = some n) : atI (ns.map V.int) i = some (.int n) := by
  unfold atI at h ⊢
  rw [List.length_map]
  cases hj : ixN ns.length i with
  | none => rw [hj] at h; cases h
  | some j =>
    rw [hj] at h
    have h : ns[j]? = some n := h
    show (ns.map V.int)[j]? = some (.int n)
    rw [List.getElem?_map, h]; rfl
theorem ix2_arr {ns : List Int} {i n : Int} (h : atI ns i = some n) : Ix2 X (.arr ns) (.int i) (.int n) := .of ix_list fun I H u v Q e r1 r2 k => by
  cases r1 with
  | arr h1 =>
    cases r2
    exact ⟨_, _, _, .int n, rfl, rfl, same_sqL e h1, arr_at h, k _ I H (.refl e) (.int n)⟩
theorem c_lenA {ns : List Int} : Cl X (.builtin "len") [.arr ns] (.int (ns.length : Nat)) := .of call_len_seq fun I H us Q e r k => by
  cases r with
  | cons r rr =>
    cases rr
    cases r with
    | arr h => exact ⟨_, _, rfl, .inl (same_sqL e h), by rw [List.length_map]; exact k _ I H (.refl e) (.int _)⟩
theorem rp_ints2 {K : PySem.W.Frag} {I : Hp} : ∀ zs : List Int, RpA K I (zs.map V.int) (zs.map D.int)
  | [] => .nil
  | z :: zs => .cons (.int z) (rp_ints2 zs)
theorem cut_map {α β : Type} (f : α → β) (l : List α) (lo hi : Option Int) : cutL (l.map f) lo hi = (cutL l lo hi).map f := by
  unfold cutL
  rw [List.length_map, List.map_take, List.map_drop] <;> rfl
theorem sl2_arr {ns : List Int} {lo hi : Option Int} : Sl2 X (.arr ns) lo hi (.lst ((cutL ns lo hi).map D.int)) := .of sl_list fun I H u Q e r1 k => by
  cases r1 with
  | arr h1 => exact ⟨_, _, rfl, same_sqL e h1, fun p hp => grow_new e k hp (.lst upd_same (by
    have := rp_ints2 (K := X.K) (I := upd I p (.lst (cutL (ns.map V.int) lo hi))) (cutL ns lo hi)
    rw [← cut_map] at this
    exact this))⟩
end
/-! ### list.index, freezing -/
section
variable {X : Cx} {E : XK} {XE : XS} {Γ : En} {R R' : D → En → Prop} {pos : Pos}
/-- own.index(k) -/
theorem flat_ints {l : List Int} : (l.map V.int).all flatV = true := by
  rw [List.all_map, List.all_eq_true]; intro x _; rfl
theorem w_index {o e : Expr} {apos : Pos} (h : Wp X E XE o Γ fun d Γ0 => ∃ ns : List Int, d = .lst (ns.map D.int) ∧ Wp X E XE e Γ0 fun d Γ1 => ∃ (z : Int) (j : Nat), d = .int z ∧ ns[j]? = some z ∧ (∀ m, m < j → ns[m]? ≠ some z) ∧ R (.int (j : Nat)) Γ1)
    (hb : attributeBase o "index" X.env (eval o X.env) = eval o X.env := by rfl) (hl : (apos.endLine == pos.line) = true := by rfl) (hs : starEach [e] X.env = (false, eval e X.env) :: starEach [] X.env := by rfl) : Wp X E XE (.Call (.Attribute o "index" apos) [e] [] pos) Γ R := by
  refine .of (pe_bm PySem.F.plainAttrs_list PySem.F.slot_list_index PySem.F.type_list_index mt_index (pe_sem X o) (pa_cons (pe_sem X e) pa_nil hs) hb (by rw [hs]; rfl) hl hs (by rfl)) fun σ I H Q a k x => h σ I H _ a (fun v I1 H1 d Γ0 ⟨ns, ed, h1⟩ s1 a1 r1 => ?_) x
  subst ed
  cases r1 with
  | @lst b xs _ hb1 rr =>
    have ev := ints_ev ns rr
    subst ev
    refine ⟨.inl ⟨rfl, _, SqL.of (a1.sub _ _ hb1)⟩, h1 σ I1 H1 _ a1 (fun v I2 H2 d Γ1 ⟨z, j, ed, hj, hn, r⟩ s2 a2 r2 => ?_) (x.after s1)⟩
    subst ed
    cases r2
    refine ⟨b, _, .int z, j, .int z, rfl, rfl, SqL.of (a2.sub _ _ (s2.sub _ _ hb1)), rfl, flat_ints, by rw [List.getElem?_map, hj] <;> rfl, by simp [eqV], fun m z' hm hz => ?_, k _ I2 H2 _ Γ1 r (s1.trans s2) a2 (.int _)⟩
    rw [List.getElem?_map] at hz
    cases hz2 : ns[m]? with
    | none => rw [hz2] at hz; cases hz
    | some y =>
      rw [hz2] at hz; cases hz
      have ne : y ≠ z := fun q => hn m hm (by rw [hz2, q])
      simpa [eqV] using ne
/-- an owned object, from here on data -/
theorem At.freeze {K : PySem.W.Frag} {σ : L2.St} {I H : Hp} {i : Nat} {p : Addr} {o : Ow} {u : HO} (a : At K σ I H Γ) (hg : Γ[i]? = some (.own p o)) (hu : H p = some u) : At K σ (upd I p u) H (Γ.set i (.im o.d)) := by
  obtain ⟨e, n, ow⟩ := a.own hg
  have es : Same I (upd I p u) := fun b w q => by rw [upd_ne (ne_of_none q n)]; exact q
  refine ⟨fun b w q => ?_, by rw [List.length_set]; exact a.len, fun j s h => ?_, fun j j' q o1 o2 h h' => ?_⟩
  · by_cases z : b = p
    · subst z; rw [upd_same] at q; cases q; exact hu
    · rw [upd_ne z] at q; exact a.sub b w q
  · rcases getq_set h with ⟨e1, z, l⟩ | ⟨m, h⟩
    · subst z; subst e1
      exact ⟨_, e, _, rfl, ow_rp ow hu n⟩
    · obtain ⟨x, e1, q⟩ := a.sl j s h
      refine ⟨x, e1, ?_⟩
      cases s with
      | un => trivial
      | im d => obtain ⟨v, e2, r⟩ := q; exact ⟨v, e2, r.mono es⟩
      | own q' o' =>
        obtain ⟨e2, n2, r⟩ := q
        have ne : q' ≠ p := fun z => by subst z; exact m (a.nd j i _ _ _ h hg)
        exact ⟨e2, by rw [upd_ne ne]; exact n2, r.mono es rfl⟩
  · rcases getq_set h with ⟨_, z, _⟩ | ⟨_, h⟩
    · cases z
    · rcases getq_set h' with ⟨_, z, _⟩ | ⟨_, h'⟩
      · cases z
      · exact a.nd j j' q o1 o2 h h'
theorem freeze_stp {K : PySem.W.Frag} {σ : L2.St} {I H : Hp} {i : Nat} {p : Addr} {o : Ow} {u : HO} (a : At K σ I H Γ) (hg : Γ[i]? = some (.own p o)) (hu : H p = some u) : Stp Γ I H (Γ.set i (.im o.d)) (upd I p u) H := by
  obtain ⟨e, n, ow⟩ := a.own hg
  refine ⟨fun _ _ h _ => h, fun b w q => by rw [upd_ne (ne_of_none q n)]; exact q, fun b w q => ?_, fun q ⟨j, o', h⟩ => ?_⟩
  · by_cases z : b = p
    · subst z; exact .inr (.inr ⟨i, o, hg⟩)
    · rw [upd_ne z] at q; exact .inl q
  · rcases getq_set h with ⟨_, z, _⟩ | ⟨_, h⟩
    · cases z
    · exact .inl ⟨j, o', h⟩
theorem ss_freeze {st : List Stmt} {R : Re} (i : Nat) {p : Addr} {o : Ow} (hg : Γ[i]? = some (.own p o)) (h : WpSs X E XE st (Γ.set i (.im o.d)) R) : WpSs X E XE st Γ R := fun σ I H Z a k x => by
  obtain ⟨u, hu⟩ := (a.own hg).2.2.there
  have s := freeze_stp a hg hu
  exact h σ (upd I p u) H Z (a.freeze hg hu) (k.after s) (x.after s)
end
end Dl

set_option Elab.async false
set_option linter.all false
set_option maxRecDepth 100000
set_option maxHeartbeats 4000000
namespace Dl
open PySem PySem.Spec PyProof.Rows L2
/-! ### set(list of ints) -/
section
variable {P : Program} {w : World} {A : Around} {E : Value → Shared → Prop} {s : Shared}
abbrev newSet0 (w : World) : Obj := { cls := .type "set", dict := none, data := .set #[] 0 (.fresh 0 0 (!w.params.followText "set-order")) }
set_option maxHeartbeats 8000000 in
theorem set_of_ints {l : Addr} {items : Array Value} (ns : List Int) {Q : Value → Shared → Prop} (calm : A.handled = none) (isl : s.heap.IsList l items) (are : IntsAre items.toList ns) (few : ns.length + 1 < scanBound)
    (go : ∀ (h' : Heap) (tk c : Nat), SetR w h' s.heap.objs.size (fun j => decide (j ∈ ns)) c → (∀ b o, s.heap.get? b = some o → h'.get? b = some o) → Q (.ref s.heap.objs.size) { s with heap := h', toks := tk }) : wpAny (model P w) A (call (.type "set") [.ref l]) Q E s := by
  have len : items.size = ns.length := by have q := are.length; rwa [Array.length_toList] at q
  have ⟨c, tl, hmro⟩ := F.called_set.mro
  have z1 := F.called_set.made; have z2 := F.called_set.sub; have z3 := F.called_set.notType; have z4 := F.called_set.canCreate; have z5 := F.typeCall_set_1 (.ref l)
  refine wpAny_call (codeAny_of_tree ?_); show wpAny _ _ (callAny (.type "set") _) _ _ _
  refine wpAny_pure ⟨Code.quiet_builtin _ (by decide +kernel), codeAny_builtin F.entry_type_call ?_⟩; rw [Around.under_plain (weight_type_call_type "set" [.ref l] []) rfl]
  (repeat (any_goals (first | assumption | wp_step))); refine codeAny_mono (code_set_led1 (.ref l) (E := E) (Q₁ := fun x t => x = .ref s.heap.objs.size ∧ t = { s with heap := s.heap.push (newSet0 w) }) ⟨rfl, rfl⟩) fun r t hr => ?_
  cases r with
  | error e => exact hr
  | ok fl =>
    cases fl with
    | ret x =>
      obtain ⟨rfl, rfl⟩ := hr
      have at0 : (s.heap.push (newSet0 w)).get? s.heap.objs.size = some (newSet0 w) := Heap.get?_push_size _ rfl
      have ty0 : Shared.TypeIs { s with heap := s.heap.push (newSet0 w) } (.ref s.heap.objs.size) "set" := ⟨_, at0, rfl⟩
      have i1 := F.called_set.init.lookup; have i2 := F.called_set.init.bind (.ref s.heap.objs.size)
      (repeat (any_goals (first | assumption | wp_step))); refine codeAny_mono (codeAny_call_builtin (R := wants (fun r t => r = .none ∧ ∃ h' tk c, t = { s with heap := h', toks := tk } ∧ SetR w h' s.heap.objs.size (fun j => decide (j ∈ ns)) c ∧ (∀ b o, s.heap.get? b = some o → h'.get? b = some o)) E) F.called_set.init.plain F.entry_set_init (check_set_init_1 ty0 ?_)) fun r t hr2 => ?_
      · obtain ⟨⟨oc, od, oda, osl⟩, ho, hc, nl, hd⟩ := isl
        simp only at hc hd; subst hc; subst hd
        have ho1 : (s.heap.push (newSet0 w)).get? l = some { cls := .type "list", dict := od, data := .seq items nl, slots := osl } := Heap.get?_push_of_some _ ho
        have y1 := F.sub_list_set; have y2 := F.sub_list_frozenset; have y3 : (Value.type "list" == Value.type "dict") = false := by decide
        have isl1 : (s.heap.push (newSet0 w)).IsList l items := ⟨_, ho1, rfl, nl, rfl⟩
        unfold Builtin.«set.__init__» noKeywords Builtin.Frozenset.updateFrom; generalize keep : pyIter = PI
        wp_walk
        subst keep
        refine wpAny_pyIter_list isl1 (wpAny_bind (wpAny_runValue ?_))
        have lt : l < s.heap.objs.size := Heap.lt_size ho
        have sz : (s.heap.push (newSet0 w)).objs.size = s.heap.objs.size + 1 := Heap.size_push ..
        have h3 : A.in1.in1.in1.handled = none := by simp [calm]
        refine set_update_ints ((Walks.list h3 _ l (by rw [sz]; exact Nat.ne_of_lt (Nat.lt_succ_of_lt lt)) items).toS) s.heap.objs.size (by rw [sz]; exact fun z => (List.mem_cons.mp z).elim (Nat.ne_of_lt (Nat.lt_succ_self _)) fun z => Nat.ne_of_gt lt (List.mem_singleton.mp z)) ns len few (fun i v hv => ?_) (items.size - 0) 0 _ (by omega) (Nat.zero_le _) ⟨⟨_, Heap.get?_push_size _ rfl, rfl, rfl⟩, (isl1.push _)⟩ ⟨0, Nat.le_refl 0, setR_new_at (Heap.get?_push_of_some _ at0)⟩ fun t c mv _ hS => ?_
        · have hi : i < ns.length := by rw [← len]; exact (Array.getElem?_eq_some_iff.mp hv).1
          obtain ⟨tk, e⟩ := IntsAre.int_at are i v (by rw [Array.getElem?_toList]; exact hv)
          rw [List.getD_eq_getElem?_getD, List.getElem?_eq_getElem hi] at e
          exact ⟨_, tk, List.getElem?_eq_getElem hi, e⟩
        · have e1 := mv.gens; have e2 := mv.drawn; have e3 := mv.os
          obtain ⟨h', g2, d', tk', os'⟩ := t
          simp only at e1 e2 e3; subst e1; subst e2; subst e3
          refine wpAny_pure (wpAny_pure ⟨rfl, h', tk', c, rfl, hS, fun b o e => ?_⟩)
          have lb : b < s.heap.objs.size := Heap.lt_size e
          exact mv.heap b o (by rw [sz]; exact fun z => (List.mem_cons.mp z).elim (Nat.ne_of_lt lb) fun z => Nat.ne_of_lt (Nat.lt_succ_of_lt lb) (List.mem_singleton.mp z)) (Heap.get?_push_of_some _ (Heap.get?_push_of_some _ e))
      · cases r with
        | error e => exact hr2
        | ok fl =>
          cases fl with
          | ret r =>
            obtain ⟨rfl, h', tk, c, rfl, hS, kept⟩ := hr2
            (repeat (any_goals (first | assumption | wp_step))); exact go _ _ _ hS kept
          | _ => exact hr2.elim
    | _ => exact hr.elim
end
section
variable {X : Cx}
theorem nodup_sub {l : List Int} : ∀ {L : List Int}, l.Nodup → (∀ x ∈ l, x ∈ L) → l.length ≤ L.length := by
  induction l with
  | nil => intro L _ _; exact Nat.zero_le _
  | cons a l ih =>
    intro L nd h
    obtain ⟨h1, h2⟩ := List.nodup_cons.mp nd
    have ha := h a List.mem_cons_self
    have := ih (L := L.erase a) h2 fun x hx => (List.mem_erase_of_ne (fun z => h1 (by rw [← z]; exact hx))).mpr (h x (List.mem_cons_of_mem _ hx))
    rw [List.length_erase_of_mem ha] at this
    have := List.length_pos_of_mem ha
    rw [List.length_cons]; omega
def rSetL (K : PySem.W.Frag) (w : World) : List V → Hp → VK → Prop := fun xs H Q => ∃ (a : Addr) (ns L : List Int), xs = [.ref a] ∧ SqL K H a (ns.map V.int) ∧ ns.length ≤ 4000 ∧ (∀ z ∈ ns, z ∈ L) ∧
  ∀ (p : Addr) (n : Nat), n ≤ L.length → H p = none → Q (.ref p) (upd H p (SetO w p (fun j => decide (j ∈ ns)) n))
theorem cr_setL (hc : X.calm = true) : CallR X (.type "set") (rSetL X.K X.w) := by
  intro pins s σ H xs us Q I r h
  obtain ⟨a, ns, L, rfl, hs, hl, hL, q⟩ := h
  obtain ⟨its, rv, hi, _⟩ := I.list hs
  rw [Vals.ref1 r]
  have hv := ints_of_vals rv
  refine set_of_ints ns (I.ok.hd hc) hi.isList (by simpa using hv) (by unfold scanBound; omega) fun h' tk c R kept => ?_
  have hn : c ≤ L.length := by
    obtain ⟨o, es, ep, t, _, _, _, _, nd, mem, _, _, sz, _⟩ := R
    rw [← sz, ← Array.length_toList, ← List.length_map (f := keyOf)]
    refine nodup_sub nd fun x hx => hL x ?_
    have := (mem x).mpr hx
    simpa using this
  exact ⟨.ref s.heap.objs.size, upd H s.heap.objs.size (SetO X.w s.heap.objs.size (fun j => decide (j ∈ ns)) c), I.laid (t' := tk) kept (Nat.le_refl _) (setO_new R), rfl, q _ c hn (I.hok.fresh (Nat.le_refl _))⟩
end
/-! ### sorted(set(list of ints)) -/
section
variable {X : Cx} {E : XK} {XE : XS} {Γ : En} {R R' : D → En → Prop} {pos : Pos}
theorem ints_lt_uniq : ∀ {xs ys : List Int}, xs.Pairwise (· < ·) → ys.Pairwise (· < ·) → (∀ z, z ∈ xs ↔ z ∈ ys) → xs = ys := fun {xs ys} h1 h2 h =>
  sorted_uniq ((List.perm_ext_iff_of_nodup (h1.imp fun q => Int.ne_of_lt q) (h2.imp fun q => Int.ne_of_lt q)).mpr h) (h1.imp fun q => Int.le_of_lt q) (h2.imp fun q => Int.le_of_lt q)
theorem w_sortedSet {e : Expr} {p1 p2 cpos : Pos} (hc : X.calm = true) (hg1 : Gl X "sorted") (hm1 : X.mg "sorted" = none) (hg2 : Gl X "set") (hm2 : X.mg "set" = none)
    (h : Wp X E XE e Γ fun d Γ1 => ∃ ns L ys : List Int, d = .lst (ns.map D.int) ∧ ns.length ≤ 4000 ∧ (∀ z ∈ ns, z ∈ L) ∧ L.length < 64 ∧ ys.Pairwise (· < ·) ∧ (∀ z, z ∈ ys ↔ z ∈ ns) ∧ R (.lst (ys.map D.int)) Γ1)
    (he1 : starEach [Expr.Call (.Name "set" p2) [e] [] cpos] X.env = (false, eval (Expr.Call (.Name "set" p2) [e] [] cpos) X.env) :: starEach [] X.env := by rfl)
    (he2 : starEach [e] X.env = (false, eval e X.env) :: starEach [] X.env := by rfl) :
    Wp X E XE (.Call (.Name "sorted" p1) [.Call (.Name "set" p2) [e] [] cpos] [] pos) Γ R := by
  refine .of (pe_callB (cr_sortedSet hc) hg1 hm1 (by decide +kernel) (pa_cons (pe_callTy (cr_setL hc) hg2 hm2 (by decide +kernel) (pa_cons (pe_sem X e) pa_nil he2) (he := he2) (hpl := by rfl)) pa_nil he1) (he := he1) (hpl := by rfl)) fun σ I H Q a k x => ?_
  refine h σ I H _ a (fun v I1 H1 d Γ1 ⟨ns, L, ys, ed, hl, hL, h64, hs, hy, r⟩ s1 a1 r1 => ?_) x
  subst ed
  cases r1 with
  | lst hb rr =>
    have ev := ints_ev ns rr
    subst ev
    refine ⟨_, ns, L, rfl, SqL.of (a1.sub _ _ hb), hl, hL, fun p n hn hp => ?_⟩
    refine ⟨p, _, n, rfl, upd_same, by omega, fun zs q hz hm _ hq => ?_⟩
    have e : zs = ys := ints_lt_uniq hz hs fun z => by rw [hm z, hy z]; simp
    subst e
    have g1 : Grow I1 H1 I1 _ := .hid a1.sub hp (o := SetO X.w p (fun j => decide (j ∈ ns)) n)
    have g2 := Grow.new (o := .lst (zs.map V.int)) g1.view hq
    have g := g1.trans g2
    exact k (.ref q) _ _ _ Γ1 r (s1.trans g.stp) (a1.grow g) (.lst upd_same (rp_ints zs))
end
end Dl

set_option linter.all false
namespace Fp
open VatmsBase
open Vatmse (Spot Spots spotAt readTimes readDepths timeOf)
/-! times told of points -/
def ixOf (l : Spots) (t : Int) : Nat := (l.findIdx? fun p => p.t == t).getD 0
abbrev ownT (l : Spots) : List Int := l.map (·.t)
theorem idx_own {l : Spots} (up : (ownT l).Pairwise (· < ·)) {j : Nat} {t : Int} (h : (ownT l)[j]? = some t) : (l.findIdx? fun p => p.t == t) = some j ∧ ∀ m, m < j → (ownT l)[m]? ≠ some t := by
  have hj : j < (ownT l).length := (List.getElem?_eq_some_iff.mp h).1
  have hv : (ownT l)[j] = t := (List.getElem?_eq_some_iff.mp h).2
  have hl : (ownT l).length = l.length := List.length_map _
  have nope : ∀ m, m < j → (ownT l)[m]? ≠ some t := fun m hm z => by
    have hm2 : m < (ownT l).length := by omega
    have h1 := List.pairwise_iff_getElem.mp up m j hm2 hj hm
    have h2 : (ownT l)[m] = t := (List.getElem?_eq_some_iff.mp z).2
    omega
  refine ⟨?_, nope⟩
  rw [List.findIdx?_eq_some_iff_getElem]
  have hj' : j < l.length := by omega
  refine ⟨hj', ?_, fun m hm => ?_⟩
  · have : (ownT l)[j] = l[j].t := List.getElem_map _
    rw [hv] at this
    simp [this]
  · have hml : m < l.length := by omega
    have := nope m hm
    rw [List.getElem?_map, List.getElem?_eq_getElem hml] at this
    simpa using this
theorem ix_get {l : Spots} (up : (ownT l).Pairwise (· < ·)) {t : Int} (h : t ∈ ownT l) : (ownT l)[ixOf l t]? = some t ∧ (l.findIdx? fun p => p.t == t) = some (ixOf l t) := by
  obtain ⟨j, hj⟩ := List.getElem?_of_mem h
  have := (idx_own up hj).1
  have e : ixOf l t = j := by unfold ixOf; rw [this]; rfl
  rw [e]; exact ⟨hj, this⟩
theorem ix_lt {l : Spots} (up : (ownT l).Pairwise (· < ·)) {s t : Int} (hs : s ∈ ownT l) (ht : t ∈ ownT l) : ixOf l s < ixOf l t ↔ s < t := by
  obtain ⟨h1, e1⟩ := List.getElem?_eq_some_iff.mp (ix_get up hs).1
  obtain ⟨h2, e2⟩ := List.getElem?_eq_some_iff.mp (ix_get up ht).1
  have p := List.pairwise_iff_getElem.mp up
  constructor
  · intro h
    have := p _ _ h1 h2 h
    omega
  · intro h
    rcases Nat.lt_trichotomy (ixOf l s) (ixOf l t) with q | q | q
    · exact q
    · have : s = t := by rw [← e1, ← e2]; simp only [q]
      omega
    · have := p _ _ h2 h1 q
      omega
theorem zip_rising : ∀ (c : List Nat), (c.zip (c.drop 1)).all (fun x => decide (x.1 < x.2)) = true ↔ c.Pairwise (· < ·)
  | [] => by simp
  | [a] => by simp
  | a :: b :: r => by
    have ih := zip_rising (b :: r)
    show (decide (a < b) && ((b :: r).zip r).all _) = true ↔ _
    have ih : ((b :: r).zip r).all (fun x => decide (x.1 < x.2)) = true ↔ (b :: r).Pairwise (· < ·) := ih
    constructor
    · intro h
      obtain ⟨h1, h2⟩ := Bool.and_eq_true_iff.mp h
      have h1 := of_decide_eq_true h1
      have h2 := ih.mp h2
      refine List.pairwise_cons.mpr ⟨fun z hz => ?_, h2⟩
      rcases List.mem_cons.mp hz with e | e
      · omega
      · have := (List.pairwise_cons.mp h2).1 z e; omega
    · intro h
      obtain ⟨h1, h2⟩ := List.pairwise_cons.mp h
      exact Bool.and_eq_true_iff.mpr ⟨decide_eq_true (h1 b List.mem_cons_self), ih.mpr h2⟩
theorem ix_all {l : Spots} (up : (ownT l).Pairwise (· < ·)) : ∀ ts : List Int, (∀ t ∈ ts, t ∈ ownT l) → (ts.filterMap fun t => l.findIdx? fun p => p.t == t) = ts.map (ixOf l)
  | [], _ => rfl
  | t :: ts, h => by
    rw [List.filterMap_cons, (ix_get up (h t List.mem_cons_self)).2, List.map_cons, ← ix_all up ts fun z hz => h z (List.mem_cons_of_mem _ hz)]
theorem read_times {l : Spots} (up : (ownT l).Pairwise (· < ·)) (h0 : 0 < l.length) (ts : List Int) : readTimes l ts =
    if (∀ t ∈ ts, t ∈ ownT l) ∧ ts.Pairwise (· < ·) ∧ (spotAt l 0).t ∈ ts ∧ (spotAt l (l.length - 1)).t ∈ ts then some (ts.map (ixOf l)) else none := by
  have g0 : (ownT l)[0]? = some (spotAt l 0).t := by rw [List.getElem?_map, spot_some h0]; rfl
  have gl : (ownT l)[l.length - 1]? = some (spotAt l (l.length - 1)).t := by rw [List.getElem?_map, spot_some (by omega)]; rfl
  have m0 := List.mem_of_getElem? g0
  have ml := List.mem_of_getElem? gl
  have i0 : ixOf l (spotAt l 0).t = 0 := by unfold ixOf; rw [(idx_own up g0).1]; rfl
  have il : ixOf l (spotAt l (l.length - 1)).t = l.length - 1 := by unfold ixOf; rw [(idx_own up gl).1]; rfl
  unfold readTimes
  simp only
  by_cases hA : ∀ t ∈ ts, t ∈ ownT l
  · have ec : (ts.filterMap fun t => l.findIdx? fun p => p.t == t) = ts.map (ixOf l) := ix_all up ts hA
    rw [ec]
    have ep : (ts.map (ixOf l)).Pairwise (· < ·) ↔ ts.Pairwise (· < ·) := by
      rw [List.pairwise_map]
      exact ⟨fun h => h.imp_of_mem fun ha hb q => (ix_lt up (hA _ ha) (hA _ hb)).mp q, fun h => h.imp_of_mem fun ha hb q => (ix_lt up (hA _ ha) (hA _ hb)).mpr q⟩
    have iff : ((ts.map (ixOf l)).length = ts.length ∧ (ts.map (ixOf l)).head? = some 0 ∧ (ts.map (ixOf l)).getLast? = some (l.length - 1) ∧ ((ts.map (ixOf l)).zip ((ts.map (ixOf l)).drop 1)).all (fun x => decide (x.1 < x.2)) = true) ↔
        (∀ t ∈ ts, t ∈ ownT l) ∧ ts.Pairwise (· < ·) ∧ (spotAt l 0).t ∈ ts ∧ (spotAt l (l.length - 1)).t ∈ ts := by
      rw [zip_rising, ep]
      constructor
      · rintro ⟨_, h1, h2, h3⟩
        refine ⟨hA, h3, ?_, ?_⟩
        · rw [List.head?_map] at h1
          cases ht : ts.head? with
          | none => rw [ht] at h1; cases h1
          | some t =>
            rw [ht] at h1
            have e : ixOf l t = 0 := Option.some.inj h1
            have hm := List.mem_of_head? ht
            have := (ix_get up (hA t hm)).1
            rw [e, g0] at this
            cases this
            exact hm
        · rw [List.getLast?_map] at h2
          cases ht : ts.getLast? with
          | none => rw [ht] at h2; cases h2
          | some t =>
            rw [ht] at h2
            have e : ixOf l t = l.length - 1 := Option.some.inj h2
            have hm := List.mem_of_getLast? ht
            have := (ix_get up (hA t hm)).1
            rw [e, gl] at this
            cases this
            exact hm
      · rintro ⟨_, h3, h1, h2⟩
        refine ⟨List.length_map _, ?_, ?_, h3⟩
        · cases ts with
          | nil => cases h1
          | cons t r =>
            have : t = (spotAt l 0).t := by
              rcases List.mem_cons.mp h1 with e | e
              · exact e.symm
              · have q := (List.pairwise_cons.mp h3).1 _ e
                have := (ix_lt up (hA t List.mem_cons_self) m0).mpr q
                omega
            rw [List.map_cons, this, i0]; rfl
        · have hne : ts ≠ [] := fun z => by rw [z] at h2; cases h2
          have hg := List.getLast?_eq_some_getLast hne
          rw [List.getLast?_map, hg]
          have hm := List.getLast_mem hne
          have : ts.getLast hne = (spotAt l (l.length - 1)).t := by
            rcases Int.lt_trichotomy (ts.getLast hne) (spotAt l (l.length - 1)).t with q | q | q
            · exfalso
              have hd := List.dropLast_concat_getLast hne
              rw [← hd] at h3 h2
              rcases List.mem_append.mp h2 with e | e
              · have := (List.pairwise_append.mp h3).2.2 _ e _ (List.mem_singleton.mpr rfl)
                omega
              · have := List.mem_singleton.mp e
                omega
            · exact q
            · exfalso
              have h5 := (ix_lt up ml (hA _ hm)).mpr q
              have h6 := (List.getElem?_eq_some_iff.mp (ix_get up (hA _ hm)).1).1
              rw [List.length_map] at h6
              omega
          show some (ixOf l _) = _
          rw [this, il]
    by_cases hc : (∀ t ∈ ts, t ∈ ownT l) ∧ ts.Pairwise (· < ·) ∧ (spotAt l 0).t ∈ ts ∧ (spotAt l (l.length - 1)).t ∈ ts
    · rw [if_pos hc, if_pos (iff.mpr hc)]
    · rw [if_neg hc, if_neg fun z => hc (iff.mp z)]
  · have r : ¬ ((∀ t ∈ ts, t ∈ ownT l) ∧ ts.Pairwise (· < ·) ∧ (spotAt l 0).t ∈ ts ∧ (spotAt l (l.length - 1)).t ∈ ts) := fun z => hA z.1
    rw [if_neg r, if_neg]
    rintro ⟨h, _⟩
    refine hA fun t ht => ?_
    have := List.filterMap_length_eq_length.mp h t ht
    obtain ⟨j, hj⟩ := Option.isSome_iff_exists.mp this
    obtain ⟨hlt, hp, _⟩ := List.findIdx?_eq_some_iff_getElem.mp hj
    have : l[j].t = t := by simpa using hp
    rw [← this]
    exact List.mem_map_of_mem (List.getElem_mem hlt)
/-! numbers told of points -/
theorem read_depths (l : Spots) (ds : List Int) : readDepths l ds = if ds.length = l.length ∧ (∀ z ∈ ds, 0 ≤ z ∧ z ≤ 999) ∧ ds.getLast? = some 0 then some (ds.map fun z => z.toNat) else none := by
  unfold readDepths
  have : (ds.all (fun z => (index z 1000).isSome) = true) ↔ ∀ z ∈ ds, 0 ≤ z ∧ z ≤ 999 := by
    rw [List.all_eq_true]
    refine forall_congr' fun z => forall_congr' fun _ => ?_
    unfold index
    by_cases h : 0 ≤ z ∧ z < ((1000 : Nat) : Int)
    · rw [if_pos h]; exact ⟨fun _ => by omega, fun _ => rfl⟩
    · rw [if_neg h]; exact ⟨fun q => (Bool.false_ne_true q).elim, fun q => (h (by omega)).elim⟩
  by_cases hc : ds.length = l.length ∧ (∀ z ∈ ds, 0 ≤ z ∧ z ≤ 999) ∧ ds.getLast? = some 0
  · rw [if_pos hc, if_pos ⟨hc.1, this.mpr hc.2.1, hc.2.2⟩]
  · rw [if_neg hc, if_neg fun z => hc ⟨z.1, this.mp z.2.1, z.2.2⟩]
end Fp

set_option Elab.async false
set_option linter.all false
set_option maxRecDepth 100000
set_option maxHeartbeats 2000000
namespace Fp
open PySem PySem.Spec PyProof.Rows L2 Dl
open VatmsBase (Bytes word Frac frac whole)
open Vatmse (Spot Spots spotsOf spotAt timeOf)
abbrev fnWhy : List V → List (Str × V)
  | [n] => [("why", n)]
  | _ => []
abbrev whyF (n : Int) : List (Str × V) := [("why", .int n)]
abbrev RefK (P : Program) (w : World) (K : PySem.W.Frag) (mg : Str → Option Value) (base : Heap) (RF : Addr) : Prop := Xk P w K mg base "Refused" RF ["self", "number"] fnWhy 1
/-- what is told, or refused by a number -/
def outR (RF : Addr) {α : Type} (enc : α → D) : Except Int α → Ox
  | .ok a => .ok (enc a)
  | .error n => .ex RF (whyF n)
def wantX (b : Bool) (n : Int) : Except Int Unit := if b = true then .ok () else .error n
def boundX (a b : Int) : Except Int Frac := if 0 ≤ a ∧ a ≤ 1000000 ∧ 1 ≤ b ∧ b ≤ 1000 then .ok (frac a b.toNat) else .error (-4)
/-- the points with values of a row told by its place -/
def spotsX (rs : List (Option (List VPoint))) (i : Int) : Except Int Spots := if 0 ≤ i ∧ i < (rs.length : Nat) then (match rs[i.toNat]? with
  | some (some r) => if (spotsOf r).isEmpty = true then .error (-5) else .ok (spotsOf r)
  | _ => .error (-7)) else .error (-2)
structure RsOk (rs : List (Option (List VPoint))) : Prop where
  len : rs.length ≤ 12
  ok : ∀ r, some r ∈ rs → RwOk 10000000 r
theorem spots_map (r : List VPoint) : (r.filter fun q => q.v.isSome).map ptD = (spotsOf r).map Sd := by
  unfold spotsOf
  induction r with
  | nil => rfl
  | cons q r ih =>
    rw [List.filter_cons, List.filterMap_cons]
    cases hv : q.v with
    | none => exact ih
    | some f =>
      show ptD q :: _ = Sd ⟨q.t, f⟩ :: _
      rw [ih]
      congr 1
      show D.tup [.int q.t, optFd q.v] = _
      rw [hv]; rfl
theorem spot_mem {r : List VPoint} {s : Spot} (h : s ∈ spotsOf r) : ∃ q ∈ r, q.t = s.t ∧ q.v = some s.v := by
  obtain ⟨q, hq, e⟩ := List.mem_filterMap.mp h
  cases hv : q.v with
  | none => rw [hv] at e; cases e
  | some f =>
    rw [hv] at e
    cases e
    exact ⟨q, hq, rfl, hv⟩
theorem good_spots {r : List VPoint} (h : RwOk 10000000 r) : Good (spotsOf r) := by
  refine ⟨Nat.le_trans (List.length_filterMap_le _ _) h.len, fun s hs => ?_, fun s hs => ?_, ?_, fun s hs => ?_⟩
  · obtain ⟨q, hq, e1, _⟩ := spot_mem hs
    have := h.tm q hq
    rw [← e1]
    exact Nat.lt_of_le_of_lt this (by decide)
  · obtain ⟨q, hq, _, e2⟩ := spot_mem hs
    exact (h.vs q hq _ e2).bd.mono (by decide)
  · unfold spotsOf
    rw [List.pairwise_filterMap]
    refine h.up.imp fun {a b} hab x hx y hy => ?_
    cases ha : a.v with
    | none => rw [ha] at hx; cases hx
    | some f =>
      cases hb : b.v with
      | none => rw [hb] at hy; cases hy
      | some g =>
        rw [ha] at hx; rw [hb] at hy
        cases hx; cases hy
        exact hab
  · obtain ⟨q, hq, _, e2⟩ := spot_mem hs
    exact (h.vs q hq _ e2).nm
theorem bound_ok {a b : Int} {f : Frac} (h : boundX a b = .ok f) : Bd 90 f ∧ 0 ≤ f.num := by
  unfold boundX at h
  split at h
  · rename_i hc
    cases h
    have hb : 0 < b.toNat := by omega
    have := frac_small (a := a) (d := b.toNat) (by omega) hb (by omega)
    refine ⟨this.vok.bd.mono (by decide), ?_⟩
    unfold frac
    simp only
    split
    · exact Int.le_refl _
    · exact Int.ediv_nonneg hc.1 (Int.natCast_nonneg _)
  · cases h
theorem pqSpots (l : List Spot) : ∃ ds, PqA 3 (l.map Sd) ds := by
  induction l with
  | nil => exact ⟨_, .nil⟩
  | cons s l ih =>
    obtain ⟨ds, h⟩ := ih
    exact ⟨_, .cons (.tup (.cons (.int 2 _) (.cons (.tup (.cons (.int 1 _) (.cons (.int 1 _) .nil))) .nil))) h⟩
def rowsD : Option (List (Option (List VPoint))) → D
  | none => .non
  | some l => .lst (l.map optRow)
def deskD (DC : Addr) (o : Option (List (Option (List VPoint)))) : D := .ins DC [("rows", rowsD o)]
structure DkC (K : PySem.W.Frag) (DC : Addr) : Prop where
  c : Cls K DC
  n : NoAttr K DC "rows"
section
variable {P : Program} {w : World} {K : PySem.W.Frag} {mg : Str → Option Value} {base : Heap} {RF DC : Addr}
/-! ### want -/
abbrev s_want : Stmt := top 90
abbrev n_want : List Str := ["whether", "number"]
theorem sc_want : FnScope n_want ["whether", "number"] (defScope s_want) := ⟨rfl, rfl, rfl, by decide +kernel, rfl, by decide +kernel, by decide +kernel⟩
def p_want (RF : Addr) : List D → Ox → Prop := fun ds o => ∃ (b : Bool) (n : Int), ds = [.bl b, .int n] ∧ o = outR RF (fun _ => D.non) (wantX b n)
abbrev FvWant (P : Program) (w : World) (K : PySem.W.Frag) (mg : Str → Option Value) (base : Heap) (RF : Addr) : Prop := Fv P w K mg base (L2.CX P w) 3 "want" ["whether", "number"] (PureX (p_want RF))
theorem f_want (F : Fa K mg "want" s_want) (T : RefK P w K mg base RF) : FvWant P w K mg base RF := by
  refine fa_fv F (fun _ _ _ _ _ _ us hl => match us, hl with | [_, _], _ => rfl) fun f fd F => fnX F sc_want (fun Γ r h => by obtain ⟨ds, o, e, ⟨b, n, e2, _⟩, _⟩ := h; subst e; subst e2; rfl) ?_
  have nd := sc_want.nd
  intro cdv A outer s H E Γ r hr hp
  obtain ⟨_, o, rfl, ⟨b, n, rfl, rfl⟩, rfl⟩ := pureX_of hp
  have tk : Takes (cxOf (L2.CX P w) P w K mg base n_want "want" (defScope s_want) f cdv A outer s H E) fun cls d _ H => E cls d H := takes_of rfl rfl rfl rfl
  cases b with
  | true => exact ss_one (s_if (t_not (t_val (wv 0 rfl ⟨_, rfl, ⟨fun hT => (nomatch hT), fun hF => ss_nil (finX rfl)⟩⟩))))
  | false => exact ss_one (s_if (t_not (t_val (wv 0 rfl ⟨_, rfl, ⟨fun hT => ss_one (s_raise T tk (hr.mono (by decide)) rfl pass (d_cons (wv 1 rfl (d_nil ⟨[n], rfl, rfl, by decide, rfl⟩)))), fun hF => (nomatch hF)⟩⟩))))
/-! ### bound_of -/
abbrev s_bound_of : Stmt := top 91
abbrev n_bound_of : List Str := ["a", "b"]
theorem sc_bound_of : FnScope n_bound_of ["a", "b"] (defScope s_bound_of) := ⟨rfl, rfl, rfl, by decide +kernel, rfl, by decide +kernel, by decide +kernel⟩
def p_bound_of (RF : Addr) : List D → Ox → Prop := fun ds o => ∃ (a b : Int), ds = [.int a, .int b] ∧ o = outR RF Fd (boundX a b)
abbrev FvBound (P : Program) (w : World) (K : PySem.W.Frag) (mg : Str → Option Value) (base : Heap) (RF : Addr) : Prop := Fv P w K mg base (L2.CX P w) 4 "bound_of" ["a", "b"] (PureX (p_bound_of RF))
theorem f_bound_of (F : Fa K mg "bound_of" s_bound_of) (hwant : FvWant P w K mg base RF) (hfraction : FvFraction P w K mg base) (gN : Glo K mg "MOST_NUMERATOR" (.int 1000000)) (gD : Glo K mg "MOST_DENOMINATOR" (.int 1000)) : FvBound P w K mg base RF := by
  refine fa_fv F (fun _ _ _ _ _ _ us hl => match us, hl with | [_, _], _ => rfl) fun f fd F => fnX F sc_bound_of (fun Γ r h => by obtain ⟨ds, o, e, ⟨b, n, e2, _⟩, _⟩ := h; subst e; subst e2; rfl) ?_
  have nd := sc_bound_of.nd
  intro cdv A outer s H E Γ r hr hp
  obtain ⟨_, o, rfl, ⟨a, b, rfl, ho⟩, rfl⟩ := pureX_of hp
  refine ss_cons (s_expr (w_callX hwant (hr.mono (by decide)) rfl pcX (d_cons (Wp.mono (R := fun d Γ' => d = .bl (decide (0 ≤ a ∧ a ≤ 1000000 ∧ 1 ≤ b ∧ b ≤ 1000)) ∧ Γ' = [.im (.int a), .im (.int b)]) (w_and (w_chain (w_int (wv 0 rfl ⟨_, o_le, fun hF => ⟨false, rfl, fun _ => ?A, fun h => nomatch h⟩, fun hT => w_glob gN rfl ⟨_, o_le, ⟨_, rfl, fun hF => ?B, fun hT2 => w_one (w_chain (w_int (wv 1 rfl ⟨_, o_le, fun hF => ?C, fun hT3 => w_glob gD rfl ⟨_, o_le, ?D⟩⟩)))⟩⟩⟩)))) ?G))))
  case A => exact ⟨congrArg D.bl (decide_eq_false fun z => of_decide_eq_false hF z.1).symm, rfl⟩
  case B => exact ⟨congrArg D.bl (decide_eq_false fun z => of_decide_eq_false hF z.2.1).symm, rfl⟩
  case C => exact ⟨congrArg D.bl (decide_eq_false fun z => of_decide_eq_false hF z.2.2.1).symm, rfl⟩
  case D => exact ⟨congrArg D.bl (decide_eq_decide.mpr ⟨fun z => ⟨of_decide_eq_true hT, of_decide_eq_true hT2, of_decide_eq_true hT3, z⟩, fun z => z.2.2.2⟩), rfl⟩
  case G =>
    rintro _ _ ⟨rfl, rfl⟩
    refine d_cons (w_neg (w_int ⟨_, rfl, (d_nil ⟨_, ⟨_, -4, rfl, rfl⟩, ?_⟩)⟩))
    unfold boundX at ho
    by_cases hc : 0 ≤ a ∧ a ≤ 1000000 ∧ 1 ≤ b ∧ b ≤ 1000
    · rw [if_pos hc] at ho
      rw [decide_eq_true hc]
      have eb : D.int b = .int ((b.toNat : Nat) : Int) := by rw [Int.toNat_of_nonneg (by omega)]
      refine ss_one (s_ret (w_callP hfraction (hr.mono (by decide)) rfl pass (d_cons (wv 0 rfl (d_cons (wv 1 rfl (d_nil ⟨_, ⟨a, b.toNat, by rw [eb], by omega, Nat.lt_of_le_of_lt (show b.toNat ≤ 1000 by omega) (Nat.lt_of_lt_of_le (show 1000 < 2 ^ 10 by decide) (Nat.pow_le_pow_right (by decide) (by decide))), rfl⟩, finX ho⟩)))))))
    · rw [if_neg hc] at ho
      rw [decide_eq_false hc]
      subst ho; rfl
/-! ### times_of -/
abbrev s_times_of : Stmt := top 92
abbrev n_times_of : List Str := ["points", "numbers", "k"]
theorem sc_times_of : FnScope n_times_of ["points", "numbers"] (defScope s_times_of) := ⟨rfl, rfl, rfl, by decide +kernel, rfl, by decide +kernel, by decide +kernel⟩
abbrev timesD (l : List Spot) (c : List Nat) : D := .lst ((c.map fun k => timeOf l k).map D.int)
def p_times_of : List D → D → Prop := fun ds d => ∃ (l : List Spot) (c : List Nat) (z : D), ds = [Ld l, z] ∧ (z = .lst (c.map Nd) ∨ z = .tup (c.map Nd)) ∧ (∀ k ∈ c, k < l.length) ∧ c.length ≤ 1000 ∧ d = timesD l c
abbrev FvTimesOf (P : Program) (w : World) (K : PySem.W.Frag) (mg : Str → Option Value) (base : Heap) : Prop := Fv P w K mg base CX0 1 "times_of" ["points", "numbers"] (PureP p_times_of)
theorem f_times_of (F : Fa K mg "times_of" s_times_of) : FvTimesOf P w K mg base := by
  refine fa_fv F (fun _ _ _ _ _ _ us hl => match us, hl with | [_, _], _ => rfl) fun f fd F => fn0 F sc_times_of (fun Γ r ⟨ds, d, e, _, l, c, z, e2, _⟩ => by subst e; subst e2; rfl) ?_
  have nd := sc_times_of.nd
  rintro cdv A outer s H E _ _ hr ⟨_, _, rfl, rfl, l, c, z, rfl, hz, hk, hc, rfl⟩
  have hzl : sizeLine = 16777216 := sizeLine_eq
  rcases hz with rfl | rfl
  · refine ss_one (s_ret (w_new (wlc [("k", 2)] [2] Nd (fun x => true) (fun k => .int (timeOf l k)) nd (blkOk_by (by show blkC n_times_of (defScope s_times_of) _ _ = true; decide +kernel)) (i_list (wv 1 rfl ⟨_, rfl, ⟨c, rfl, by omega, ?_, ?_⟩⟩)))))
    · refine fin_eq (ds := [Ld l, .lst (c.map Nd)]) ?_
      rw [List.filter_eq_self.mpr (fun _ _ => rfl)]
      show D.lst _ = timesD l c
      unfold timesD
      rw [List.map_map]; rfl
    · intro k hx
      exact ⟨_, fun s H0 C cl fp => (gn 2 nd rfl), fun s H0 C cl fp => ⟨rfl, rfl⟩, fun _ s H0 C cl fp => (w_ix (w_ix (wv 0 rfl (wv 2 rfl ⟨Sd (spotAt l k), ix2_lst (atI_nat (by rw [List.getElem?_map, spot_some (hk k hx)]; rfl)), (w_int ⟨_, (ix2_tup rfl), rfl⟩)⟩))))⟩
  · refine ss_one (s_ret (w_new (wlc [("k", 2)] [2] Nd (fun x => true) (fun k => .int (timeOf l k)) nd (blkOk_by (by show blkC n_times_of (defScope s_times_of) _ _ = true; decide +kernel)) (i_tup (wv 1 rfl ⟨_, rfl, ⟨c, rfl, by omega, ?_, ?_⟩⟩)))))
    · refine fin_eq (ds := [Ld l, .tup (c.map Nd)]) ?_
      rw [List.filter_eq_self.mpr (fun _ _ => rfl)]
      show D.lst _ = timesD l c
      unfold timesD
      rw [List.map_map]; rfl
    · intro k hx
      exact ⟨_, fun s H0 C cl fp => (gn 2 nd rfl), fun s H0 C cl fp => ⟨rfl, rfl⟩, fun _ s H0 C cl fp => (w_ix (w_ix (wv 0 rfl (wv 2 rfl ⟨Sd (spotAt l k), ix2_lst (atI_nat (by rw [List.getElem?_map, spot_some (hk k hx)]; rfl)), (w_int ⟨_, (ix2_tup rfl), rfl⟩)⟩))))⟩
/-! ### Desk.points -/
abbrev s_Desk_points : Stmt := inClass (top 93) 2
abbrev n_Desk_points : List Str := ["self", "i", "found", "point"]
theorem sc_Desk_points : FnScope n_Desk_points ["self", "i"] (defScope s_Desk_points) := ⟨rfl, rfl, rfl, by decide +kernel, rfl, by decide +kernel, by decide +kernel⟩
def p_points (RF DC : Addr) : List D → Ox → Prop := fun ds o => ∃ (rs : List (Option (List VPoint))) (i : Int), ds = [deskD DC (some rs), .int i] ∧ RsOk rs ∧ o = outR RF Ld (spotsX rs i)
abbrev MvPoints (P : Program) (w : World) (K : PySem.W.Frag) (mg : Str → Option Value) (base : Heap) (RF DC : Addr) : Prop := Mv P w K mg base (L2.CX P w) 4 DC "points" ["self", "i"] (PureX (p_points RF DC))
theorem f_Desk_points (F : Ma K DC "points" "Desk.points" s_Desk_points) (c : DkC K DC) (hwant : FvWant P w K mg base RF) (nlen : mg "len" = none) : MvPoints P w K mg base RF DC := by
  refine ma_mv F (fun _ _ _ _ _ _ us hl => match us, hl with | [_, _], _ => rfl) fun f fd F => fnX F sc_Desk_points (fun Γ r h => by obtain ⟨ds, o, e, ⟨b, n, e2, _⟩, _⟩ := h; subst e; subst e2; rfl) ?_
  have nd := sc_Desk_points.nd
  intro cdv A outer s H E Γ r hr hp
  obtain ⟨_, o, rfl, ⟨rs, i, rfl, ok, ho⟩, rfl⟩ := pureX_of hp
  have hz : sizeLine = 16777216 := sizeLine_eq
  refine ss_cons (s_expr (w_callX hwant (hr.mono (by decide)) rfl pcX (d_cons (Wp.mono (R := fun d Γ' => d = .bl (decide (0 ≤ i ∧ i < (rs.length : Nat))) ∧ Γ' = [.im (deskD DC (some rs)), .im (.int i), .un, .un]) (w_chain (w_int (wv 1 rfl ⟨_, o_le, fun hF => ?A, fun hT => w_callB rfl nlen boot_len (d_cons (w_fld (wv 0 rfl ⟨DC, _, _, rfl, c.c, c.n, rfl, (d_nil ⟨_, c_lenL, ⟨_, o_lt, ?B⟩⟩)⟩)))⟩))) ?G))))
  case A => exact ⟨congrArg D.bl (decide_eq_false fun z => of_decide_eq_false hF z.1).symm, rfl⟩
  case B =>
    rw [List.length_map]
    exact ⟨congrArg D.bl (decide_eq_decide.mpr ⟨fun z => ⟨of_decide_eq_true hT, z⟩, fun z => z.2⟩), rfl⟩
  case G =>
    rintro _ _ ⟨rfl, rfl⟩
    refine d_cons (w_neg (w_int ⟨_, rfl, (d_nil ⟨_, ⟨_, -2, rfl, rfl⟩, ?_⟩)⟩))
    unfold spotsX at ho
    by_cases hc : 0 ≤ i ∧ i < (rs.length : Nat)
    · rw [if_pos hc] at ho
      rw [decide_eq_true hc]
      obtain ⟨k, rfl⟩ := Int.eq_ofNat_of_zero_le hc.1
      have hk : k < rs.length := by omega
      rw [Int.toNat_natCast, List.getElem?_eq_getElem hk] at ho
      have at1 : atI (rs.map optRow) (k : Int) = some (optRow rs[k]) := atI_nat (by rw [List.getElem?_map, List.getElem?_eq_getElem hk]; rfl)
      have hm : rs[k] ∈ rs := List.getElem_mem hk
      cases hrow : rs[k] with
      | none =>
        rw [hrow] at at1 ho
        refine ss_cons (s_expr (w_callX hwant (hr.mono (by decide)) rfl pcX (d_cons (w_cmp (w_ix (w_fld (wv 0 rfl ⟨DC, _, _, rfl, c.c, c.n, rfl, (wv 1 rfl ⟨_, ix2_lst at1, (w_none ⟨_, o_isnot, (d_cons (w_neg (w_int ⟨_, rfl, (d_nil ⟨_, ⟨_, -7, rfl, rfl⟩, ?_⟩)⟩)))⟩)⟩)⟩)))))))
        subst ho; rfl
      | some r =>
        rw [hrow] at at1 ho hm
        have okr := ok.ok r hm
        have hlr := okr.len
        refine ss_cons (s_expr (w_callX hwant (hr.mono (by decide)) rfl pcX (d_cons (w_cmp (w_ix (w_fld (wv 0 rfl ⟨DC, _, _, rfl, c.c, c.n, rfl, (wv 1 rfl ⟨_, ix2_lst at1, (w_none ⟨_, o_isnot, (d_cons (w_neg (w_int ⟨_, rfl, (d_nil ⟨_, ⟨_, -7, rfl, rfl⟩, ?_⟩)⟩)))⟩)⟩)⟩)))))))
        refine ss_cons (ssLc 2 [("point", 3)] [3] ptD (fun q => q.v.isSome) ptD nd (blkOk_by (by show blkC n_Desk_points (defScope s_Desk_points) _ _ = true; decide +kernel)) (i_list (w_ix (w_fld (wv 0 rfl ⟨DC, _, _, rfl, c.c, c.n, rfl, (wv 1 rfl ⟨_, ix2_lst at1, ⟨_, rfl, ⟨r, rfl, by omega, fun pfound => ?_, ?_⟩⟩⟩)⟩)))))
        · rw [spots_map]
          obtain ⟨pd, hpd⟩ := pqSpots (spotsOf r)
          refine ss_cons (s_expr (w_callX hwant (hr.mono (by decide)) rfl pcX (d_cons (w_see 2 rfl (w_cmp (wv 2 rfl (w_new (w_lst (d_nil ⟨len_le, ⟨_, (o_neNil hr.units hpd (by decide)), ⟨.bl _, (d_cons (w_neg (w_int ⟨_, rfl, (d_nil ⟨_, ⟨_, -5, rfl, rfl⟩, ?_⟩)⟩)))⟩⟩⟩)))))))))
          have ie : ((spotsOf r).map Sd).isEmpty = (spotsOf r).isEmpty := by cases spotsOf r <;> rfl
          rw [ie]
          have ho : o = outR RF Ld (if (spotsOf r).isEmpty = true then .error (-5) else .ok (spotsOf r)) := ho
          cases he : (spotsOf r).isEmpty with
          | true =>
            rw [he] at ho
            subst ho; rfl
          | false =>
            rw [he] at ho
            exact ss_one (s_ret (wg 2 rfl (finX ho)))
        · intro x hx
          refine ⟨_, fun s H0 C cl fp => (gn 3 nd rfl), fun s H0 C cl fp => (t_cmp (w_ix (wv 3 rfl (w_int ⟨_, (ix2_tup rfl), (w_none ⟨_, o_isnot, ⟨?_, rfl⟩⟩)⟩)))), fun _ s H0 C cl fp => (wv 3 rfl rfl)⟩
          show (!isN (optFd x.v)) = x.v.isSome
          cases x.v <;> rfl
    · rw [if_neg hc] at ho
      rw [decide_eq_false hc]
      subst ho; rfl
end
end Fp

set_option Elab.async false
set_option linter.all false
set_option maxRecDepth 100000
set_option maxHeartbeats 2000000
namespace Fp
open PySem PySem.Spec PyProof.Rows L2 Dl
open VatmsBase (Bytes word Frac frac whole fracRow)
open Vatmse (Spot Spots spotsOf spotAt timeOf Seg segRow runRow runsBy askStore totals apartOf)
theorem spots_ok {rs : List (Option (List VPoint))} {i : Int} {l : Spots} (ok : RsOk rs) (h : spotsX rs i = .ok l) : Good l ∧ 0 < l.length := by
  unfold spotsX at h
  split at h
  · rename_i hc
    cases hr : rs[i.toNat]? with
    | none => rw [hr] at h; cases h
    | some o =>
      rw [hr] at h
      cases o with
      | none => cases h
      | some r =>
        have h : (if (spotsOf r).isEmpty = true then (Except.error (-5) : Except Int Spots) else .ok (spotsOf r)) = .ok l := h
        split at h
        · cases h
        · rename_i he
          cases h
          refine ⟨good_spots (ok.ok r (List.mem_of_getElem? hr)), ?_⟩
          cases hl : spotsOf r with
          | nil => rw [hl] at he; exact (he rfl).elim
          | cons a b => exact Nat.succ_pos _
  · cases h
theorem walk_in {l : List Spot} {d : Frac} {ds : List Nat} : ∀ (f i : Nat), i < l.length → (∀ k ∈ Vatmse.walk l d ds f i, k < l.length) ∧ (Vatmse.walk l d ds f i).length ≤ f + 1
  | 0, i, h => ⟨fun k hk => by have := List.mem_singleton.mp hk; omega, Nat.le_refl _⟩
  | f + 1, i, h => by
    unfold Vatmse.walk
    split
    · exact ⟨fun k hk => by have := List.mem_singleton.mp hk; omega, by simp⟩
    · split
      · rename_i j hj
        have hjl := List.mem_range.mp (List.mem_of_find?_eq_some hj)
        obtain ⟨h1, h2⟩ := walk_in (l := l) (d := d) (ds := ds) f j hjl
        refine ⟨fun k hk => ?_, by rw [List.length_cons]; omega⟩
        rcases List.mem_cons.mp hk with e | e
        · omega
        · exact h1 k e
      · exact ⟨fun k hk => by have := List.mem_singleton.mp hk; omega, by simp⟩
theorem chart_in {l : List Spot} (d : Frac) (h0 : 0 < l.length) : (∀ k ∈ Vatmse.chart l d, k < l.length) ∧ (Vatmse.chart l d).length ≤ l.length + 1 := by
  unfold Vatmse.chart
  rw [if_neg (by cases l with
    | nil => cases h0
    | cons a b => exact Bool.false_ne_true)]
  exact walk_in _ _ h0
theorem apart_in {l : List Spot} {d : Frac} {ss : List Seg} (e : Vatmse.steps l d = ss) (S : Segs l d ss) : ∀ x ∈ apartOf l d, x.1 < l.length ∧ x.2 < l.length := by
  intro x hx
  unfold apartOf at hx
  rw [e] at hx
  obtain ⟨y, hy, ey⟩ := List.mem_map.mp hx
  obtain ⟨s1, s2, _⟩ := S.next y hy
  have h1 := s1.le
  have h2 := s1.lt
  have h3 := s2.le
  have h4 := s2.lt
  rw [← ey]
  refine ⟨?_, by show y.2.a < _; omega⟩
  show Option.getD _ _ < _
  cases hf : (List.range l.length).find? fun k => decide (y.1.a ≤ k ∧ k ≤ y.1.b) && VatmsBase.less (VatmsBase.plus d d) (VatmsBase.absOf (VatmsBase.minus (spotAt l k).v (spotAt l y.2.a).v)) with
  | none => show y.1.a < _; omega
  | some k => exact List.mem_range.mp (List.mem_of_find?_eq_some hf)
/-! ### what is told -/
abbrev RsX := List (Option (List VPoint))
def chartX (rs : RsX) (i a b : Int) : Except Int (List Int) := (spotsX rs i).bind fun l => (boundX a b).bind fun d => .ok (((Vatmse.chart l d).length : Int) :: (Vatmse.chart l d).map (timeOf l))
def depthsX (rs : RsX) (i a b : Int) : Except Int (List Int) := (spotsX rs i).bind fun l => (boundX a b).bind fun d => .ok ((l.length : Int) :: Vatmse.nats (Vatmse.depths l d))
def stepsX (rs : RsX) (i a b : Int) : Except Int (List Int) := (spotsX rs i).bind fun l => (boundX a b).bind fun d => .ok (((Vatmse.steps l d).length : Int) :: (Vatmse.steps l d).flatMap (segRow l))
def apartX (rs : RsX) (i a b : Int) : Except Int (List Int) := (spotsX rs i).bind fun l => (boundX a b).bind fun d => .ok (((apartOf l d).length : Int) :: (apartOf l d).flatMap fun x => [timeOf l x.1, timeOf l x.2])
def outI (RF : Addr) : Except Int (List Int) → Ox := outR RF fun l => .lst (l.map D.int)
def p_iab (RF DC : Addr) (X : RsX → Int → Int → Int → Except Int (List Int)) : List D → Ox → Prop := fun ds o => ∃ (rs : RsX) (i a b : Int), ds = [deskD DC (some rs), .int i, .int a, .int b] ∧ RsOk rs ∧ o = outI RF (X rs i a b)
section
variable {P : Program} {w : World} {K : PySem.W.Frag} {mg : Str → Option Value} {base : Heap} {RF DC : Addr}
/-! ### Desk.chart_told -/
abbrev s_Desk_chart_told : Stmt := inClass (top 93) 3
abbrev n_Desk_chart_told : List Str := ["self", "i", "a", "b", "points", "numbers"]
theorem sc_Desk_chart_told : FnScope n_Desk_chart_told ["self", "i", "a", "b"] (defScope s_Desk_chart_told) := ⟨rfl, rfl, rfl, by decide +kernel, rfl, by decide +kernel, by decide +kernel⟩
theorem f_Desk_chart_told (F : Ma K DC "chart_told" "Desk.chart_told" s_Desk_chart_told) (c : DkC K DC) (hpoints : MvPoints P w K mg base RF DC) (hbound : FvBound P w K mg base RF) (hchart : Fv P w K mg base CX0 7 "chart" ["points", "bound"] (PureP p_chart)) (htimes_of : FvTimesOf P w K mg base) (nlen : mg "len" = none) :
    Mv P w K mg base (L2.CX P w) 8 DC "chart_told" ["self", "i", "a", "b"] (PureX (p_iab RF DC chartX)) := by
  refine ma_mv F (fun _ _ _ _ _ _ us hl => match us, hl with | [_, _, _, _], _ => rfl) fun f fd F => fnX F sc_Desk_chart_told (fun Γ r h => by obtain ⟨ds, o, e, ⟨b, n, _, _, e2, _⟩, _⟩ := h; subst e; subst e2; rfl) ?_
  have nd := sc_Desk_chart_told.nd
  intro cdv A outer s H E Γ r hr hp
  obtain ⟨_, o, rfl, ⟨rs, i, a, b, rfl, ok, ho⟩, rfl⟩ := pureX_of hp
  have hz : sizeLine = 16777216 := sizeLine_eq
  unfold chartX at ho
  refine ss_cons (ss 4 nd (w_methD hpoints c.c (hr.mono (by decide)) pcX (wv 0 rfl ⟨_, rfl, rfl, (d_cons (wv 1 rfl (d_nil ⟨_, ⟨rs, i, rfl, ok, rfl⟩, ?_⟩)))⟩)))
  cases hs : spotsX rs i with
  | error n => rw [hs] at ho; subst ho; rfl
  | ok l =>
    rw [hs] at ho
    obtain ⟨g, h0⟩ := spots_ok ok hs
    have hlen := g.len
    refine ss_cons (ss 5 nd (w_callP hchart (hr.mono (by decide)) rfl pass (d_cons (wv 4 rfl (d_cons (w_callX hbound (hr.mono (by decide)) rfl pcX (d_cons (wv 2 rfl (d_cons (wv 3 rfl (d_nil ⟨_, ⟨a, b, rfl, rfl⟩, ?_⟩)))))))))))
    cases hb : boundX a b with
    | error n => rw [hb] at ho; subst ho; rfl
    | ok d =>
      rw [hb] at ho
      obtain ⟨bd, d0⟩ := bound_ok hb
      obtain ⟨ci, cl⟩ := chart_in d h0
      refine d_nil ⟨_, ⟨l, d, rfl, g, h0, bd, rfl⟩, ?_⟩
      refine ss_one (s_ret (w_new (w_binN (w_new (w_lst (d_cons (w_callB rfl nlen boot_len (d_cons (wv 5 rfl (d_nil ⟨_, c_lenL, (d_nil ⟨len_le, (w_callP htimes_of (hr.mono (by decide)) rfl pass (d_cons (wv 4 rfl (d_cons (wv 5 rfl (d_nil ⟨_, ⟨l, Vatmse.chart l d, _, rfl, .inl rfl, ci, by omega, rfl⟩, ⟨_, o_catL ?_, finX ?_⟩⟩))))))⟩)⟩))))))))))
      · simp only [List.length_map, List.length_cons, List.length_nil]; omega
      · rw [List.length_map]; exact ho
/-! ### Desk.depths_told -/
abbrev s_Desk_depths_told : Stmt := inClass (top 93) 5
abbrev n_Desk_depths_told : List Str := ["self", "i", "a", "b", "points"]
theorem sc_Desk_depths_told : FnScope n_Desk_depths_told ["self", "i", "a", "b"] (defScope s_Desk_depths_told) := ⟨rfl, rfl, rfl, by decide +kernel, rfl, by decide +kernel, by decide +kernel⟩
theorem f_Desk_depths_told (F : Ma K DC "depths_told" "Desk.depths_told" s_Desk_depths_told) (c : DkC K DC) (hpoints : MvPoints P w K mg base RF DC) (hbound : FvBound P w K mg base RF) (hlines : FvLines P w K mg base) (hdepths : FvDepths P w K mg base) (nlen : mg "len" = none) :
    Mv P w K mg base (L2.CX P w) 8 DC "depths_told" ["self", "i", "a", "b"] (PureX (p_iab RF DC depthsX)) := by
  refine ma_mv F (fun _ _ _ _ _ _ us hl => match us, hl with | [_, _, _, _], _ => rfl) fun f fd F => fnX F sc_Desk_depths_told (fun Γ r h => by obtain ⟨ds, o, e, ⟨b, n, _, _, e2, _⟩, _⟩ := h; subst e; subst e2; rfl) ?_
  have nd := sc_Desk_depths_told.nd
  intro cdv A outer s H E Γ r hr hp
  obtain ⟨_, o, rfl, ⟨rs, i, a, b, rfl, ok, ho⟩, rfl⟩ := pureX_of hp
  have hz : sizeLine = 16777216 := sizeLine_eq
  unfold depthsX at ho
  refine ss_cons (ss 4 nd (w_methD hpoints c.c (hr.mono (by decide)) pcX (wv 0 rfl ⟨_, rfl, rfl, (d_cons (wv 1 rfl (d_nil ⟨_, ⟨rs, i, rfl, ok, rfl⟩, ?_⟩)))⟩)))
  cases hs : spotsX rs i with
  | error n => rw [hs] at ho; subst ho; rfl
  | ok l =>
    rw [hs] at ho
    obtain ⟨g, h0⟩ := spots_ok ok hs
    have hlen := g.len
    refine ss_one (s_ret (w_new (w_binN (w_new (w_lst (d_cons (w_callB rfl nlen boot_len (d_cons (wv 4 rfl (d_nil ⟨_, c_lenL, (d_nil ⟨len_le, (w_callP hdepths (hr.mono (by decide)) rfl pass (d_cons (w_callP hlines (hr.mono (by decide)) rfl pass (d_cons (wv 4 rfl (d_cons (w_callX hbound (hr.mono (by decide)) rfl pcX (d_cons (wv 2 rfl (d_cons (wv 3 rfl (d_nil ⟨_, ⟨a, b, rfl, rfl⟩, ?_⟩))))))))))))⟩)⟩))))))))))
    cases hb : boundX a b with
    | error n => rw [hb] at ho; subst ho; rfl
    | ok d =>
      rw [hb] at ho
      obtain ⟨bd, d0⟩ := bound_ok hb
      refine d_nil ⟨_, ⟨l, d, rfl, g, bd, rfl⟩, d_nil ⟨_, ⟨l, d, rfl, g, h0, rfl⟩, ⟨_, o_catL ?_, finX ?_⟩⟩⟩
      · have := (deep_depths (d := d) h0).len
        simp only [List.length_map, List.length_cons, List.length_nil]; omega
      · rw [List.length_map, ho]
        show Ox.ok (.lst (.int _ :: (Vatmse.nats _).map D.int)) = Ox.ok (.lst (.int _ :: List.map Nd _))
        unfold Vatmse.nats
        rw [List.map_map]; rfl
/-! ### Desk.steps_told -/
abbrev s_Desk_steps_told : Stmt := inClass (top 93) 7
abbrev n_Desk_steps_told : List Str := ["self", "i", "a", "b", "points", "some", "found", "step"]
theorem sc_Desk_steps_told : FnScope n_Desk_steps_told ["self", "i", "a", "b"] (defScope s_Desk_steps_told) := ⟨rfl, rfl, rfl, by decide +kernel, rfl, by decide +kernel, by decide +kernel⟩
theorem f_Desk_steps_told (F : Ma K DC "steps_told" "Desk.steps_told" s_Desk_steps_told) (c : DkC K DC) (hpoints : MvPoints P w K mg base RF DC) (hbound : FvBound P w K mg base RF) (hsteps : Fv P w K mg base CX0 5 "steps" ["points", "bound"] (PureP p_steps)) (hsv : Fv P w K mg base CX0 4 "step_value" ["points", "step"] (PureP p_step_value)) (htimes_of : FvTimesOf P w K mg base) (nlen : mg "len" = none) (nlist : mg "list" = none) :
    Mv P w K mg base (L2.CX P w) 8 DC "steps_told" ["self", "i", "a", "b"] (PureX (p_iab RF DC stepsX)) := by
  refine ma_mv F (fun _ _ _ _ _ _ us hl => match us, hl with | [_, _, _, _], _ => rfl) fun f fd F => fnX F sc_Desk_steps_told (fun Γ r h => by obtain ⟨ds, o, e, ⟨b, n, _, _, e2, _⟩, _⟩ := h; subst e; subst e2; rfl) ?_
  have nd := sc_Desk_steps_told.nd
  intro cdv A outer s H E Γ r hr hp
  obtain ⟨_, o, rfl, ⟨rs, i, a, b, rfl, ok, ho⟩, rfl⟩ := pureX_of hp
  have hz : sizeLine = 16777216 := sizeLine_eq
  unfold stepsX at ho
  refine ss_cons (ss 4 nd (w_methD hpoints c.c (hr.mono (by decide)) pcX (wv 0 rfl ⟨_, rfl, rfl, (d_cons (wv 1 rfl (d_nil ⟨_, ⟨rs, i, rfl, ok, rfl⟩, ?_⟩)))⟩)))
  cases hs : spotsX rs i with
  | error n => rw [hs] at ho; subst ho; rfl
  | ok l =>
    rw [hs] at ho
    obtain ⟨g, h0⟩ := spots_ok ok hs
    have hlen := g.len
    refine ss_cons (ss 5 nd (w_callP hsteps (hr.mono (by decide)) rfl pass (d_cons (wv 4 rfl (d_cons (w_callX hbound (hr.mono (by decide)) rfl pcX (d_cons (wv 2 rfl (d_cons (wv 3 rfl (d_nil ⟨_, ⟨a, b, rfl, rfl⟩, ?_⟩)))))))))))
    cases hb : boundX a b with
    | error n => rw [hb] at ho; subst ho; rfl
    | ok d =>
      rw [hb] at ho
      obtain ⟨bd, d0⟩ := bound_ok hb
      have SS := steps_ok h0 bd.pos d0 g.pos
      have sl : (Vatmse.steps l d).length ≤ 60 := by
        have := SS.len
        cases hst : Vatmse.steps l d with
        | nil => exact Nat.zero_le _
        | cons s r =>
          rw [hst] at this
          have := this s rfl
          omega
      refine d_nil ⟨_, ⟨l, d, rfl, g, h0, bd, rfl⟩, ?_⟩
      refine ss_cons (ssN 6 nd (w_lst (d_cons (w_callB rfl nlen boot_len (d_cons (wv 5 rfl (d_nil ⟨_, c_lenL, (d_nil ⟨len_le, fun pf => ?_⟩)⟩)))))))
      rw [List.length_map]
      refine ss_cons (s_for (js := [7]) (passes_of rfl) rfl (i_list (wv 5 rfl ⟨_, rfl, ?_⟩)))
      refine for_ind (fun s => pairD (prS s)) (fun (u : List Int × Sl) => [.im (deskD DC (some rs)), .im (.int i), .im (.int a), .im (.int b), .im (Ld l), .im (segsD (Vatmse.steps l d)), .own pf (.lst (u.1.map D.int)), u.2])
        (fun u rest => (∀ s ∈ rest, SegOk l d s) ∧ u.1.length + 4 * rest.length ≤ 241 ∧ u.1 ++ rest.flatMap (segRow l) = ((Vatmse.steps l d).length : Int) :: (Vatmse.steps l d).flatMap (segRow l)) ?_ ?_ _ ([((Vatmse.steps l d).length : Int)], .un) ⟨SS.all, by show 1 + _ ≤ _; omega, rfl⟩
      · rintro ⟨acc, s1⟩ x rest ⟨h1, h2, h3⟩ nx hn
        have sx := h1 x List.mem_cons_self
        have h2 : acc.length + 4 * (rest.length + 1) ≤ 241 := h2
        have h3 : acc ++ (segRow l x ++ rest.flatMap (segRow l)) = _ := h3
        have xl := sx.lt
        have xe := sx.le
        refine (gn 7 nd ?_)
        refine ss_one (s_extend 6 rfl (.inl rfl) rfl (w_new (w_binN (w_callP htimes_of (hr.mono (by decide)) rfl pass (d_cons (wv 4 rfl (d_cons (wv 7 rfl (d_nil ⟨_, ⟨l, [x.a, x.b], _, rfl, .inr rfl, by simp; omega, (show (2 : Nat) ≤ 1000 by decide), rfl⟩, (w_callTy rfl nlist boot_list (d_cons (w_callP hsv (hr.mono (by decide)) rfl pass (d_cons (wv 4 rfl (d_cons (wv 7 rfl (d_nil ⟨_, ⟨l, x.a, x.b, rfl, g, xe, xl, rfl⟩, (d_nil ⟨_, c_listT, ⟨_, o_catL len_le, ⟨_, _, rfl, rfl, ?_, ?_⟩⟩⟩)⟩))))))))⟩)))))))))
        · show (List.map _ acc).length + 4 ≤ _
          rw [List.length_map]; omega
        · have := hn (acc ++ segRow l x, .im (pairD (prS x))) ⟨fun s hs => h1 s (List.mem_cons_of_mem _ hs), by show (acc ++ segRow l x).length + _ ≤ _; rw [List.length_append]; show acc.length + 4 + _ ≤ _; omega, by rw [← h3]; show (acc ++ _) ++ _ = _; rw [List.append_assoc]⟩
          rw [List.map_append] at this
          have e : (segRow l x).map D.int = [.int (timeOf l x.a), .int (timeOf l x.b), .int (VatmsBase.times (VatmsBase.plus (loS l x.a x.b) (hiS l x.a x.b)) (frac 1 2)).num, .int ((VatmsBase.times (VatmsBase.plus (loS l x.a x.b) (hiS l x.a x.b)) (frac 1 2)).den : Nat)] := by
            unfold segRow Vatmse.middle
            rw [sx.lo, sx.hi]; rfl
          rw [e] at this
          exact this
      · rintro ⟨acc, s1⟩ ⟨_, _, h3⟩
        have h3 : acc ++ [] = _ := h3
        rw [List.append_nil] at h3
        exact ss_one (s_ret (wg 6 rfl (finX (by rw [ho, h3]; rfl))))
/-! ### Desk.apart -/
abbrev s_Desk_apart : Stmt := inClass (top 93) 8
abbrev n_Desk_apart : List Str := ["self", "i", "a", "b", "points", "some", "found", "pair"]
theorem sc_Desk_apart : FnScope n_Desk_apart ["self", "i", "a", "b"] (defScope s_Desk_apart) := ⟨rfl, rfl, rfl, by decide +kernel, rfl, by decide +kernel, by decide +kernel⟩
theorem f_Desk_apart (F : Ma K DC "apart" "Desk.apart" s_Desk_apart) (c : DkC K DC) (hpoints : MvPoints P w K mg base RF DC) (hbound : FvBound P w K mg base RF) (hpa : Fv P w K mg base CX0 6 "pairs_apart" ["points", "bound"] (PureP p_pairs_apart)) (htimes_of : FvTimesOf P w K mg base) (nlen : mg "len" = none) :
    Mv P w K mg base (L2.CX P w) 8 DC "apart" ["self", "i", "a", "b"] (PureX (p_iab RF DC apartX)) := by
  refine ma_mv F (fun _ _ _ _ _ _ us hl => match us, hl with | [_, _, _, _], _ => rfl) fun f fd F => fnX F sc_Desk_apart (fun Γ r h => by obtain ⟨ds, o, e, ⟨b, n, _, _, e2, _⟩, _⟩ := h; subst e; subst e2; rfl) ?_
  have nd := sc_Desk_apart.nd
  intro cdv A outer s H E Γ r hr hp
  obtain ⟨_, o, rfl, ⟨rs, i, a, b, rfl, ok, ho⟩, rfl⟩ := pureX_of hp
  have hz : sizeLine = 16777216 := sizeLine_eq
  unfold apartX at ho
  refine ss_cons (ss 4 nd (w_methD hpoints c.c (hr.mono (by decide)) pcX (wv 0 rfl ⟨_, rfl, rfl, (d_cons (wv 1 rfl (d_nil ⟨_, ⟨rs, i, rfl, ok, rfl⟩, ?_⟩)))⟩)))
  cases hs : spotsX rs i with
  | error n => rw [hs] at ho; subst ho; rfl
  | ok l =>
    rw [hs] at ho
    obtain ⟨g, h0⟩ := spots_ok ok hs
    have hlen := g.len
    refine ss_cons (ss 5 nd (w_callP hpa (hr.mono (by decide)) rfl pass (d_cons (wv 4 rfl (d_cons (w_callX hbound (hr.mono (by decide)) rfl pcX (d_cons (wv 2 rfl (d_cons (wv 3 rfl (d_nil ⟨_, ⟨a, b, rfl, rfl⟩, ?_⟩)))))))))))
    cases hb : boundX a b with
    | error n => rw [hb] at ho; subst ho; rfl
    | ok d =>
      rw [hb] at ho
      obtain ⟨bd, d0⟩ := bound_ok hb
      have SS := steps_ok h0 bd.pos d0 g.pos
      have ai := apart_in rfl SS
      have sl : (apartOf l d).length ≤ 60 := by
        have h2 : (apartOf l d).length ≤ (Vatmse.steps l d).length := by
          unfold apartOf
          rw [List.length_map, List.length_zip]; omega
        have := SS.len
        cases hst : Vatmse.steps l d with
        | nil => rw [hst] at h2; exact Nat.le_trans h2 (Nat.zero_le _)
        | cons s r =>
          rw [hst] at this h2
          have := this s rfl
          omega
      refine d_nil ⟨_, ⟨l, d, rfl, g, h0, bd, d0, rfl⟩, ?_⟩
      refine ss_cons (ssN 6 nd (w_lst (d_cons (w_callB rfl nlen boot_len (d_cons (wv 5 rfl (d_nil ⟨_, c_lenL, (d_nil ⟨len_le, fun pf => ?_⟩)⟩)))))))
      rw [List.length_map]
      refine ss_cons (s_for (js := [7]) (passes_of rfl) rfl (i_list (wv 5 rfl ⟨_, rfl, ?_⟩)))
      refine for_ind pairD (fun (u : List Int × Sl) => [.im (deskD DC (some rs)), .im (.int i), .im (.int a), .im (.int b), .im (Ld l), .im (.lst ((apartOf l d).map pairD)), .own pf (.lst (u.1.map D.int)), u.2])
        (fun u rest => (∀ x ∈ rest, x.1 < l.length ∧ x.2 < l.length) ∧ u.1.length + 2 * rest.length ≤ 241 ∧ u.1 ++ rest.flatMap (fun x => [timeOf l x.1, timeOf l x.2]) = ((apartOf l d).length : Int) :: (apartOf l d).flatMap fun x => [timeOf l x.1, timeOf l x.2]) ?_ ?_ _ ([((apartOf l d).length : Int)], .un) ⟨ai, by show 1 + _ ≤ _; omega, rfl⟩
      · rintro ⟨acc, s1⟩ x rest ⟨h1, h2, h3⟩ nx hn
        obtain ⟨x1, x2⟩ := h1 x List.mem_cons_self
        have h2 : acc.length + 2 * (rest.length + 1) ≤ 241 := h2
        have h3 : acc ++ ([timeOf l x.1, timeOf l x.2] ++ rest.flatMap _) = _ := h3
        refine (gn 7 nd ?_)
        refine ss_one (s_extend 6 rfl (.inl rfl) rfl (w_callP htimes_of (hr.mono (by decide)) rfl pass (d_cons (wv 4 rfl (d_cons (wv 7 rfl (d_nil ⟨_, ⟨l, [x.1, x.2], _, rfl, .inr rfl, by simp; omega, (show (2 : Nat) ≤ 1000 by decide), rfl⟩, ⟨_, _, rfl, rfl, ?_, ?_⟩⟩)))))))
        · show (List.map _ acc).length + 2 ≤ _
          rw [List.length_map]; omega
        · have := hn (acc ++ [timeOf l x.1, timeOf l x.2], .im (pairD x)) ⟨fun s hs => h1 s (List.mem_cons_of_mem _ hs), by show (acc ++ [_, _]).length + _ ≤ _; rw [List.length_append]; show acc.length + 2 + _ ≤ _; omega, by rw [← h3]; show (acc ++ _) ++ _ = _; rw [List.append_assoc]⟩
          rw [List.map_append] at this
          exact this
      · rintro ⟨acc, s1⟩ ⟨_, _, h3⟩
        have h3 : acc ++ [] = _ := h3
        rw [List.append_nil] at h3
        exact ss_one (s_ret (wg 6 rfl (finX (by rw [ho, h3]; rfl))))
end
end Fp

set_option Elab.async false
set_option linter.all false
set_option maxRecDepth 100000
set_option maxHeartbeats 2000000
namespace Fp
open PySem PySem.Spec PyProof.Rows L2 Dl
open VatmsBase (Bytes word Frac frac whole fracRow)
open Vatmse (Spot Spots spotsOf spotAt timeOf runRow runsBy askStore storeOf)
def storeX (rs : RsX) (i : Int) : Except Int (List Int) := (spotsX rs i).bind fun l => match storeOf l with
  | none => .error (-5)
  | some s => .ok ((s.runs.length : Int) :: (s.first.t :: fracRow s.first.v ++ s.runs.flatMap runRow))
def askX (rs : RsX) (i t : Int) : Except Int (List Int) := (spotsX rs i).bind fun l => match storeOf l with
  | none => .error (-5)
  | some s => .ok (match (askStore s t).1 with
    | some v => 1 :: (fracRow v ++ [((askStore s t).2 : Int)])
    | none => [0, ((askStore s t).2 : Int)])
def totalsX (rs : RsX) (i : Int) : Except Int (List Int) := (spotsX rs i).bind fun l => match storeOf l with
  | none => .error (-5)
  | some s => .ok (((Vatmse.totals s).n : Int) :: (fracRow (Vatmse.totals s).sum ++ (fracRow (Vatmse.totals s).lo ++ fracRow (Vatmse.totals s).hi)))
def p_i (RF DC : Addr) (X : RsX → Int → Except Int (List Int)) : List D → Ox → Prop := fun ds o => ∃ (rs : RsX) (i : Int), ds = [deskD DC (some rs), .int i] ∧ RsOk rs ∧ o = outI RF (X rs i)
def p_it (RF DC : Addr) (X : RsX → Int → Int → Except Int (List Int)) : List D → Ox → Prop := fun ds o => ∃ (rs : RsX) (i t : Int), ds = [deskD DC (some rs), .int i, .int t] ∧ RsOk rs ∧ o = outI RF (X rs i t)
section
variable {P : Program} {w : World} {K : PySem.W.Frag} {mg : Str → Option Value} {base : Heap} {RF DC : Addr}
/-! ### Desk.store -/
abbrev s_Desk_store : Stmt := inClass (top 93) 9
abbrev n_Desk_store : List Str := ["self", "i", "points", "some", "found", "later", "more", "many"]
theorem sc_Desk_store : FnScope n_Desk_store ["self", "i"] (defScope s_Desk_store) := ⟨rfl, rfl, rfl, by decide +kernel, rfl, by decide +kernel, by decide +kernel⟩
theorem f_Desk_store (F : Ma K DC "store" "Desk.store" s_Desk_store) (c : DkC K DC) (hpoints : MvPoints P w K mg base RF DC) (hruns : Fv P w K mg base CX0 4 "runs" ["points"] (PureP p_runs)) (nlen : mg "len" = none) (nlist : mg "list" = none) :
    Mv P w K mg base (L2.CX P w) 8 DC "store" ["self", "i"] (PureX (p_i RF DC storeX)) := by
  refine ma_mv F (fun _ _ _ _ _ _ us hl => match us, hl with | [_, _], _ => rfl) fun f fd F => fnX F sc_Desk_store (fun Γ r h => by obtain ⟨ds, o, e, ⟨b, n, e2, _⟩, _⟩ := h; subst e; subst e2; rfl) ?_
  have nd := sc_Desk_store.nd
  intro cdv A outer s H E Γ r hr hp
  obtain ⟨_, o, rfl, ⟨rs, i, rfl, ok, ho⟩, rfl⟩ := pureX_of hp
  have hz : sizeLine = 16777216 := sizeLine_eq
  unfold storeX at ho
  refine ss_cons (ss 2 nd (w_methD hpoints c.c (hr.mono (by decide)) pcX (wv 0 rfl ⟨_, rfl, rfl, (d_cons (wv 1 rfl (d_nil ⟨_, ⟨rs, i, rfl, ok, rfl⟩, ?_⟩)))⟩)))
  cases hs : spotsX rs i with
  | error n => rw [hs] at ho; subst ho; rfl
  | ok l =>
    rw [hs] at ho
    obtain ⟨g, h0⟩ := spots_ok ok hs
    have hlen := g.len
    cases l with
    | nil => cases h0
    | cons p l =>
      have rl := runs_len l p none
      have rl : (runsBy p none l).length ≤ l.length := rl
      have hlen : l.length + 1 ≤ 60 := hlen
      have ho : o = outI RF (.ok (((runsBy p none l).length : Int) :: (p.t :: fracRow p.v ++ (runsBy p none l).flatMap runRow))) := ho
      refine ss_cons (ss 3 nd (w_callP hruns (hr.mono (by decide)) rfl pass (d_cons (wv 2 rfl (d_nil ⟨_, ⟨p, l, rfl, g, rfl⟩, ?_⟩)))))
      refine ss_cons (ssN 4 nd (w_binN (w_new (w_lst (d_cons (w_callB rfl nlen boot_len (d_cons (wv 3 rfl (d_nil ⟨_, c_lenL, (d_cons (w_ix (w_ix (wv 2 rfl (w_int ⟨Sd p, ix2_lst at0, (w_int ⟨_, (ix2_tup rfl), (d_nil ⟨len_le, (w_callTy rfl nlist boot_list (d_cons (w_ix (w_ix (wv 2 rfl (w_int ⟨Sd p, ix2_lst at0, (w_int ⟨_, (ix2_tup rfl), (d_nil ⟨_, c_listT, ⟨_, o_catL len_le, fun pf => ?_⟩⟩)⟩)⟩))))))⟩)⟩)⟩)))))⟩)))))))))
      rw [List.length_map]
      refine ss_cons (s_for (js := [5, 6, 7]) (passes_of rfl) rfl (i_list (wv 3 rfl ⟨_, rfl, ?_⟩)))
      refine for_ind runD (fun (u : List Int × Sl × Sl × Sl) => [.im (deskD DC (some rs)), .im (.int i), .im (Ld (p :: l)), .im (.lst ((runsBy p none l).map runD)), .own pf (.lst (u.1.map D.int)), u.2.1, u.2.2.1, u.2.2.2])
        (fun u rest => u.1.length + 4 * rest.length ≤ 300 ∧ u.1 ++ rest.flatMap runRow = ((runsBy p none l).length : Int) :: (p.t :: fracRow p.v ++ (runsBy p none l).flatMap runRow)) ?_ ?_ _ ([((runsBy p none l).length : Int), p.t, p.v.num, (p.v.den : Nat)], .un, .un, .un) ⟨by show 4 + _ ≤ _; omega, rfl⟩
      · rintro ⟨acc, s1, s2, s3⟩ x rest ⟨h2, h3⟩ nx hn
        have h2 : acc.length + 4 * (rest.length + 1) ≤ 300 := h2
        have h3 : acc ++ (runRow x ++ rest.flatMap runRow) = _ := h3
        refine (g1_tup rfl (gs_cons (gn 5 nd (gs_cons (gn 6 nd (gs_cons (gn 7 nd (gs_nil ?_))))))))
        refine ss_one (s_extend 4 rfl (.inl rfl) rfl (w_new (w_binN (w_new (w_binN (w_new (w_lst (d_cons (wv 5 rfl (d_nil ⟨len_le, (w_callTy rfl nlist boot_list (d_cons (wv 6 rfl (d_nil ⟨_, c_listT, ⟨_, o_catL len_le, (w_new (w_lst (d_cons (wv 7 rfl (d_nil ⟨len_le, ⟨_, o_catL len_le, ⟨_, _, rfl, rfl, ?_, ?_⟩⟩⟩)))))⟩⟩))))⟩))))))))))
        · show (List.map _ acc).length + 4 ≤ _
          rw [List.length_map]; omega
        · have := hn (acc ++ runRow x, .im (.int x.dt), .im (Fd x.dv), .im (Nd x.n)) ⟨by show (acc ++ runRow x).length + _ ≤ _; rw [List.length_append]; show acc.length + 4 + _ ≤ _; omega, by rw [← h3]; show (acc ++ _) ++ _ = _; rw [List.append_assoc]⟩
          rw [List.map_append] at this
          exact this
      · rintro ⟨acc, s1, s2, s3⟩ ⟨_, h3⟩
        have h3 : acc ++ [] = _ := h3
        rw [List.append_nil] at h3
        exact ss_one (s_ret (wg 4 rfl (finX (by rw [ho, h3]; rfl))))
/-! ### Desk.asked_told -/
abbrev s_Desk_asked_told : Stmt := inClass (top 93) 10
abbrev n_Desk_asked_told : List Str := ["self", "i", "time", "points", "value", "many"]
theorem sc_Desk_asked_told : FnScope n_Desk_asked_told ["self", "i", "time"] (defScope s_Desk_asked_told) := ⟨rfl, rfl, rfl, by decide +kernel, rfl, by decide +kernel, by decide +kernel⟩
theorem f_Desk_asked_told (F : Ma K DC "asked_told" "Desk.asked_told" s_Desk_asked_told) (c : DkC K DC) (hpoints : MvPoints P w K mg base RF DC) (hruns : Fv P w K mg base CX0 4 "runs" ["points"] (PureP p_runs)) (hasked : Fv P w K mg base CX0 4 "asked" ["first", "some", "time"] (PureP p_asked)) (nlist : mg "list" = none) :
    Mv P w K mg base (L2.CX P w) 8 DC "asked_told" ["self", "i", "time"] (PureX (p_it RF DC askX)) := by
  refine ma_mv F (fun _ _ _ _ _ _ us hl => match us, hl with | [_, _, _], _ => rfl) fun f fd F => fnX F sc_Desk_asked_told (fun Γ r h => by obtain ⟨ds, o, e, ⟨b, n, _, e2, _⟩, _⟩ := h; subst e; subst e2; rfl) ?_
  have nd := sc_Desk_asked_told.nd
  intro cdv A outer s H E Γ r hr hp
  obtain ⟨_, o, rfl, ⟨rs, i, t, rfl, ok, ho⟩, rfl⟩ := pureX_of hp
  have hz : sizeLine = 16777216 := sizeLine_eq
  unfold askX at ho
  refine ss_cons (ss 3 nd (w_methD hpoints c.c (hr.mono (by decide)) pcX (wv 0 rfl ⟨_, rfl, rfl, (d_cons (wv 1 rfl (d_nil ⟨_, ⟨rs, i, rfl, ok, rfl⟩, ?_⟩)))⟩)))
  cases hs : spotsX rs i with
  | error n => rw [hs] at ho; subst ho; rfl
  | ok l =>
    rw [hs] at ho
    obtain ⟨g, h0⟩ := spots_ok ok hs
    have hlen := g.len
    cases l with
    | nil => cases h0
    | cons p l =>
      have rl : (runsBy p none l).length ≤ l.length := runs_len l p none
      have hlen : l.length + 1 ≤ 60 := hlen
      have ro : RunsOk p (runsBy p none l) := unp_ok (runs_none p l) g.tm g.bd (fun q hq => ⟨(g.bd q hq).pos, g.nm q hq⟩) g.up (by omega)
      have ho : o = outI RF (.ok (match (askStore ⟨p, runsBy p none l⟩ t).1 with
        | some v => 1 :: (fracRow v ++ [((askStore ⟨p, runsBy p none l⟩ t).2 : Int)])
        | none => [0, ((askStore ⟨p, runsBy p none l⟩ t).2 : Int)])) := ho
      refine ss_cons (s_asg (js := [4, 5]) (w_callP hasked (hr.mono (by decide)) rfl pass (d_cons (w_ix (wv 3 rfl (w_int ⟨Sd p, ix2_lst at0, (d_cons (w_callP hruns (hr.mono (by decide)) rfl pass (d_cons (wv 3 rfl (d_nil ⟨_, ⟨p, l, rfl, g, rfl⟩, (d_cons (wv 2 rfl (d_nil ⟨_, ⟨⟨p, runsBy p none l⟩, t, rfl, ro, (by show (runsBy p none l).length ≤ 60; omega), rfl⟩, (g1_tup rfl (gs_cons (gn 4 nd (gs_cons (gn 5 nd (gs_nil ?_))))))⟩)))⟩)))))⟩))))))
      cases ha : (askStore ⟨p, runsBy p none l⟩ t).1 with
      | none =>
        rw [ha] at ho
        refine ss_cons (s_if (t_cmp (wv 4 rfl (w_none ⟨_, o_is, ⟨fun hT => ?_, fun hF => (nomatch hF)⟩⟩))))
        exact ss_one (s_ret (w_new (w_lst (d_cons (w_int (d_cons (wv 5 rfl (d_nil ⟨len_le, finX ho⟩))))))))
      | some v =>
        rw [ha] at ho
        refine ss_cons (s_if (t_cmp (wv 4 rfl (w_none ⟨_, o_is, ⟨fun hT => (nomatch hT), fun hF => ss_nil ?_⟩⟩))))
        exact ss_one (s_ret (w_new (w_binN (w_new (w_binN (w_new (w_lst (d_cons (w_int (d_nil ⟨len_le, (w_callTy rfl nlist boot_list (d_cons (wv 4 rfl (d_nil ⟨_, c_listT, ⟨_, o_catL len_le, (w_new (w_lst (d_cons (wv 5 rfl (d_nil ⟨len_le, ⟨_, o_catL len_le, finX ho⟩⟩)))))⟩⟩))))⟩))))))))))
/-! ### Desk.totals_told -/
abbrev s_Desk_totals_told : Stmt := inClass (top 93) 11
abbrev n_Desk_totals_told : List Str := ["self", "i", "many", "whole", "least", "greatest"]
theorem sc_Desk_totals_told : FnScope n_Desk_totals_told ["self", "i"] (defScope s_Desk_totals_told) := ⟨rfl, rfl, rfl, by decide +kernel, rfl, by decide +kernel, by decide +kernel⟩
theorem f_Desk_totals_told (F : Ma K DC "totals_told" "Desk.totals_told" s_Desk_totals_told) (c : DkC K DC) (hpoints : MvPoints P w K mg base RF DC) (htotals : Fv P w K mg base CX0 5 "totals" ["points"] (PureP p_totals)) (nlist : mg "list" = none) :
    Mv P w K mg base (L2.CX P w) 8 DC "totals_told" ["self", "i"] (PureX (p_i RF DC totalsX)) := by
  refine ma_mv F (fun _ _ _ _ _ _ us hl => match us, hl with | [_, _], _ => rfl) fun f fd F => fnX F sc_Desk_totals_told (fun Γ r h => by obtain ⟨ds, o, e, ⟨b, n, e2, _⟩, _⟩ := h; subst e; subst e2; rfl) ?_
  have nd := sc_Desk_totals_told.nd
  intro cdv A outer s H E Γ r hr hp
  obtain ⟨_, o, rfl, ⟨rs, i, rfl, ok, ho⟩, rfl⟩ := pureX_of hp
  have hz : sizeLine = 16777216 := sizeLine_eq
  unfold totalsX at ho
  refine ss_cons (s_asg (js := [2, 3, 4, 5]) (w_callP htotals (hr.mono (by decide)) rfl pass (d_cons (w_methD hpoints c.c (hr.mono (by decide)) pcX (wv 0 rfl ⟨_, rfl, rfl, (d_cons (wv 1 rfl (d_nil ⟨_, ⟨rs, i, rfl, ok, rfl⟩, ?_⟩)))⟩)))))
  cases hs : spotsX rs i with
  | error n => rw [hs] at ho; subst ho; rfl
  | ok l =>
    rw [hs] at ho
    obtain ⟨g, h0⟩ := spots_ok ok hs
    have hlen := g.len
    cases l with
    | nil => cases h0
    | cons p l =>
      refine d_nil ⟨_, ⟨p, l, rfl, g, rfl⟩, g1_tup rfl (gs_cons (gn 2 nd (gs_cons (gn 3 nd (gs_cons (gn 4 nd (gs_cons (gn 5 nd (gs_nil ?_)))))))))⟩
      refine ss_one (s_ret (w_new (w_binN (w_new (w_binN (w_new (w_binN (w_new (w_lst (d_cons (wv 2 rfl (d_nil ⟨len_le, (w_callTy rfl nlist boot_list (d_cons (wv 3 rfl (d_nil ⟨_, c_listT, ⟨_, o_catL len_le, (w_callTy rfl nlist boot_list (d_cons (wv 4 rfl (d_nil ⟨_, c_listT, ⟨_, o_catL len_le, (w_callTy rfl nlist boot_list (d_cons (wv 5 rfl (d_nil ⟨_, c_listT, ⟨_, o_catL len_le, finX ho⟩⟩))))⟩⟩))))⟩⟩))))⟩))))))))))))
end
end Fp

set_option Elab.async false
set_option linter.all false
set_option maxRecDepth 100000
set_option maxHeartbeats 2000000
namespace Fp
open PySem PySem.Spec PyProof.Rows L2 Dl
open VatmsBase (Bytes word Frac frac whole fracRow)
open Vatmse (Spot Spots spotsOf spotAt timeOf readTimes readDepths chartOff depthOff)
theorem pq_ints (n : Nat) : ∀ l : List Int, PqA n (l.map D.int) (l.map PyData.int)
  | [] => .nil
  | i :: l => .cons (.int _ _) (pq_ints n l)
theorem eqv_ints : ∀ xs ys : List Int, PyData.eqvAll (xs.map PyData.int) (ys.map PyData.int) = decide (xs = ys)
  | [], [] => rfl
  | [], y :: ys => rfl
  | x :: xs, [] => rfl
  | x :: xs, y :: ys => by
    have ih := eqv_ints xs ys
    show (PyData.eqv (.int x) (.int y) && PyData.eqvAll (xs.map PyData.int) (ys.map PyData.int)) = _
    rw [ih, Bool.eq_iff_iff]
    simp [PyData.eqv]
theorem o_eqIL {X : Cx} {xs ys : List Int} (hu : X.A.units + 64 < cLine) : Op2 X (compareOp .Eq) (.lst (xs.map D.int)) (.lst (ys.map D.int)) (.bl (decide (xs = ys))) := by
  have z := o_eqD (X := X) hu (.lst (pq_ints 1 xs)) (.lst (pq_ints 1 ys)) (by decide) (by decide)
  have e : PyData.eqv (.list (xs.map PyData.int)) (.list (ys.map PyData.int)) = decide (xs = ys) := eqv_ints xs ys
  rw [e] at z
  exact z
def withinX (rs : RsX) (i a b : Int) (ts : List Int) : Except Int (List Int) := (spotsX rs i).bind fun l => (boundX a b).bind fun d => match readTimes l ts with
  | none => .error (-3)
  | some c => .ok (match chartOff l d c with
    | none => [1, (c.length : Int)]
    | some x => [0, timeOf l x.1, timeOf l x.2])
def showsX (rs : RsX) (i a b : Int) (ns : List Int) : Except Int (List Int) := (spotsX rs i).bind fun l => (boundX a b).bind fun d => match readDepths l ns with
  | none => .error (-3)
  | some e => .ok (match depthOff l d e with
    | none => [1, ((e.headD 0 + 1 : Nat) : Int)]
    | some x => [0, timeOf l x.1, timeOf l x.2])
def p_iabL (RF DC : Addr) (X : RsX → Int → Int → Int → List Int → Except Int (List Int)) : List D → Ox → Prop := fun ds o => ∃ (rs : RsX) (i a b : Int) (ts : List Int), ds = [deskD DC (some rs), .int i, .int a, .int b, .lst (ts.map D.int)] ∧ RsOk rs ∧ ts.length ≤ 2000 ∧ o = outI RF (X rs i a b ts)
section
variable {P : Program} {w : World} {K : PySem.W.Frag} {mg : Str → Option Value} {base : Heap} {RF DC : Addr}
/-! ### Desk.within -/
abbrev s_Desk_within : Stmt := inClass (top 93) 4
abbrev n_Desk_within : List Str := ["self", "i", "a", "b", "some", "points", "bound", "own", "found", "point", "time"]
theorem sc_Desk_within : FnScope n_Desk_within ["self", "i", "a", "b", "some"] (defScope s_Desk_within) := ⟨rfl, rfl, rfl, by decide +kernel, rfl, by decide +kernel, by decide +kernel⟩
theorem f_Desk_within (F : Ma K DC "within" "Desk.within" s_Desk_within) (c : DkC K DC) (hwant : FvWant P w K mg base RF) (hpoints : MvPoints P w K mg base RF DC) (hbound : FvBound P w K mg base RF)
    (hfwl : Fv P w K mg base CX0 6 "first_without_line" ["points", "numbers", "bound"] (PureP p_first_without_line)) (htimes_of : FvTimesOf P w K mg base) (nlen : mg "len" = none) (nall : mg "all" = none) (nsorted : mg "sorted" = none) (nset : mg "set" = none) :
    Mv P w K mg base (L2.CX P w) 8 DC "within" ["self", "i", "a", "b", "some"] (PureX (p_iabL RF DC withinX)) := by
  refine ma_mv F (fun _ _ _ _ _ _ us hl => match us, hl with | [_, _, _, _, _], _ => rfl) fun f fd F => fnX F sc_Desk_within (fun Γ r h => by obtain ⟨ds, o, e, ⟨b, n, _, _, _, e2, _⟩, _⟩ := h; subst e; subst e2; rfl) ?_
  have nd := sc_Desk_within.nd
  intro cdv A outer s H E Γ r hr hp
  obtain ⟨_, o, rfl, ⟨rs, i, a, b, ts, rfl, ok, tl, ho⟩, rfl⟩ := pureX_of hp
  have hz : sizeLine = 16777216 := sizeLine_eq
  unfold withinX at ho
  refine ss_cons (ss 5 nd (w_methD hpoints c.c (hr.mono (by decide)) pcX (wv 0 rfl ⟨_, rfl, rfl, (d_cons (wv 1 rfl (d_nil ⟨_, ⟨rs, i, rfl, ok, rfl⟩, ?_⟩)))⟩)))
  cases hs : spotsX rs i with
  | error n => rw [hs] at ho; subst ho; rfl
  | ok l =>
    rw [hs] at ho
    obtain ⟨g, h0⟩ := spots_ok ok hs
    have hlen := g.len
    refine ss_cons (ss 6 nd (w_callX hbound (hr.mono (by decide)) rfl pcX (d_cons (wv 2 rfl (d_cons (wv 3 rfl (d_nil ⟨_, ⟨a, b, rfl, rfl⟩, ?_⟩)))))))
    cases hb : boundX a b with
    | error n => rw [hb] at ho; subst ho; rfl
    | ok d =>
      rw [hb] at ho
      obtain ⟨bd, d0⟩ := bound_ok hb
      have up : (ownT l).Pairwise (· < ·) := by rw [List.pairwise_map]; exact g.up
      have g0 : (ownT l)[0]? = some (spotAt l 0).t := by rw [List.getElem?_map, spot_some h0]; rfl
      have gl : (ownT l)[l.length - 1]? = some (spotAt l (l.length - 1)).t := by rw [List.getElem?_map, spot_some (by omega)]; rfl
      have gL : (ownT l).getLast? = some (spotAt l (l.length - 1)).t := by rw [List.getLast?_eq_getElem?, List.length_map]; exact gl
      have ho : o = outI RF (match readTimes l ts with
        | none => .error (-3)
        | some c => .ok (match chartOff l d c with
          | none => [1, (c.length : Int)]
          | some x => [0, timeOf l x.1, timeOf l x.2])) := ho
      rw [read_times up h0] at ho
      refine ss_cons (ssN 7 nd (wlc [("point", 9)] [9] Sd (fun _ => true) (fun p => D.int p.t) nd (blkOk_by (by show blkC n_Desk_within (defScope s_Desk_within) _ _ = true; decide +kernel)) (i_list (wv 5 rfl ⟨_, rfl, ⟨l, rfl, by omega, fun pown => ?_, ?_⟩⟩))))
      · refine ss_freeze 7 rfl ?_
        rw [List.filter_eq_self.mpr (fun _ _ => rfl), show l.map (fun p => D.int p.t) = (ownT l).map D.int by rw [List.map_map]; rfl]
        let G0 : En := [.im (deskD DC (some rs)), .im (.int i), .im (.int a), .im (.int b), .im (.lst (ts.map D.int)), .im (Ld l), .im (Fd d), .im (.lst ((ownT l).map D.int)), .un, .un, .un]
        have hlo : (ownT l).length = l.length := List.length_map _
        show WpSs _ _ _ _ G0 _
        refine ss_cons (s_expr (w_callX hwant (hr.mono (by decide)) rfl pcX (d_cons (Wp.mono (R := fun dd Γ' => dd = .bl (decide ((∀ t ∈ ts, t ∈ ownT l) ∧ ts.Pairwise (· < ·))) ∧ Γ' = G0)
          (w_and (w_callB rfl nall boot_all (d_cons (w_new (wlc [("time", 10)] [10] D.int (fun _ => true) (fun t => .bl (decide (t ∈ ownT l))) nd (blkOk_by (by show blkC n_Desk_within (defScope s_Desk_within) _ _ = true; decide +kernel)) (i_list (wv 4 rfl ⟨_, rfl, ⟨ts, rfl, by omega, (d_nil ⟨.bl ((ts.map fun t => decide (t ∈ ownT l)).all id), ?all, ⟨_, rfl, fun hF => ?A, fun hT => w_one (w_cmp (wv 4 rfl (w_sortedSet rfl rfl nsorted rfl nset (wv 4 rfl ⟨ts, ownT l, (ownT l).filter (fun t => decide (t ∈ ts)), rfl, by omega, ?sub, by rw [hlo]; omega, up.sublist List.filter_sublist, ?mem, ⟨_, o_eqIL hr.units, ?B⟩⟩))))⟩⟩), ?el⟩⟩))))))) ?G))))
        case all =>
          rw [List.filter_eq_self.mpr (fun _ _ => rfl)]
          show Cl _ _ [D.lst (ts.map fun t => D.bl (decide (t ∈ ownT l)))] _
          rw [show (ts.map fun t => D.bl (decide (t ∈ ownT l))) = (ts.map fun t => decide (t ∈ ownT l)).map D.bl by rw [List.map_map]; rfl]
          exact c_all rfl
        case A =>
          refine ⟨congrArg D.bl (decide_eq_false fun z => ?_).symm, rfl⟩
          have : (ts.map fun t => decide (t ∈ ownT l)).all id = true := by
            rw [List.all_map, List.all_eq_true]
            exact fun t ht => decide_eq_true (z.1 t ht)
          rw [this] at hF; cases hF
        case sub =>
          rw [List.all_map, List.all_eq_true] at hT
          exact fun t ht => of_decide_eq_true (hT t ht)
        case mem =>
          rw [List.all_map, List.all_eq_true] at hT
          intro z
          rw [List.mem_filter, decide_eq_true_iff]
          exact ⟨fun h => h.2, fun h => ⟨of_decide_eq_true (hT z h), h⟩⟩
        case B =>
          rw [List.all_map, List.all_eq_true] at hT
          have hA : ∀ t ∈ ts, t ∈ ownT l := fun t ht => of_decide_eq_true (hT t ht)
          refine ⟨congrArg D.bl (decide_eq_decide.mpr ⟨fun z => ⟨hA, ?_⟩, fun z => ?_⟩), rfl⟩
          · rw [z]; exact up.sublist List.filter_sublist
          · refine ints_lt_uniq z.2 (up.sublist List.filter_sublist) fun t => ?_
            rw [List.mem_filter, decide_eq_true_iff]
            exact ⟨fun h => ⟨hA t h, h⟩, fun h => h.2⟩
        case el =>
          intro t ht
          exact ⟨_, fun s H0 C cl fp => (gn 10 nd rfl), fun s H0 C cl fp => ⟨rfl, rfl⟩, fun _ s H0 C cl fp => (w_cmp (wv 10 rfl (wv 7 rfl ⟨_, o_inIL, rfl⟩)))⟩
        case G =>
          rintro _ _ ⟨rfl, rfl⟩
          refine d_cons (w_neg (w_int ⟨_, rfl, (d_nil ⟨_, ⟨_, -3, rfl, rfl⟩, ?_⟩)⟩))
          by_cases hAB : (∀ t ∈ ts, t ∈ ownT l) ∧ ts.Pairwise (· < ·)
          · rw [decide_eq_true hAB]
            refine ss_cons (s_expr (w_callX hwant (hr.mono (by decide)) rfl pcX (d_cons (Wp.mono (R := fun dd Γ' => dd = .bl (decide ((spotAt l 0).t ∈ ts ∧ (spotAt l (l.length - 1)).t ∈ ts)) ∧ Γ' = G0)
              (w_and (w_cmp (w_ix (wv 7 rfl (w_int ⟨.int (spotAt l 0).t, ix2_lst (atI_nat (j := 0) (by rw [List.getElem?_map, g0]; rfl)), (wv 4 rfl ⟨_, o_inIL, ⟨_, rfl, fun hF => ?C, fun hT => w_one (w_cmp (w_ix (wv 7 rfl (w_neg (w_int ⟨_, rfl, ⟨.int (spotAt l (l.length - 1)).t, ix2_lst (atL (by rw [List.getLast?_map, gL]; rfl)), (wv 4 rfl ⟨_, o_inIL, ?D⟩)⟩⟩)))))⟩⟩)⟩))))) ?G2))))
            case C => exact ⟨congrArg D.bl (decide_eq_false fun z => of_decide_eq_false hF z.1).symm, rfl⟩
            case D => exact ⟨congrArg D.bl (decide_eq_decide.mpr ⟨fun z => ⟨of_decide_eq_true hT, z⟩, fun z => z.2⟩), rfl⟩
            case G2 =>
              rintro _ _ ⟨rfl, rfl⟩
              refine d_cons (w_neg (w_int ⟨_, rfl, (d_nil ⟨_, ⟨_, -3, rfl, rfl⟩, ?_⟩)⟩))
              by_cases hC : (spotAt l 0).t ∈ ts ∧ (spotAt l (l.length - 1)).t ∈ ts
              · rw [decide_eq_true hC]
                rw [if_pos ⟨hAB.1, hAB.2, hC⟩] at ho
                have cz : ∀ x ∈ (ts.map (ixOf l)).zip ((ts.map (ixOf l)).drop 1), x.1 < x.2 ∧ x.2 < l.length := by
                  have cp : (ts.map (ixOf l)).Pairwise (· < ·) := by
                    rw [List.pairwise_map]
                    exact hAB.2.imp_of_mem fun ha hb q => (ix_lt up (hAB.1 _ ha) (hAB.1 _ hb)).mpr q
                  have za := (zip_rising _).mpr cp
                  intro x hx
                  refine ⟨of_decide_eq_true (List.all_eq_true.mp za x hx), ?_⟩
                  have := List.mem_of_mem_drop (List.of_mem_zip (show (x.1, x.2) ∈ _ from hx)).2
                  obtain ⟨t, ht, e⟩ := List.mem_map.mp this
                  have := (List.getElem?_eq_some_iff.mp (ix_get up (hAB.1 t ht)).1).1
                  rw [← e, ← hlo]; exact this
                refine ss_cons (ss 8 nd (w_callP hfwl (hr.mono (by decide)) rfl pass (d_cons (wv 5 rfl (d_cons (w_new (wlc [("time", 10)] [10] D.int (fun _ => true) (fun t => Nd (ixOf l t)) nd (blkOk_by (by show blkC n_Desk_within (defScope s_Desk_within) _ _ = true; decide +kernel)) (i_list (wv 4 rfl ⟨_, rfl, ⟨ts, rfl, by omega, (d_cons (wv 6 rfl (d_nil ⟨_, ⟨l, ts.map (ixOf l), d, ?eq, g, bd, cz, rfl⟩, ?_⟩))), ?el2⟩⟩)))))))))
                case eq =>
                  rw [List.filter_eq_self.mpr (fun _ _ => rfl)]
                  show [Ld l, D.lst (ts.map fun t => Nd (ixOf l t)), Fd d] = [Ld l, NLd (ts.map (ixOf l)), Fd d]
                  unfold NLd
                  rw [List.map_map]; rfl
                case el2 =>
                  intro t ht
                  have hx := ix_get up (hAB.1 t ht)
                  exact ⟨_, fun s H0 C cl fp => (gn 10 nd rfl), fun s H0 C cl fp => ⟨rfl, rfl⟩, fun _ s H0 C cl fp => (w_index (wv 7 rfl ⟨ownT l, rfl, (wv 10 rfl ⟨t, ixOf l t, rfl, hx.1, (idx_own up hx.1).2, rfl⟩)⟩))⟩
                have ho : o = outI RF (.ok (match chartOff l d (ts.map (ixOf l)) with
                  | none => [1, ((ts.map (ixOf l)).length : Int)]
                  | some x => [0, timeOf l x.1, timeOf l x.2])) := ho
                cases hf : chartOff l d (ts.map (ixOf l)) with
                | none =>
                  rw [hf, List.length_map] at ho
                  refine ss_cons (s_if (t_cmp (wv 8 rfl (w_none ⟨_, o_is, ⟨fun hT => ?_, fun hF => (nomatch hF)⟩⟩))))
                  exact ss_one (s_ret (w_new (w_lst (d_cons (w_int (d_cons (w_callB rfl nlen boot_len (d_cons (wv 4 rfl (d_nil ⟨_, c_lenL, (d_nil ⟨len_le, finX (by rw [List.length_map]; exact ho)⟩)⟩))))))))))
                | some x =>
                  rw [hf] at ho
                  have hx := cz x (List.mem_of_find?_eq_some hf)
                  refine ss_cons (s_if (t_cmp (wv 8 rfl (w_none ⟨_, o_is, ⟨fun hT => (nomatch hT), fun hF => ss_nil ?_⟩⟩))))
                  exact ss_one (s_ret (w_new (w_binN (w_new (w_lst (d_cons (w_int (d_nil ⟨len_le, (w_callP htimes_of (hr.mono (by decide)) rfl pass (d_cons (wv 5 rfl (d_cons (wv 8 rfl (d_nil ⟨_, ⟨l, [x.1, x.2], _, rfl, .inr rfl, by simp; omega, (show (2 : Nat) ≤ 1000 by decide), rfl⟩, ⟨_, o_catL len_le, finX ho⟩⟩))))))⟩))))))))
              · rw [decide_eq_false hC]
                rw [if_neg fun z => hC z.2.2] at ho
                subst ho; rfl
          · rw [decide_eq_false hAB]
            rw [if_neg fun z => hAB ⟨z.1, z.2.1⟩] at ho
            subst ho; rfl
      · intro p hp
        exact ⟨_, fun s H0 C cl fp => (gn 9 nd rfl), fun s H0 C cl fp => ⟨rfl, rfl⟩, fun _ s H0 C cl fp => (w_ix (wv 9 rfl (w_int ⟨_, (ix2_tup rfl), rfl⟩)))⟩
end
end Fp

set_option Elab.async false
set_option linter.all false
set_option maxRecDepth 100000
set_option maxHeartbeats 2000000
namespace Fp
open PySem PySem.Spec PyProof.Rows L2 Dl
open VatmsBase (Bytes word Frac frac whole fracRow)
open Vatmse (Spot Spots spotsOf spotAt timeOf readTimes readDepths chartOff depthOff)
theorem depth_in {l : List Spot} {d : Frac} {e : List Nat} {x : Nat × Nat} (h : depthOff l d e = some x) : x.1 < l.length ∧ x.2 < l.length := by
  unfold depthOff at h
  obtain ⟨i, hi, hx⟩ := List.exists_of_findSome?_eq_some h
  cases hf : (List.range l.length).find? fun j => Vatmse.edge l d i j && decide (e[j]?.getD 0 + 1 < e[i]?.getD 0) with
  | none => rw [hf] at hx; cases hx
  | some j =>
    rw [hf] at hx
    cases hx
    exact ⟨List.mem_range.mp hi, List.mem_range.mp (List.mem_of_find?_eq_some hf)⟩
section
variable {P : Program} {w : World} {K : PySem.W.Frag} {mg : Str → Option Value} {base : Heap} {RF DC : Addr}
/-! ### Desk.shows -/
abbrev s_Desk_shows : Stmt := inClass (top 93) 6
abbrev n_Desk_shows : List Str := ["self", "i", "a", "b", "numbers", "points", "bound", "found", "number"]
theorem sc_Desk_shows : FnScope n_Desk_shows ["self", "i", "a", "b", "numbers"] (defScope s_Desk_shows) := ⟨rfl, rfl, rfl, by decide +kernel, rfl, by decide +kernel, by decide +kernel⟩
theorem f_Desk_shows (F : Ma K DC "shows" "Desk.shows" s_Desk_shows) (c : DkC K DC) (hwant : FvWant P w K mg base RF) (hpoints : MvPoints P w K mg base RF DC) (hbound : FvBound P w K mg base RF)
    (hff : Fv P w K mg base CX0 7 "first_fall" ["points", "numbers", "bound"] (PureP p_first_fall)) (htimes_of : FvTimesOf P w K mg base) (nlen : mg "len" = none) (nall : mg "all" = none) (gM : Glo K mg "MOST_SHOWN" (.int 999)) :
    Mv P w K mg base (L2.CX P w) 8 DC "shows" ["self", "i", "a", "b", "numbers"] (PureX (p_iabL RF DC showsX)) := by
  refine ma_mv F (fun _ _ _ _ _ _ us hl => match us, hl with | [_, _, _, _, _], _ => rfl) fun f fd F => fnX F sc_Desk_shows (fun Γ r h => by obtain ⟨ds, o, e, ⟨b, n, _, _, _, e2, _⟩, _⟩ := h; subst e; subst e2; rfl) ?_
  have nd := sc_Desk_shows.nd
  intro cdv A outer s H E Γ r hr hp
  obtain ⟨_, o, rfl, ⟨rs, i, a, b, ns, rfl, ok, tl, ho⟩, rfl⟩ := pureX_of hp
  have hz : sizeLine = 16777216 := sizeLine_eq
  unfold showsX at ho
  refine ss_cons (ss 5 nd (w_methD hpoints c.c (hr.mono (by decide)) pcX (wv 0 rfl ⟨_, rfl, rfl, (d_cons (wv 1 rfl (d_nil ⟨_, ⟨rs, i, rfl, ok, rfl⟩, ?_⟩)))⟩)))
  cases hs : spotsX rs i with
  | error n => rw [hs] at ho; subst ho; rfl
  | ok l =>
    rw [hs] at ho
    obtain ⟨g, h0⟩ := spots_ok ok hs
    have hlen := g.len
    refine ss_cons (ss 6 nd (w_callX hbound (hr.mono (by decide)) rfl pcX (d_cons (wv 2 rfl (d_cons (wv 3 rfl (d_nil ⟨_, ⟨a, b, rfl, rfl⟩, ?_⟩)))))))
    cases hb : boundX a b with
    | error n => rw [hb] at ho; subst ho; rfl
    | ok d =>
      rw [hb] at ho
      obtain ⟨bd, d0⟩ := bound_ok hb
      have ho : o = outI RF (match readDepths l ns with
        | none => .error (-3)
        | some e => .ok (match depthOff l d e with
          | none => [1, ((e.headD 0 + 1 : Nat) : Int)]
          | some x => [0, timeOf l x.1, timeOf l x.2])) := ho
      rw [read_depths] at ho
      let G0 : En := [.im (deskD DC (some rs)), .im (.int i), .im (.int a), .im (.int b), .im (.lst (ns.map D.int)), .im (Ld l), .im (Fd d), .un, .un]
      show WpSs _ _ _ _ G0 _
      refine ss_cons (s_expr (w_callX hwant (hr.mono (by decide)) rfl pcX (d_cons (Wp.mono (R := fun dd Γ' => dd = .bl (decide (ns.length = l.length ∧ ∀ z ∈ ns, 0 ≤ z ∧ z ≤ 999)) ∧ Γ' = G0) (w_and (w_cmp (w_callB rfl nlen boot_len (d_cons (wv 4 rfl (d_nil ⟨_, c_lenL, (w_callB rfl nlen boot_len (d_cons (wv 5 rfl (d_nil ⟨_, c_lenL, ⟨_, o_eqI, ⟨_, rfl, fun hF => ?A, fun hT => w_one (w_callB rfl nall boot_all (d_cons (w_new (wlc [("number", 8)] [8] D.int (fun _ => true) (fun t => .bl (decide (0 ≤ t ∧ t ≤ 999))) nd (blkOk_by (by show blkC n_Desk_shows (defScope s_Desk_shows) _ _ = true; decide +kernel)) (i_list (wv 4 rfl ⟨_, rfl, ⟨ns, rfl, by omega, (d_nil ⟨.bl ((ns.map fun t => decide (0 ≤ t ∧ t ≤ 999)).all id), ?all, ?B⟩), ?el⟩⟩))))))⟩⟩⟩))))⟩)))))) ?G))))
      case A =>
        refine ⟨congrArg D.bl (decide_eq_false fun z => of_decide_eq_false hF ?_).symm, rfl⟩
        rw [List.length_map, List.length_map, z.1]
      case all =>
        rw [List.filter_eq_self.mpr (fun _ _ => rfl)]
        show Cl _ _ [D.lst (ns.map fun t => D.bl (decide (0 ≤ t ∧ t ≤ 999)))] _
        rw [show (ns.map fun t => D.bl (decide (0 ≤ t ∧ t ≤ 999))) = (ns.map fun t => decide (0 ≤ t ∧ t ≤ 999)).map D.bl by rw [List.map_map]; rfl]
        exact c_all rfl
      case B =>
        have hT := of_decide_eq_true hT
        rw [List.length_map, List.length_map] at hT
        refine ⟨congrArg D.bl ?_, rfl⟩
        rw [List.all_map, Bool.eq_iff_iff, List.all_eq_true, decide_eq_true_iff]
        exact ⟨fun h => ⟨by omega, fun z hz => of_decide_eq_true (h z hz)⟩, fun h z hz => decide_eq_true (h.2 z hz)⟩
      case el =>
        intro t ht
        refine ⟨_, fun s H0 C cl fp => (gn 8 nd rfl), fun s H0 C cl fp => ⟨rfl, rfl⟩, fun _ s H0 C cl fp => (w_chain (w_int (wv 8 rfl ⟨_, o_le, fun hF => ?_, fun hT => w_glob gM rfl ⟨_, o_le, ?_⟩⟩)))⟩
        · exact congrArg D.bl (decide_eq_false fun z => of_decide_eq_false hF z.1).symm
        · exact congrArg D.bl (decide_eq_decide.mpr ⟨fun z => ⟨of_decide_eq_true hT, z⟩, fun z => z.2⟩)
      case G =>
        rintro _ _ ⟨rfl, rfl⟩
        refine d_cons (w_neg (w_int ⟨_, rfl, (d_nil ⟨_, ⟨_, -3, rfl, rfl⟩, ?_⟩)⟩))
        by_cases hAB : ns.length = l.length ∧ ∀ z ∈ ns, 0 ≤ z ∧ z ≤ 999
        · rw [decide_eq_true hAB]
          have hne : ns ≠ [] := fun z => by rw [z] at hAB; have := hAB.1; simp at this; omega
          have hg := List.getLast?_eq_some_getLast hne
          refine ss_cons (s_expr (w_callX hwant (hr.mono (by decide)) rfl pcX (d_cons (w_cmp (w_ix (wv 4 rfl (w_neg (w_int ⟨_, rfl, ⟨.int (ns.getLast hne), ix2_lst (atL (by rw [List.getLast?_map, hg]; rfl)), (w_int ⟨_, o_eqI, (d_cons (w_neg (w_int ⟨_, rfl, (d_nil ⟨_, ⟨_, -3, rfl, rfl⟩, ?_⟩)⟩)))⟩)⟩⟩))))))))
          by_cases hC : ns.getLast hne = 0
          · rw [decide_eq_true hC]
            rw [if_pos ⟨hAB.1, hAB.2, by rw [hg, hC]⟩] at ho
            have eN : (ns.map fun z => z.toNat).map Nd = ns.map D.int := by
              rw [List.map_map]
              refine List.map_congr_left fun z hz => ?_
              show D.int ((z.toNat : Nat) : Int) = .int z
              rw [Int.toNat_of_nonneg (hAB.2 z hz).1]
            have ho : o = outI RF (.ok (match depthOff l d (ns.map fun z => z.toNat) with
              | none => [1, (((ns.map fun z => z.toNat).headD 0 + 1 : Nat) : Int)]
              | some x => [0, timeOf l x.1, timeOf l x.2])) := ho
            refine ss_cons (ss 7 nd (w_callP hff (hr.mono (by decide)) rfl pass (d_cons (wv 5 rfl (d_cons (wv 4 rfl (d_cons (wv 6 rfl (d_nil ⟨_, ⟨l, ns.map fun z => z.toNat, d, by unfold NLd; rw [eN], g, bd, by rw [List.length_map]; exact hAB.1, rfl⟩, ?_⟩)))))))))
            cases hf : depthOff l d (ns.map fun z => z.toNat) with
            | none =>
              rw [hf] at ho
              refine ss_cons (s_if (t_cmp (wv 7 rfl (w_none ⟨_, o_is, ⟨fun hT => ?_, fun hF => (nomatch hF)⟩⟩))))
              cases ns with
              | nil => exact (hne rfl).elim
              | cons z r =>
                refine ss_one (s_ret (w_new (w_lst (d_cons (w_int (d_cons (w_bin (w_ix (wv 4 rfl (w_int ⟨.int z, ix2_lst at0, (w_int ⟨_, o_addI, (d_nil ⟨len_le, finX ?_⟩)⟩)⟩))))))))))
                rw [ho]
                have := (hAB.2 z List.mem_cons_self).1
                show Ox.ok (.lst [.int 1, .int ((z.toNat + 1 : Nat) : Int)]) = Ox.ok (.lst [.int 1, .int (z + 1)])
                rw [show ((z.toNat + 1 : Nat) : Int) = z + 1 by omega]
            | some x =>
              rw [hf] at ho
              have hx := depth_in hf
              refine ss_cons (s_if (t_cmp (wv 7 rfl (w_none ⟨_, o_is, ⟨fun hT => (nomatch hT), fun hF => ss_nil ?_⟩⟩))))
              exact ss_one (s_ret (w_new (w_binN (w_new (w_lst (d_cons (w_int (d_nil ⟨len_le, (w_callP htimes_of (hr.mono (by decide)) rfl pass (d_cons (wv 5 rfl (d_cons (wv 7 rfl (d_nil ⟨_, ⟨l, [x.1, x.2], _, rfl, .inr rfl, by simp; omega, (show (2 : Nat) ≤ 1000 by decide), rfl⟩, ⟨_, o_catL len_le, finX ho⟩⟩))))))⟩))))))))
          · rw [decide_eq_false hC]
            rw [if_neg fun z => hC (by have := z.2.2; rw [hg] at this; exact Option.some.inj this)] at ho
            subst ho; rfl
        · rw [decide_eq_false hAB]
          rw [if_neg fun z => hAB ⟨z.1, z.2.1⟩] at ho
          subst ho; rfl
end
end Fp

set_option Elab.async false
set_option linter.all false
set_option maxRecDepth 100000
set_option maxHeartbeats 2000000
namespace Fp
open PySem PySem.Spec PyProof.Rows L2 Dl
open VatmsBase (Bytes word Frac frac whole fracRow)
theorem told_rt {ds : List D} {o : Ox} {Γ' : En} : match o with
    | .ok d => FinR (ds.map Sl.im) (oxR (ds.map Sl.im) o) d Γ'
    | .ex C fs => xeR (oxR (ds.map Sl.im) o) C fs := by
  cases o with
  | ok d => exact finX rfl
  | ex C fs => rfl
/-- a call as it is handed to of_rows -/
def numC : Vatmse.Call → Int
  | .load _ => 0 | .chart _ _ _ => 1 | .within _ _ _ _ => 2 | .depths _ _ _ => 3 | .shows _ _ _ _ => 4 | .steps _ _ _ => 5 | .apart _ _ _ => 6 | .store _ => 7 | .asked_ _ _ => 8 | .totals _ => 9
def argC : Vatmse.Call → List D
  | .load b => [txD b]
  | .chart i a b => [.int i, .int a, .int b] | .within i a b l => [.int i, .int a, .int b, .lst (l.map D.int)] | .depths i a b => [.int i, .int a, .int b] | .shows i a b l => [.int i, .int a, .int b, .lst (l.map D.int)]
  | .steps i a b => [.int i, .int a, .int b] | .apart i a b => [.int i, .int a, .int b] | .store i => [.int i] | .asked_ i t => [.int i, .int t] | .totals i => [.int i]
def smallC : Vatmse.Call → Prop
  | .within _ _ _ l => l.length ≤ 2000 | .shows _ _ _ l => l.length ≤ 2000
  | _ => True
def isLoad : Vatmse.Call → Bool
  | .load _ => true
  | _ => false
def rowsX (rs : RsX) : Vatmse.Call → Except Int (List Int)
  | .load _ => .error 0
  | .chart i a b => chartX rs i a b | .within i a b l => withinX rs i a b l | .depths i a b => depthsX rs i a b | .shows i a b l => showsX rs i a b l
  | .steps i a b => stepsX rs i a b | .apart i a b => apartX rs i a b | .store i => storeX rs i | .asked_ i t => askX rs i t | .totals i => totalsX rs i
section
variable {P : Program} {w : World} {K : PySem.W.Frag} {mg : Str → Option Value} {base : Heap} {RF DC : Addr}
/-! ### Desk.of_rows -/
abbrev s_Desk_of_rows : Stmt := inClass (top 93) 12
abbrev n_Desk_of_rows : List Str := ["self", "number", "some"]
theorem sc_Desk_of_rows : FnScope n_Desk_of_rows ["self", "number", "some"] (defScope s_Desk_of_rows) := ⟨rfl, rfl, rfl, by decide +kernel, rfl, by decide +kernel, by decide +kernel⟩
def p_of_rows (RF DC : Addr) : List D → Ox → Prop := fun ds o => ∃ (rs : RsX) (cl : Vatmse.Call), ds = [deskD DC (some rs), .int (numC cl), .lst (argC cl)] ∧ RsOk rs ∧ isLoad cl = false ∧ smallC cl ∧ o = outI RF (rowsX rs cl)
abbrev MvRows (P : Program) (w : World) (K : PySem.W.Frag) (mg : Str → Option Value) (base : Heap) (RF DC : Addr) : Prop := Mv P w K mg base (L2.CX P w) 9 DC "of_rows" ["self", "number", "some"] (PureX (p_of_rows RF DC))
theorem f_Desk_of_rows (F : Ma K DC "of_rows" "Desk.of_rows" s_Desk_of_rows) (c : DkC K DC) (hchart : Mv P w K mg base (L2.CX P w) 8 DC "chart_told" ["self", "i", "a", "b"] (PureX (p_iab RF DC chartX))) (hwithin : Mv P w K mg base (L2.CX P w) 8 DC "within" ["self", "i", "a", "b", "some"] (PureX (p_iabL RF DC withinX)))
    (hdepths : Mv P w K mg base (L2.CX P w) 8 DC "depths_told" ["self", "i", "a", "b"] (PureX (p_iab RF DC depthsX))) (hshows : Mv P w K mg base (L2.CX P w) 8 DC "shows" ["self", "i", "a", "b", "numbers"] (PureX (p_iabL RF DC showsX)))
    (hsteps : Mv P w K mg base (L2.CX P w) 8 DC "steps_told" ["self", "i", "a", "b"] (PureX (p_iab RF DC stepsX))) (hapart : Mv P w K mg base (L2.CX P w) 8 DC "apart" ["self", "i", "a", "b"] (PureX (p_iab RF DC apartX)))
    (hstore : Mv P w K mg base (L2.CX P w) 8 DC "store" ["self", "i"] (PureX (p_i RF DC storeX))) (hasked : Mv P w K mg base (L2.CX P w) 8 DC "asked_told" ["self", "i", "time"] (PureX (p_it RF DC askX))) (htotals : Mv P w K mg base (L2.CX P w) 8 DC "totals_told" ["self", "i"] (PureX (p_i RF DC totalsX))) : MvRows P w K mg base RF DC := by
  refine ma_mv F (fun _ _ _ _ _ _ us hl => match us, hl with | [_, _, _], _ => rfl) fun f fd F => fnX F sc_Desk_of_rows (fun Γ r h => by obtain ⟨ds, o, e, ⟨b, n, e2, _⟩, _⟩ := h; subst e; subst e2; rfl) ?_
  have nd := sc_Desk_of_rows.nd
  intro cdv A outer s H E Γ r hr hp
  obtain ⟨_, o, rfl, ⟨rs, cl, rfl, ok, hl, sm, rfl⟩, rfl⟩ := pureX_of hp
  cases cl with
  | load b => cases hl
  | chart i a b =>
    refine ss_cons (s_if (t_cmp (wv 1 rfl (w_int ⟨_, o_eqI, ⟨fun hT => ?_, fun hF => (of_decide_eq_false hF rfl).elim⟩⟩))))
    exact ss_one (s_ret (w_methD hchart c.c (hr.mono (by decide)) pcX (wv 0 rfl ⟨_, rfl, rfl, (d_cons (w_ix (wv 2 rfl (w_int ⟨_, ix2_lst (atN (j := 0) rfl rfl), (d_cons (w_ix (wv 2 rfl (w_int ⟨_, ix2_lst (atN (j := 1) rfl rfl), (d_cons (w_ix (wv 2 rfl (w_int ⟨_, ix2_lst (atN (j := 2) rfl rfl), (d_nil ⟨_, ⟨rs, i, a, b, rfl, ok, rfl⟩, told_rt⟩)⟩))))⟩))))⟩))))⟩)))
  | within i a b l =>
    refine ss_cons (s_if (t_cmp (wv 1 rfl (w_int ⟨_, o_eqI, ⟨fun hT => absurd (of_decide_eq_true hT) (show ¬ ((2 : Int) = 1) by decide), fun hF => ss_nil ?_⟩⟩))))
    refine ss_cons (s_if (t_cmp (wv 1 rfl (w_int ⟨_, o_eqI, ⟨fun hT => ?_, fun hF => (of_decide_eq_false hF rfl).elim⟩⟩))))
    exact ss_one (s_ret (w_methD hwithin c.c (hr.mono (by decide)) pcX (wv 0 rfl ⟨_, rfl, rfl, (d_cons (w_ix (wv 2 rfl (w_int ⟨_, ix2_lst (atN (j := 0) rfl rfl), (d_cons (w_ix (wv 2 rfl (w_int ⟨_, ix2_lst (atN (j := 1) rfl rfl), (d_cons (w_ix (wv 2 rfl (w_int ⟨_, ix2_lst (atN (j := 2) rfl rfl), (d_cons (w_ix (wv 2 rfl (w_int ⟨_, ix2_lst (atN (j := 3) rfl rfl), (d_nil ⟨_, ⟨rs, i, a, b, l, rfl, ok, sm, rfl⟩, told_rt⟩)⟩))))⟩))))⟩))))⟩))))⟩)))
  | depths i a b =>
    refine ss_cons (s_if (t_cmp (wv 1 rfl (w_int ⟨_, o_eqI, ⟨fun hT => absurd (of_decide_eq_true hT) (show ¬ ((3 : Int) = 1) by decide), fun hF => ss_nil ?_⟩⟩))))
    refine ss_cons (s_if (t_cmp (wv 1 rfl (w_int ⟨_, o_eqI, ⟨fun hT => absurd (of_decide_eq_true hT) (show ¬ ((3 : Int) = 2) by decide), fun hF => ss_nil ?_⟩⟩))))
    refine ss_cons (s_if (t_cmp (wv 1 rfl (w_int ⟨_, o_eqI, ⟨fun hT => ?_, fun hF => (of_decide_eq_false hF rfl).elim⟩⟩))))
    exact ss_one (s_ret (w_methD hdepths c.c (hr.mono (by decide)) pcX (wv 0 rfl ⟨_, rfl, rfl, (d_cons (w_ix (wv 2 rfl (w_int ⟨_, ix2_lst (atN (j := 0) rfl rfl), (d_cons (w_ix (wv 2 rfl (w_int ⟨_, ix2_lst (atN (j := 1) rfl rfl), (d_cons (w_ix (wv 2 rfl (w_int ⟨_, ix2_lst (atN (j := 2) rfl rfl), (d_nil ⟨_, ⟨rs, i, a, b, rfl, ok, rfl⟩, told_rt⟩)⟩))))⟩))))⟩))))⟩)))
  | shows i a b l =>
    refine ss_cons (s_if (t_cmp (wv 1 rfl (w_int ⟨_, o_eqI, ⟨fun hT => absurd (of_decide_eq_true hT) (show ¬ ((4 : Int) = 1) by decide), fun hF => ss_nil ?_⟩⟩))))
    refine ss_cons (s_if (t_cmp (wv 1 rfl (w_int ⟨_, o_eqI, ⟨fun hT => absurd (of_decide_eq_true hT) (show ¬ ((4 : Int) = 2) by decide), fun hF => ss_nil ?_⟩⟩))))
    refine ss_cons (s_if (t_cmp (wv 1 rfl (w_int ⟨_, o_eqI, ⟨fun hT => absurd (of_decide_eq_true hT) (show ¬ ((4 : Int) = 3) by decide), fun hF => ss_nil ?_⟩⟩))))
    refine ss_cons (s_if (t_cmp (wv 1 rfl (w_int ⟨_, o_eqI, ⟨fun hT => ?_, fun hF => (of_decide_eq_false hF rfl).elim⟩⟩))))
    exact ss_one (s_ret (w_methD hshows c.c (hr.mono (by decide)) pcX (wv 0 rfl ⟨_, rfl, rfl, (d_cons (w_ix (wv 2 rfl (w_int ⟨_, ix2_lst (atN (j := 0) rfl rfl), (d_cons (w_ix (wv 2 rfl (w_int ⟨_, ix2_lst (atN (j := 1) rfl rfl), (d_cons (w_ix (wv 2 rfl (w_int ⟨_, ix2_lst (atN (j := 2) rfl rfl), (d_cons (w_ix (wv 2 rfl (w_int ⟨_, ix2_lst (atN (j := 3) rfl rfl), (d_nil ⟨_, ⟨rs, i, a, b, l, rfl, ok, sm, rfl⟩, told_rt⟩)⟩))))⟩))))⟩))))⟩))))⟩)))
  | steps i a b =>
    refine ss_cons (s_if (t_cmp (wv 1 rfl (w_int ⟨_, o_eqI, ⟨fun hT => absurd (of_decide_eq_true hT) (show ¬ ((5 : Int) = 1) by decide), fun hF => ss_nil ?_⟩⟩))))
    refine ss_cons (s_if (t_cmp (wv 1 rfl (w_int ⟨_, o_eqI, ⟨fun hT => absurd (of_decide_eq_true hT) (show ¬ ((5 : Int) = 2) by decide), fun hF => ss_nil ?_⟩⟩))))
    refine ss_cons (s_if (t_cmp (wv 1 rfl (w_int ⟨_, o_eqI, ⟨fun hT => absurd (of_decide_eq_true hT) (show ¬ ((5 : Int) = 3) by decide), fun hF => ss_nil ?_⟩⟩))))
    refine ss_cons (s_if (t_cmp (wv 1 rfl (w_int ⟨_, o_eqI, ⟨fun hT => absurd (of_decide_eq_true hT) (show ¬ ((5 : Int) = 4) by decide), fun hF => ss_nil ?_⟩⟩))))
    refine ss_cons (s_if (t_cmp (wv 1 rfl (w_int ⟨_, o_eqI, ⟨fun hT => ?_, fun hF => (of_decide_eq_false hF rfl).elim⟩⟩))))
    exact ss_one (s_ret (w_methD hsteps c.c (hr.mono (by decide)) pcX (wv 0 rfl ⟨_, rfl, rfl, (d_cons (w_ix (wv 2 rfl (w_int ⟨_, ix2_lst (atN (j := 0) rfl rfl), (d_cons (w_ix (wv 2 rfl (w_int ⟨_, ix2_lst (atN (j := 1) rfl rfl), (d_cons (w_ix (wv 2 rfl (w_int ⟨_, ix2_lst (atN (j := 2) rfl rfl), (d_nil ⟨_, ⟨rs, i, a, b, rfl, ok, rfl⟩, told_rt⟩)⟩))))⟩))))⟩))))⟩)))
  | apart i a b =>
    refine ss_cons (s_if (t_cmp (wv 1 rfl (w_int ⟨_, o_eqI, ⟨fun hT => absurd (of_decide_eq_true hT) (show ¬ ((6 : Int) = 1) by decide), fun hF => ss_nil ?_⟩⟩))))
    refine ss_cons (s_if (t_cmp (wv 1 rfl (w_int ⟨_, o_eqI, ⟨fun hT => absurd (of_decide_eq_true hT) (show ¬ ((6 : Int) = 2) by decide), fun hF => ss_nil ?_⟩⟩))))
    refine ss_cons (s_if (t_cmp (wv 1 rfl (w_int ⟨_, o_eqI, ⟨fun hT => absurd (of_decide_eq_true hT) (show ¬ ((6 : Int) = 3) by decide), fun hF => ss_nil ?_⟩⟩))))
    refine ss_cons (s_if (t_cmp (wv 1 rfl (w_int ⟨_, o_eqI, ⟨fun hT => absurd (of_decide_eq_true hT) (show ¬ ((6 : Int) = 4) by decide), fun hF => ss_nil ?_⟩⟩))))
    refine ss_cons (s_if (t_cmp (wv 1 rfl (w_int ⟨_, o_eqI, ⟨fun hT => absurd (of_decide_eq_true hT) (show ¬ ((6 : Int) = 5) by decide), fun hF => ss_nil ?_⟩⟩))))
    refine ss_cons (s_if (t_cmp (wv 1 rfl (w_int ⟨_, o_eqI, ⟨fun hT => ?_, fun hF => (of_decide_eq_false hF rfl).elim⟩⟩))))
    exact ss_one (s_ret (w_methD hapart c.c (hr.mono (by decide)) pcX (wv 0 rfl ⟨_, rfl, rfl, (d_cons (w_ix (wv 2 rfl (w_int ⟨_, ix2_lst (atN (j := 0) rfl rfl), (d_cons (w_ix (wv 2 rfl (w_int ⟨_, ix2_lst (atN (j := 1) rfl rfl), (d_cons (w_ix (wv 2 rfl (w_int ⟨_, ix2_lst (atN (j := 2) rfl rfl), (d_nil ⟨_, ⟨rs, i, a, b, rfl, ok, rfl⟩, told_rt⟩)⟩))))⟩))))⟩))))⟩)))
  | store i =>
    refine ss_cons (s_if (t_cmp (wv 1 rfl (w_int ⟨_, o_eqI, ⟨fun hT => absurd (of_decide_eq_true hT) (show ¬ ((7 : Int) = 1) by decide), fun hF => ss_nil ?_⟩⟩))))
    refine ss_cons (s_if (t_cmp (wv 1 rfl (w_int ⟨_, o_eqI, ⟨fun hT => absurd (of_decide_eq_true hT) (show ¬ ((7 : Int) = 2) by decide), fun hF => ss_nil ?_⟩⟩))))
    refine ss_cons (s_if (t_cmp (wv 1 rfl (w_int ⟨_, o_eqI, ⟨fun hT => absurd (of_decide_eq_true hT) (show ¬ ((7 : Int) = 3) by decide), fun hF => ss_nil ?_⟩⟩))))
    refine ss_cons (s_if (t_cmp (wv 1 rfl (w_int ⟨_, o_eqI, ⟨fun hT => absurd (of_decide_eq_true hT) (show ¬ ((7 : Int) = 4) by decide), fun hF => ss_nil ?_⟩⟩))))
    refine ss_cons (s_if (t_cmp (wv 1 rfl (w_int ⟨_, o_eqI, ⟨fun hT => absurd (of_decide_eq_true hT) (show ¬ ((7 : Int) = 5) by decide), fun hF => ss_nil ?_⟩⟩))))
    refine ss_cons (s_if (t_cmp (wv 1 rfl (w_int ⟨_, o_eqI, ⟨fun hT => absurd (of_decide_eq_true hT) (show ¬ ((7 : Int) = 6) by decide), fun hF => ss_nil ?_⟩⟩))))
    refine ss_cons (s_if (t_cmp (wv 1 rfl (w_int ⟨_, o_eqI, ⟨fun hT => ?_, fun hF => (of_decide_eq_false hF rfl).elim⟩⟩))))
    exact ss_one (s_ret (w_methD hstore c.c (hr.mono (by decide)) pcX (wv 0 rfl ⟨_, rfl, rfl, (d_cons (w_ix (wv 2 rfl (w_int ⟨_, ix2_lst (atN (j := 0) rfl rfl), (d_nil ⟨_, ⟨rs, i, rfl, ok, rfl⟩, told_rt⟩)⟩))))⟩)))
  | asked_ i t =>
    refine ss_cons (s_if (t_cmp (wv 1 rfl (w_int ⟨_, o_eqI, ⟨fun hT => absurd (of_decide_eq_true hT) (show ¬ ((8 : Int) = 1) by decide), fun hF => ss_nil ?_⟩⟩))))
    refine ss_cons (s_if (t_cmp (wv 1 rfl (w_int ⟨_, o_eqI, ⟨fun hT => absurd (of_decide_eq_true hT) (show ¬ ((8 : Int) = 2) by decide), fun hF => ss_nil ?_⟩⟩))))
    refine ss_cons (s_if (t_cmp (wv 1 rfl (w_int ⟨_, o_eqI, ⟨fun hT => absurd (of_decide_eq_true hT) (show ¬ ((8 : Int) = 3) by decide), fun hF => ss_nil ?_⟩⟩))))
    refine ss_cons (s_if (t_cmp (wv 1 rfl (w_int ⟨_, o_eqI, ⟨fun hT => absurd (of_decide_eq_true hT) (show ¬ ((8 : Int) = 4) by decide), fun hF => ss_nil ?_⟩⟩))))
    refine ss_cons (s_if (t_cmp (wv 1 rfl (w_int ⟨_, o_eqI, ⟨fun hT => absurd (of_decide_eq_true hT) (show ¬ ((8 : Int) = 5) by decide), fun hF => ss_nil ?_⟩⟩))))
    refine ss_cons (s_if (t_cmp (wv 1 rfl (w_int ⟨_, o_eqI, ⟨fun hT => absurd (of_decide_eq_true hT) (show ¬ ((8 : Int) = 6) by decide), fun hF => ss_nil ?_⟩⟩))))
    refine ss_cons (s_if (t_cmp (wv 1 rfl (w_int ⟨_, o_eqI, ⟨fun hT => absurd (of_decide_eq_true hT) (show ¬ ((8 : Int) = 7) by decide), fun hF => ss_nil ?_⟩⟩))))
    refine ss_cons (s_if (t_cmp (wv 1 rfl (w_int ⟨_, o_eqI, ⟨fun hT => ?_, fun hF => (of_decide_eq_false hF rfl).elim⟩⟩))))
    exact ss_one (s_ret (w_methD hasked c.c (hr.mono (by decide)) pcX (wv 0 rfl ⟨_, rfl, rfl, (d_cons (w_ix (wv 2 rfl (w_int ⟨_, ix2_lst (atN (j := 0) rfl rfl), (d_cons (w_ix (wv 2 rfl (w_int ⟨_, ix2_lst (atN (j := 1) rfl rfl), (d_nil ⟨_, ⟨rs, i, t, rfl, ok, rfl⟩, told_rt⟩)⟩))))⟩))))⟩)))
  | totals i =>
    refine ss_cons (s_if (t_cmp (wv 1 rfl (w_int ⟨_, o_eqI, ⟨fun hT => absurd (of_decide_eq_true hT) (show ¬ ((9 : Int) = 1) by decide), fun hF => ss_nil ?_⟩⟩))))
    refine ss_cons (s_if (t_cmp (wv 1 rfl (w_int ⟨_, o_eqI, ⟨fun hT => absurd (of_decide_eq_true hT) (show ¬ ((9 : Int) = 2) by decide), fun hF => ss_nil ?_⟩⟩))))
    refine ss_cons (s_if (t_cmp (wv 1 rfl (w_int ⟨_, o_eqI, ⟨fun hT => absurd (of_decide_eq_true hT) (show ¬ ((9 : Int) = 3) by decide), fun hF => ss_nil ?_⟩⟩))))
    refine ss_cons (s_if (t_cmp (wv 1 rfl (w_int ⟨_, o_eqI, ⟨fun hT => absurd (of_decide_eq_true hT) (show ¬ ((9 : Int) = 4) by decide), fun hF => ss_nil ?_⟩⟩))))
    refine ss_cons (s_if (t_cmp (wv 1 rfl (w_int ⟨_, o_eqI, ⟨fun hT => absurd (of_decide_eq_true hT) (show ¬ ((9 : Int) = 5) by decide), fun hF => ss_nil ?_⟩⟩))))
    refine ss_cons (s_if (t_cmp (wv 1 rfl (w_int ⟨_, o_eqI, ⟨fun hT => absurd (of_decide_eq_true hT) (show ¬ ((9 : Int) = 6) by decide), fun hF => ss_nil ?_⟩⟩))))
    refine ss_cons (s_if (t_cmp (wv 1 rfl (w_int ⟨_, o_eqI, ⟨fun hT => absurd (of_decide_eq_true hT) (show ¬ ((9 : Int) = 7) by decide), fun hF => ss_nil ?_⟩⟩))))
    refine ss_cons (s_if (t_cmp (wv 1 rfl (w_int ⟨_, o_eqI, ⟨fun hT => absurd (of_decide_eq_true hT) (show ¬ ((9 : Int) = 8) by decide), fun hF => ss_nil ?_⟩⟩))))
    exact ss_one (s_ret (w_methD htotals c.c (hr.mono (by decide)) pcX (wv 0 rfl ⟨_, rfl, rfl, (d_cons (w_ix (wv 2 rfl (w_int ⟨_, ix2_lst (atN (j := 0) rfl rfl), (d_nil ⟨_, ⟨rs, i, rfl, ok, rfl⟩, told_rt⟩)⟩))))⟩)))
end
end Fp

set_option Elab.async false
set_option linter.all false
set_option maxRecDepth 100000
set_option maxHeartbeats 2000000
namespace Fp
open PySem PySem.Spec PyProof.Rows L2 Dl
open VatmsBase (Bytes word Frac frac whole fracRow)
/-! ### the exceptions' __init__ -/
/-- an exception's class of the text, its __init__ a def of the text -/
structure Mx (K : PySem.W.Frag) (mg : Str → Option Value) (x : Str) (C : Addr) (qual : Str) (st : Stmt) : Prop where
  hm : mg x = some (.ref C)
  o : OexC K C
  xf : XfC K C
  te : PySem.W.exmOne K (.ref C) (.ref C) = some true
  ini : ∃ fI fd, PySem.W.findIn K (.ref C) "__init__" = some (some (.ref fI)) ∧ PySem.W.typeIn K (.ref fI) = some (.type "function") ∧ Fun K "__init__" qual st fI fd
section
variable {P : Program} {w : World} {K : PySem.W.Frag} {mg : Str → Option Value} {base : Heap} {FC RF DC PC : Addr}
abbrev s_Refused___init__ : Stmt := inClass (top 89) 0
abbrev n_Refused___init__ : List Str := ["self", "number"]
theorem sc_Refused___init__ : FnScope n_Refused___init__ ["self", "number"] (defScope s_Refused___init__) := ⟨rfl, rfl, rfl, by decide +kernel, rfl, by decide +kernel, by decide +kernel⟩
theorem f_Refused (F : Mx K mg "Refused" RF "Refused.__init__" s_Refused___init__) (hw : PySem.W.findIn K (.ref RF) "why" = some none) : RefK P w K mg base RF := by
  obtain ⟨fI, fd, h1, h2, G⟩ := F.ini
  refine ⟨F.hm, F.o, F.xf, F.te, fI, fd, h1, h2, G.binds (ps := ["self", "number"]) (fun _ _ _ _ _ _ us hl => match us, hl with | [_, _], _ => rfl), G.ok sc_Refused___init__ (fun vs H Q E ⟨a, ws, e, hl, _⟩ => by subst e; rw [List.length_cons, hl]; rfl) fun cdv A outer s H vs Q E hr h => ?_⟩
  obtain ⟨a, ws, rfl, hl, ha, k⟩ := h
  match ws, hl with
  | [y], _ =>
    refine ⟨_, pss_one (ps_ost (pe_var (i := 0) rfl (.inl rfl)) (pe_var (i := 1) rfl (.inl rfl))), ?_⟩
    exact ⟨y, rfl, .ref a, rfl, a, RF, rfl, F.o, hw, .inl ⟨ha, fun dx hd ne => k dx _ hd ne upd_same (by rw [upd_ne ne]; exact upd_same) fun b n1 n2 => by rw [upd_ne n1, upd_ne n2]⟩⟩
abbrev s_Fault___init__ : Stmt := inClass (top 50) 0
abbrev n_Fault___init__ : List Str := ["self", "code", "place"]
theorem sc_Fault___init__ : FnScope n_Fault___init__ ["self", "code", "place"] (defScope s_Fault___init__) := ⟨rfl, rfl, rfl, by decide +kernel, rfl, by decide +kernel, by decide +kernel⟩
theorem f_Fault (F : Mx K mg "Fault" FC "Fault.__init__" s_Fault___init__) (hc : PySem.W.findIn K (.ref FC) "code" = some none) (hp : PySem.W.findIn K (.ref FC) "place" = some none) : FaultK P w K mg base FC := by
  obtain ⟨fI, fd, h1, h2, G⟩ := F.ini
  refine ⟨F.hm, F.o, F.xf, F.te, fI, fd, h1, h2, G.binds (ps := ["self", "code", "place"]) (fun _ _ _ _ _ _ us hl => match us, hl with | [_, _, _], _ => rfl), G.ok sc_Fault___init__ (fun vs H Q E ⟨a, ws, e, hl, _⟩ => by subst e; rw [List.length_cons, hl]; rfl) fun cdv A outer s H vs Q E hr h => ?_⟩
  obtain ⟨a, ws, rfl, hl, ha, k⟩ := h
  match ws, hl with
  | [y, z], _ =>
    refine ⟨_, pss_cons (ps_ost (pe_var (i := 0) rfl (.inl rfl)) (pe_var (i := 1) rfl (.inl rfl))) (pss_one (ps_ost (pe_var (i := 0) rfl (.inl rfl)) (pe_var (i := 2) rfl (.inl rfl)))), ?_⟩
    refine ⟨y, rfl, .ref a, rfl, a, FC, rfl, F.o, hc, .inl ⟨ha, fun dx hd ne => ?_⟩⟩
    exact ⟨z, rfl, .ref a, rfl, a, FC, rfl, F.o, hp, .inr ⟨dx, _, upd_same, by rw [upd_ne ne]; exact upd_same, by show (1 : Nat) ≤ 900; decide, k dx _ hd ne (by rw [upd_ne (Ne.symm ne)]; exact upd_same) upd_same fun b n1 n2 => by rw [upd_ne n2, upd_ne n1, upd_ne n2]⟩⟩
/-! ### Desk.__init__ -/
abbrev s_Desk___init__ : Stmt := inClass (top 93) 0
abbrev n_Desk___init__ : List Str := ["self"]
theorem sc_Desk___init__ : FnScope n_Desk___init__ ["self"] (defScope s_Desk___init__) := ⟨rfl, rfl, rfl, by decide +kernel, rfl, by decide +kernel, by decide +kernel⟩
def deskO (DC : Addr) (o : Option RsX) : Ow := .ins DC [("rows", rowsD o)]
def pDesk (DC : Addr) : En → Res → Prop := fun Γ r => ∃ p, Γ = [.own p (.ins DC [])] ∧ r = .ok .non [.own p (deskO DC none)]
theorem f_Desk_init (F : Mf K mg "Desk" DC "Desk.__init__" s_Desk___init__) (c : DkC K DC) : Mkv P w K mg base 1 "Desk" DC ["self"] (pDesk DC) := by
  refine mf_mkv F (fun _ _ _ _ _ _ us hl => match us, hl with | [_], _ => rfl) fun f fd F => fn0 F sc_Desk___init__ (fun Γ r ⟨p, e, _⟩ => by subst e; rfl) ?_
  rintro cdv A outer s H E _ _ hr ⟨p, rfl, rfl⟩
  refine ss_one (s_fld 0 rfl (.inl rfl) c.c c.n (w_none ⟨_, rfl, by decide, ?_⟩))
  exact fin_own (ds := []) rfl
theorem finD {p : Addr} {o0 o1 : Ow} {ds : List D} {d : D} {Γ' : En} (h : Γ'[0]? = some (.own p o1)) : FinR (.own p o0 :: ds.map Sl.im) (.ok d (.own p o1 :: ds.map Sl.im)) d Γ' := by
  refine ⟨_, rfl, by simp, fun k s hk => ?_⟩
  cases k with
  | zero => cases hk; exact .inr (.inr ⟨p, _, _, rfl, h, rfl⟩)
  | succ k =>
    rw [List.getElem?_cons_succ, List.getElem?_map] at hk
    cases e : ds[k]? with
    | none => rw [e] at hk; cases hk
    | some d0 =>
      rw [e] at hk; cases hk
      exact .inr (.inl ⟨d0, rfl, by rw [List.getElem?_cons_succ, List.getElem?_map, e] <;> rfl⟩)
/-! ### Desk.load -/
abbrev s_Desk_load : Stmt := inClass (top 93) 1
abbrev n_Desk_load : List Str := ["self", "text", "program", "e"]
theorem sc_Desk_load : FnScope n_Desk_load ["self", "text"] (defScope s_Desk_load) := ⟨rfl, rfl, rfl, by decide +kernel, rfl, by decide +kernel, by decide +kernel⟩
/-- what a load makes of the rows, and tells -/
def loadX (st : Option RsX) (b : Bytes) : Option RsX × List Int := match Vatmsa.read b with
  | .ok pr => (some (rowsAll pr), [1, (pr.ins.length : Int), (pr.lets.length : Int)])
  | .error f => (st, [0, (f.code : Int), (f.place : Int)])
def pLoad (DC : Addr) : En → Res → Prop := fun Γ r => ∃ p st b, Γ = .own p (deskO DC st) :: [txD b].map Sl.im ∧ r = .ok (.lst ((loadX st b).2.map D.int)) (.own p (deskO DC (loadX st b).1) :: [txD b].map Sl.im)
theorem f_Desk_load (F : Ma K DC "load" "Desk.load" s_Desk_load) (c : DkC K DC) (T : FaultK P w K mg base FC) (hcode : PySem.W.findIn K (.ref FC) "code" = some none) (hplace : PySem.W.findIn K (.ref FC) "place" = some none) (cP : PrC K PC)
    (hread : Fv P w K mg base (L2.CX P w) 23 "read_program" ["text"] (PureX (p_read FC PC))) (hrows : FvRows P w K mg base PC) (nlen : mg "len" = none) : Mv P w K mg base CX0 24 DC "load" ["self", "text"] (pLoad DC) := by
  refine ma_mv F (fun _ _ _ _ _ _ us hl => match us, hl with | [_, _], _ => rfl) fun f fd F => fn0 F sc_Desk_load (fun Γ r ⟨p, st, b, e, _⟩ => by subst e; rfl) ?_
  have nd := sc_Desk_load.nd
  rintro cdv A outer s H E _ _ hr ⟨p, st, b, rfl, rfl⟩
  refine ss_cons (s_tryCall 3 2 1 T hread (hr.mono (by decide)) rfl rfl nd rfl rfl rfl (.inl rfl) rfl rfl (.inl rfl) rfl rfl (fun a oe cls d pn hz hf => pss_one (ps_ret (pe_lst (pa_cons pe_int (pa_cons (pe_xf T.xf hcode hz hf (pe_var (i := 3) rfl (.inl rfl))) (pa_cons (pe_xf T.xf hplace hz hf (pe_var (i := 3) rfl (.inl rfl))) pa_nil)))))) ⟨_, ⟨b, rfl, rfl⟩, ?_⟩)
  unfold loadX
  cases hb : Vatmsa.read b with
  | error ft =>
    refine ⟨rfl, by show 3 < 4; decide, [0, (ft.code : Int), (ft.place : Int)], ?_, finD rfl⟩
    intro a dd Z σ H hs hd hl
    exact ⟨.ref a, hs, rfl, rfl, dd, _, _, rfl, hd, rfl, .ref a, hs, rfl, rfl, dd, _, _, rfl, hd, rfl, len_le, fun q hq => hl q hq⟩
  | ok pr =>
    obtain ⟨ok, hc⟩ := read_ok hb
    refine ss_cons (s_fld 0 rfl (.inl rfl) c.c c.n (w_callP hrows (hr.mono (by decide)) rfl pass (d_cons (wv 2 rfl (d_nil ⟨_, ⟨pr, rfl, ok, hc, rfl⟩, ⟨_, rfl, by show (1 : Nat) < 1000; decide, ?_⟩⟩)))))
    refine ss_one (s_ret (w_new (w_lst (d_cons (w_int (d_cons (w_callB rfl nlen boot_len (d_cons (w_fld (wv 2 rfl ⟨PC, _, _, rfl, cP.c, cP.n1, rfl, (d_nil ⟨_, c_lenL, (d_cons (w_callB rfl nlen boot_len (d_cons (w_fld (wv 2 rfl ⟨PC, _, _, rfl, cP.c, cP.n2, rfl, (d_nil ⟨_, c_lenL, (d_nil ⟨len_le, ?_⟩)⟩)⟩)))))⟩)⟩))))))))))
    rw [List.length_map, List.length_map]
    exact finD (o1 := deskO DC (some (rowsAll pr))) rfl
/-! ### Desk.answer -/
abbrev s_Desk_answer : Stmt := inClass (top 93) 13
abbrev n_Desk_answer : List Str := ["self", "number", "some", "e"]
theorem sc_Desk_answer : FnScope n_Desk_answer ["self", "number", "some"] (defScope s_Desk_answer) := ⟨rfl, rfl, rfl, by decide +kernel, rfl, by decide +kernel, by decide +kernel⟩
def toldX : Except Int (List Int) → List Int
  | .ok l => l
  | .error n => [n]
/-- a call on the rows that are held -/
def lookX (st : Option RsX) (cl : Vatmse.Call) : Option RsX × List Int := match st with
  | none => (none, [-1])
  | some rs => (some rs, toldX (rowsX rs cl))
def stepX (st : Option RsX) (cl : Vatmse.Call) : Option RsX × List Int := match cl with
  | .load b => loadX st b
  | cl => lookX st cl
def StOk (st : Option RsX) : Prop := ∀ rs, st = some rs → RsOk rs
def pAns (DC : Addr) : En → Res → Prop := fun Γ r => ∃ p st cl, Γ = .own p (deskO DC st) :: [.int (numC cl), .lst (argC cl)].map Sl.im ∧ StOk st ∧ smallC cl ∧
  r = .ok (.lst ((stepX st cl).2.map D.int)) (.own p (deskO DC (stepX st cl).1) :: [.int (numC cl), .lst (argC cl)].map Sl.im)
theorem ni_ints (l : List Int) : NI (.lst (l.map D.int)) := .lst (.map fun i _ => .int i)
theorem f_Desk_answer (F : Ma K DC "answer" "Desk.answer" s_Desk_answer) (c : DkC K DC) (T : RefK P w K mg base RF) (hwhy : PySem.W.findIn K (.ref RF) "why" = some none) (hload : Mv P w K mg base CX0 24 DC "load" ["self", "text"] (pLoad DC)) (hwant : FvWant P w K mg base RF) (hrows : MvRows P w K mg base RF DC) :
    Mv P w K mg base CX0 25 DC "answer" ["self", "number", "some"] (pAns DC) := by
  refine ma_mv F (fun _ _ _ _ _ _ us hl => match us, hl with | [_, _, _], _ => rfl) fun f fd F => fn0 F sc_Desk_answer (fun Γ r ⟨p, st, cl, e, _⟩ => by subst e; rfl) ?_
  have nd := sc_Desk_answer.nd
  rintro cdv A outer s H E _ _ hr ⟨p, st, cl, rfl, sk, sm, rfl⟩
  cases hl : isLoad cl with
  | true =>
    cases cl with
    | load b =>
      refine ss_one (s_tryNo (ss_cons (s_if (t_cmp (wv 1 rfl (w_int ⟨_, o_eqI, ⟨fun hT => ?_, fun hF => (of_decide_eq_false hF rfl).elim⟩⟩))))))
      exact ss_one (s_ret (w_methS hload c.c (hr.mono (by decide)) pass rfl rfl (d_cons (w_ix (wv 2 rfl (w_int ⟨_, ix2_lst at0, (d_nil ⟨_, rfl, _, ⟨p, st, b, rfl, rfl⟩, ⟨_, rfl, finD rfl⟩⟩)⟩))))))
    | _ => cases hl
  | false =>
    have hn : ¬ numC cl = 0 := by cases cl <;> first | (cases hl; done) | (simp [numC]; done)
    have es : stepX st cl = lookX st cl := by cases cl <;> first | (cases hl; done) | rfl
    rw [es]
    refine ss_one (s_trySee 3 0 (fun C' fs' => C' = RF ∧ ∃ n, fs' = whyF n ∧ lookX st cl = (st, [n])) T rfl nd rfl rfl rfl rfl rfl (fun a oe cls d pn hz hf => pss_one (ps_ret (pe_lst (pa_cons (pe_xf T.xf hwhy hz hf (pe_var (i := 3) rfl (.inl rfl))) pa_nil)))) ?_ ?_)
    · rintro C' fs' ⟨rfl, n, rfl, e⟩
      rw [e]
      refine ⟨rfl, by show 3 < 4; decide, [n], ?_, finD rfl⟩
      intro a dd Z σ H hs hd hl
      exact ⟨.ref a, hs, rfl, rfl, dd, _, _, rfl, hd, rfl, len_le, fun q hq => hl q hq⟩
    · intro pn xe E' hp
      refine ss_cons (s_if (t_cmp (wv 1 rfl (w_int ⟨_, o_eqI, ⟨fun hT => (hn (of_decide_eq_true hT)).elim, fun hF => ss_nil ?_⟩⟩))))
      cases st with
      | none => exact ss_cons (s_expr (w_callX hwant (hr.mono (by decide)) rfl hp (d_cons (w_cmp (w_fld (wv 0 rfl ⟨DC, _, _, rfl, c.c, c.n, rfl, (w_none ⟨_, o_isnot, (d_cons (w_neg (w_int ⟨_, rfl, (d_nil ⟨_, ⟨_, -1, rfl, rfl⟩, ⟨rfl, -1, rfl, rfl⟩⟩)⟩)))⟩)⟩))))))
      | some rs =>
        have e : lookX (some rs) cl = (some rs, toldX (rowsX rs cl)) := rfl
        rw [e]
        refine ss_cons (s_expr (w_callX hwant (hr.mono (by decide)) rfl hp (d_cons (w_cmp (w_fld (wv 0 rfl ⟨DC, _, _, rfl, c.c, c.n, rfl, (w_none ⟨_, o_isnot, (d_cons (w_neg (w_int ⟨_, rfl, (d_nil ⟨_, ⟨_, -1, rfl, rfl⟩, ?_⟩)⟩)))⟩)⟩))))))
        refine ss_one (s_ret (w_methD hrows c.c (hr.mono (by decide)) hp (wv 0 rfl ⟨_, rfl, rfl, (d_cons (wv 1 rfl (d_cons (wv 2 rfl (d_nil ⟨_, ⟨rs, cl, rfl, sk rs rfl, hl, sm, rfl⟩, ?_⟩)))))⟩)))
        cases hx : rowsX rs cl with
        | ok l => exact ⟨ni_ints l, finD (o1 := deskO DC (some rs)) rfl⟩
        | error n => exact ⟨rfl, n, rfl, rfl⟩
end
end Fp

set_option Elab.async false
set_option linter.all false
set_option maxRecDepth 100000
set_option maxHeartbeats 2000000
namespace Fp
open PySem PySem.Spec PyProof.Rows L2 Dl
open VatmsBase (Bytes word Frac frac whole fracRow one Answer)
open Vatmse (Spot Spots spotsOf spotAt timeOf storeOf)
open VatmseNeutral (encode)
/-! ### the plain law of a step -/
theorem rows_len (p : Vatmsa.Prog) : (rowsAll p).length = (Vatmsa.namesOf p).length := List.length_map _
theorem rows_no (p : Vatmsa.Prog) {k : Nat} (h : k < (Vatmsa.namesOf p).length) : (rowsAll p)[k]? = some (Vatmsa.rowNo p k) := by
  unfold rowsAll Vatmsa.rowNo
  rw [List.getElem?_map, List.getElem?_eq_getElem h]; rfl
theorem spots_law (p : Vatmsa.Prog) (i : Int) (f : Spots → Answer) : encode (Vatmse.withSpots p i f) = match spotsX (rowsAll p) i with
    | .error n => [n]
    | .ok l => encode (f l) := by
  unfold Vatmse.withSpots Vatmsa.withRow VatmsBase.index spotsX
  rw [rows_len]
  by_cases hc : 0 ≤ i ∧ i < ((Vatmsa.namesOf p).length : Int)
  · rw [if_pos hc, if_pos hc, rows_no p (show i.toNat < _ by omega)]
    simp only
    cases hr : Vatmsa.rowNo p i.toNat with
    | none => rfl
    | some r =>
      simp only
      by_cases he : (spotsOf r).isEmpty = true
      · rw [if_pos he, if_pos he]; rfl
      · rw [if_neg he, if_neg he]
  · rw [if_neg hc, if_neg hc]; rfl
theorem bound_law (a b : Int) (f : Frac → Answer) : encode (Vatmse.withBound a b f) = match boundX a b with
    | .error n => [n]
    | .ok d => encode (f d) := by
  unfold Vatmse.withBound boundX
  rw [show ((Vatmsa.LARGE : Nat) : Int) = 1000000 from rfl, show ((Vatmsa.PARTS : Nat) : Int) = 1000 from rfl]
  by_cases hc : 0 ≤ a ∧ a ≤ 1000000 ∧ 1 ≤ b ∧ b ≤ 1000
  · rw [if_pos hc, if_neg (show ¬ (a < 0 ∨ 1000000 < a ∨ b < 1 ∨ 1000 < b) by omega)]
  · rw [if_neg hc, if_pos (show a < 0 ∨ 1000000 < a ∨ b < 1 ∨ 1000 < b by omega)]; rfl
theorem told_iab (p : Vatmsa.Prog) (i a b : Int) (X : Spots → Frac → Except Int (List Int)) (f : Spots → Frac → Answer) (h : ∀ l d, toldX (X l d) = encode (f l d)) :
    toldX ((spotsX (rowsAll p) i).bind fun l => (boundX a b).bind fun d => X l d) = encode (Vatmse.withSpots p i fun l => Vatmse.withBound a b fun d => f l d) := by
  rw [spots_law]
  cases spotsX (rowsAll p) i with
  | error n => rfl
  | ok l =>
    show toldX ((boundX a b).bind fun d => X l d) = encode _
    rw [bound_law]
    cases boundX a b with
    | error n => rfl
    | ok d => exact h l d
theorem told_i (p : Vatmsa.Prog) (i : Int) (X : Spots → Except Int (List Int)) (f : Spots → Answer) (h : ∀ l, toldX (X l) = encode (f l)) :
    toldX ((spotsX (rowsAll p) i).bind X) = encode (Vatmse.withSpots p i f) := by
  rw [spots_law]
  cases spotsX (rowsAll p) i with
  | error n => rfl
  | ok l => exact h l
theorem rows_law (p : Vatmsa.Prog) (cl : Vatmse.Call) (hl : isLoad cl = false) : toldX (rowsX (rowsAll p) cl) = encode (Vatmse.looked p cl) := by
  cases cl with
  | load b => cases hl
  | chart i a b => exact told_iab p i a b _ _ fun l d => rfl
  | depths i a b => exact told_iab p i a b _ _ fun l d => rfl
  | steps i a b => exact told_iab p i a b _ _ fun l d => rfl
  | apart i a b => exact told_iab p i a b _ _ fun l d => rfl
  | within i a b ts =>
    refine told_iab p i a b _ _ fun l d => ?_
    cases Vatmse.readTimes l ts with
    | none => rfl
    | some c =>
      show (match Vatmse.chartOff l d c with
        | none => _
        | some x => _) = encode (match Vatmse.chartOff l d c with
        | none => _
        | some x => _)
      cases Vatmse.chartOff l d c <;> rfl
  | shows i a b ns =>
    refine told_iab p i a b _ _ fun l d => ?_
    cases Vatmse.readDepths l ns with
    | none => rfl
    | some c =>
      show (match Vatmse.depthOff l d c with
        | none => _
        | some x => _) = encode (match Vatmse.depthOff l d c with
        | none => _
        | some x => _)
      cases Vatmse.depthOff l d c <;> rfl
  | store i =>
    refine told_i p i _ _ fun l => ?_
    cases storeOf l <;> rfl
  | totals i =>
    refine told_i p i _ _ fun l => ?_
    cases storeOf l <;> rfl
  | asked_ i t =>
    refine told_i p i _ _ fun l => ?_
    cases storeOf l with
    | none => rfl
    | some s =>
      show (match (Vatmse.askStore s t).1 with
        | some v => _
        | none => _) = encode (match (Vatmse.askStore s t).1 with
        | some v => _
        | none => _)
      cases (Vatmse.askStore s t).1 <;> rfl
/-- what is held is in order -/
def ObjOk (o : Option Vatmsa.Prog) : Prop := ∀ p, o = some p → PrOk p ∧ checkNames p = .ok ()
theorem st_ok {o : Option Vatmsa.Prog} (h : Fp.ObjOk o) : StOk (o.map rowsAll) := by
  intro rs e
  cases o with
  | none => cases e
  | some p =>
    cases e
    obtain ⟨ok, hc⟩ := h p rfl
    refine ⟨?_, rows_ok ok hc⟩
    rw [rows_len]
    unfold Vatmsa.namesOf
    rw [List.length_append, List.length_map, List.length_map]
    have := ok.i
    have := ok.l
    omega
theorem step_law {o : Option Vatmsa.Prog} (h : Fp.ObjOk o) (cl : Vatmse.Call) : stepX (o.map rowsAll) cl = ((Vatmse.step o cl).1.map rowsAll, encode (Vatmse.step o cl).2) ∧ Fp.ObjOk (Vatmse.step o cl).1 := by
  cases hl : isLoad cl with
  | true =>
    cases cl with
    | load b =>
      show loadX _ b = _ ∧ _
      have es : Vatmse.step o (.load b) = (match Vatmsa.read b with
        | .ok p => (some p, ⟨1, Vatmse.nats [p.ins.length, p.lets.length]⟩)
        | .error f => (o, VatmsBase.faulty f)) := by cases o <;> rfl
      rw [es]
      unfold loadX
      cases hb : Vatmsa.read b with
      | ok pr => exact ⟨rfl, fun p e => by cases e; exact read_ok hb⟩
      | error f => exact ⟨rfl, h⟩
    | _ => cases hl
  | false =>
    have es : stepX (o.map rowsAll) cl = lookX (o.map rowsAll) cl := by cases cl <;> first | (cases hl; done) | rfl
    rw [es]
    cases o with
    | none =>
      have : Vatmse.step none cl = (none, one (-1)) := by cases cl <;> first | (cases hl; done) | rfl
      rw [this]
      exact ⟨rfl, h⟩
    | some p =>
      have : Vatmse.step (some p) cl = (some p, Vatmse.looked p cl) := by cases cl <;> first | (cases hl; done) | rfl
      rw [this]
      refine ⟨?_, h⟩
      show (some (rowsAll p), toldX (rowsX (rowsAll p) cl)) = (some (rowsAll p), _)
      rw [rows_law p cl hl]
end Fp

set_option Elab.async false
set_option linter.all false
set_option maxRecDepth 100000
set_option maxHeartbeats 2000000
namespace Fp
open PySem PySem.Spec PyProof.Rows L2 Dl
open VatmsBase (Bytes word)
/-! ### calls taken from a list of ints -/
def takeA : List Bool → List Int → Option (List D × List Int)
  | [], r => some ([], r)
  | true :: sh, x :: r => (takeA sh r).map fun y => (.int x :: y.1, y.2)
  | true :: _, [] => none
  | false :: sh, r => (PyFlat.row r).bind fun x => (takeA sh x.2).map fun y => (.lst (x.1.map D.int) :: y.1, y.2)
abbrev tt3 : List Bool := [true, true, true]
abbrev tt4 : List Bool := [true, true, true, false]
def shapes : List (List Bool) := [[false], tt3, tt4, tt3, tt4, tt3, tt3, [true], [true, true], [true]]
def shS (sh : List Bool) : Str := ⟨(sh.map fun b => if b = true then 110 else 116).toArray⟩
def encB (b : Bool) : D := .str ⟨#[if b = true then 110 else 116]⟩
theorem signs_sh (sh : List Bool) : signsD (shS sh) = sh.map encB := by
  unfold signsD shS
  rw [List.toList_toArray, List.map_map]; rfl
theorem row_some {r l t : List Int} (h : PyFlat.row r = some (l, t)) : ∃ m : Nat, r = (m : Int) :: (l ++ t) ∧ l.length = m := by
  cases r with
  | nil => cases h
  | cons n r =>
    have h : (if 0 ≤ n ∧ n.toNat ≤ r.length then some (r.take n.toNat, r.drop n.toNat) else none) = some (l, t) := h
    split at h
    · rename_i hc
      cases h
      exact ⟨n.toNat, by rw [List.take_append_drop, Int.toNat_of_nonneg hc.1], by rw [List.length_take]; omega⟩
    · cases h
theorem drop_cons_at {α : Type} {l : List α} {k : Nat} {x : α} {r : List α} (h : l.drop k = x :: r) : l[k]? = some x ∧ l.drop (k + 1) = r ∧ k < l.length := by
  have e1 := congrArg (·[0]?) h
  have e1 : l[k]? = some x := by simpa using e1
  refine ⟨e1, ?_, (List.getElem?_eq_some_iff.mp e1).1⟩
  rw [← List.drop_drop, h]; rfl
section
variable {P : Program} {w : World} {K : PySem.W.Frag} {mg : Str → Option Value} {base : Heap}
abbrev s_call_at : Stmt := top 94
abbrev n_call_at : List Str := ["calls", "at", "number", "some", "sort", "end"]
theorem sc_call_at : FnScope n_call_at ["calls", "at"] (defScope s_call_at) := ⟨rfl, rfl, rfl, by decide +kernel, rfl, by decide +kernel, by decide +kernel⟩
def p_call_at : List D → D → Prop := fun ds d => ∃ (ns : List Int) (k m : Nat) (r : List Int) (sh : List Bool) (ar : List D) (t : List Int), ds = [.arr ns, Nd k] ∧ ns.drop k = (m : Int) :: r ∧ shapes[m]? = some sh ∧ takeA sh r = some (ar, t) ∧ d = .tup [Nd m, .lst ar, Nd (ns.length - t.length)]
theorem f_call_at (F : Fa K mg "call_at" s_call_at) (gS : Glo K mg "SHAPES" (.tup (shapes.map fun s => D.str (shS s)))) : Fv P w K mg base CX0 1 "call_at" ["calls", "at"] (PureP p_call_at) := by
  refine fa_fv F (fun _ _ _ _ _ _ us hl => match us, hl with | [_, _], _ => rfl) fun f fd F => fn0 F sc_call_at (fun Γ r ⟨ds, d, e, _, _, _, _, _, _, _, _, e2, _⟩ => by subst e; subst e2; rfl) ?_
  have nd := sc_call_at.nd
  rintro cdv A outer s H E _ _ hr ⟨_, _, rfl, rfl, ns, k, m, r, sh, ar, t, rfl, hd, hs, ht, rfl⟩
  have hz : sizeLine = 16777216 := sizeLine_eq
  obtain ⟨h1, h2, h3⟩ := drop_cons_at hd
  have shl : sh.length ≤ 4 := by
    have : ∀ x ∈ shapes, x.length ≤ 4 := by decide
    exact this sh (List.mem_of_getElem? hs)
  refine ss_cons (ss 2 nd (w_ix (wv 0 rfl (wv 1 rfl ⟨_, ix2_arr (atI_nat h1), ?_⟩))))
  refine ss_cons (ss 1 nd (w_bin (wv 1 rfl (w_int ⟨_, o_addI, ?_⟩))))
  refine ss_cons (ssN 3 nd (w_lst (d_nil ⟨len_le, fun ps => ?_⟩)))
  refine ss_cons (s_for (js := [4, 5]) .never rfl (i_str (w_ix (w_glob gS rfl (wv 2 rfl ⟨.str (shS sh), ix2_tup (atI_nat (by rw [List.getElem?_map, hs]; rfl)), ⟨_, rfl, ?_⟩⟩)))))
  rw [signs_sh]
  refine for_ind encB (fun (u : List D × Nat × Sl × Sl) => [.im (.arr ns), .im (Nd u.2.1), .im (Nd m), .own ps (.lst u.1), u.2.2.1, u.2.2.2])
    (fun u rest => ∃ ar', takeA rest (ns.drop u.2.1) = some (ar', t) ∧ u.1 ++ ar' = ar ∧ u.1.length + rest.length ≤ 4 ∧ u.2.1 ≤ ns.length) ?_ ?_ _ ([], k + 1, .un, .un) ⟨ar, by show takeA sh (ns.drop (k + 1)) = _; rw [h2]; exact ht, rfl, by show 0 + sh.length ≤ 4; omega, h3⟩
  · rintro ⟨acc, a, s1, s2⟩ b rest ⟨ar', q1, q2, q3, q4⟩ nx hn
    have q1 : takeA (b :: rest) (ns.drop a) = some (ar', t) := q1
    have q2 : acc ++ ar' = ar := q2
    have q3 : acc.length + (rest.length + 1) ≤ 4 := q3
    have q4 : a ≤ ns.length := q4
    refine (gn 4 nd ?_)
    cases b with
    | true =>
      cases hr : ns.drop a with
      | nil => rw [hr] at q1; cases q1
      | cons x r' =>
        obtain ⟨g1, g2, g3⟩ := drop_cons_at hr
        rw [hr] at q1
        have q1 : ((takeA rest r').map fun y => (D.int x :: y.1, y.2)) = some (ar', t) := q1
        cases hta : takeA rest r' with
        | none => rw [hta] at q1; cases q1
        | some y =>
          rw [hta] at q1
          cases q1
          refine ss_one (s_if (t_cmp (wv 4 rfl (w_str ⟨_, o_eqS, ⟨fun hT => ?_, fun hF => (Bool.false_ne_true ((show decide ((⟨#[110]⟩ : Str) = Str.ofString "n") = true by decide +kernel).symm.trans hF).symm).elim⟩⟩))))
          refine ss_cons (s_append 3 rfl (.inl rfl) rfl (w_ix (wv 0 rfl (wv 1 rfl ⟨_, ix2_arr (atI_nat g1), ⟨_, rfl, by omega, ?_⟩⟩))))
          refine ss_one (ss 1 nd (w_bin (wv 1 rfl (w_int ⟨_, o_addI, ?_⟩))))
          exact hn (acc ++ [.int x], a + 1, _, _) ⟨y.1, by show takeA rest (ns.drop (a + 1)) = _; rw [g2]; exact hta, by rw [← q2]; show (acc ++ [_]) ++ _ = _; rw [List.append_assoc]; rfl, by show (acc ++ [_]).length + _ ≤ 4; rw [List.length_append]; show acc.length + 1 + _ ≤ 4; omega, g3⟩
    | false =>
      have q1 : ((PyFlat.row (ns.drop a)).bind fun x => (takeA rest x.2).map fun y => (D.lst (x.1.map D.int) :: y.1, y.2)) = some (ar', t) := q1
      cases hro : PyFlat.row (ns.drop a) with
      | none => rw [hro] at q1; cases q1
      | some x =>
        rw [hro] at q1
        obtain ⟨l, r'⟩ := x
        have q1 : ((takeA rest r').map fun y => (D.lst (l.map D.int) :: y.1, y.2)) = some (ar', t) := q1
        cases hta : takeA rest r' with
        | none => rw [hta] at q1; cases q1
        | some y =>
          rw [hta] at q1
          cases q1
          obtain ⟨n, e1, e2⟩ := row_some hro
          obtain ⟨g1, g2, g3⟩ := drop_cons_at e1
          have len : ns.length = a + 1 + (l.length + r'.length) := by
            have := congrArg List.length g2
            rw [List.length_drop, List.length_append] at this
            omega
          have cut : cutL ns (some ((a : Int) + 1)) (some ((a : Int) + 1 + (n : Int))) = l := by
            have := cut_nat ns (a := a + 1) (b := a + 1 + n) (by omega) (by omega)
            rw [show ((a : Int) + 1) = ((a + 1 : Nat) : Int) by omega, show (((a + 1 : Nat) : Int) + (n : Int)) = ((a + 1 + n : Nat) : Int) by omega, this, List.drop_take, g2, show a + 1 + n - (a + 1) = n by omega, ← e2, List.take_left]
          have dr : ns.drop (a + 1 + n) = r' := by
            rw [← List.drop_drop, g2, ← e2, List.drop_left]
          refine ss_one (s_if (t_cmp (wv 4 rfl (w_str ⟨_, o_eqS, ⟨fun hT => (Bool.false_ne_true ((show decide ((⟨#[116]⟩ : Str) = Str.ofString "n") = false by decide +kernel).symm.trans hT)).elim, fun hF => ?_⟩⟩))))
          refine ss_cons (ss 5 nd (w_bin (w_bin (wv 1 rfl (w_int ⟨_, o_addI, (w_ix (wv 0 rfl (wv 1 rfl ⟨_, ix2_arr (atI_nat g1), ⟨_, o_addI, ?_⟩⟩)))⟩)))))
          refine ss_cons (s_append 3 rfl (.inl rfl) rfl (w_slice (wv 0 rfl (w_bin (wv 1 rfl (w_int ⟨_, o_addI, ⟨_, rfl, (wv 5 rfl ⟨_, rfl, ⟨_, sl2_arr, ⟨_, rfl, by omega, ?_⟩⟩⟩)⟩⟩))))))
          rw [cut]
          refine ss_one (ss 1 nd (wv 5 rfl ?_))
          have := hn (acc ++ [.lst (l.map D.int)], a + 1 + n, .im (encB false), .im (.int ((a : Int) + 1 + (n : Int)))) ⟨y.1, by show takeA rest (ns.drop (a + 1 + n)) = _; rw [dr]; exact hta, by rw [← q2]; show (acc ++ [_]) ++ _ = _; rw [List.append_assoc]; rfl, by show (acc ++ [_]).length + _ ≤ 4; rw [List.length_append]; show acc.length + 1 + _ ≤ 4; omega, by show a + 1 + n ≤ _; omega⟩
          have en : Nd (a + 1 + n) = .int ((a : Int) + 1 + (n : Int)) := congrArg D.int (by omega)
          simp only [en] at this
          exact this
  · rintro ⟨acc, a, s1, s2⟩ ⟨ar', q1, q2, q3, q4⟩
    have q1 : some (([] : List D), ns.drop a) = some (ar', t) := q1
    cases q1
    have q2 : acc ++ [] = ar := q2
    rw [List.append_nil] at q2
    have q4 : a ≤ ns.length := q4
    refine ss_one (s_ret (w_tup (d_cons (wv 2 rfl (d_cons (wg 3 rfl (d_cons (wv 1 rfl (d_nil ⟨len_le, fin_eq (ds := [.arr ns, Nd k]) ?_⟩)))))))))
    rw [List.length_drop, show ns.length - (ns.length - a) = a by omega, ← q2]; rfl
end
end Fp

set_option Elab.async false
set_option linter.all false
set_option maxRecDepth 100000
set_option maxHeartbeats 2000000
namespace Dl
open PySem PySem.Spec PyProof.Rows L2
section
variable {X : Cx} {E : XK} {XE : XS} {Γ : En} {R R' : D → En → Prop} {pos : Pos}
theorem bak_at {Γ1 : En} {p C : Addr} {fs fs' : List (Str × D)} {ds : List D} (i : Nat) (h : Γ1[i]? = some (.own p (.ins C fs))) : Bak Γ1 (Ag.o i :: ds.map Ag.d) (.own p (.ins C fs') :: ds.map Sl.im) (Γ1.set i (.own p (.ins C fs'))) := by
  have hl := (List.getElem?_eq_some_iff.mp h).1
  refine ⟨List.length_set, fun j => ?_⟩
  by_cases e : j = i
  · subst e
    exact .inl ⟨0, p, .ins C fs', rfl, rfl, by rw [List.getElem?_set_self hl]⟩
  · refine .inr ⟨fun k hk => ?_, by rw [List.getElem?_set_ne (Ne.symm e)]⟩
    cases k with
    | zero =>
      have hk : some (Ag.o i) = some (Ag.o j) := hk
      cases hk; exact e rfl
    | succ k => exact ag_d hk
/-- x.m(data ..), x an owned instance in slot i -/
theorem w_methI {CX : CXT} {k : Nat} {ps : List Str} {pre : En → Res → Prop} {x m : Str} {px apos : Pos} {e : Expr} {es : List Expr} {C p : Addr} {fs : List (Str × D)} (i : Nat) (F : Mv X.prog X.w X.K X.mg X.base CX k C m ps pre) (c : Cls X.K C) (hr : Room k X.A) (hx : Passes CX X E)
    (hi : Γ[i]? = some (.own p (.ins C fs))) (hl : fs.lookup m = none)
    (h : WpD X E XE (e :: es) Γ fun ds Γ1 => ∃ fs1, Γ1[i]? = some (.own p (.ins C fs1)) ∧ ∃ r, pre (.own p (.ins C fs1) :: ds.map Sl.im) r ∧ match r with
      | .ok d As' => ∃ fs', As' = .own p (.ins C fs') :: ds.map Sl.im ∧ R d (Γ1.set i (.own p (.ins C fs')))
      | .ex C fs => XE C fs)
    (hN : X.N[i]? = some x := by rfl) (hv : Vis X.env.scope x := by first | exact .inl rfl | exact .inr (.inl rfl) | exact .inr (.inr rfl)) (hst : starEach (e :: es) X.env = (false, eval e X.env) :: starEach es X.env := by rfl) (hpl : (backTo pos (starEach es X.env)).any (·.1) = false := by rfl)
    {pl : Sem Bool} (ht : eval (.Call (.Attribute (.Name x px) m apos) (e :: es) [] pos) X.env = (do let ov ← eval (.Name x px) X.env; standAt apos.atName; let (f, first) ← holding [ov] (getMethod ov m pl); callWith pos f first (backTo pos (starEach (e :: es) X.env)) (backToKw pos (keywordEach [] X.env))) := by rfl) (hd : (x == ("__debug__" : Str)) = false := by decide) (hcd : (x == ("__classdict__" : Str)) = false := by decide) :
    Wp X E XE (.Call (.Attribute (.Name x px) m apos) (e :: es) [] pos) Γ R := by
  refine w_meth i F c hr hx hN hv hi hl (WpD.toG ?_) hst hpl ht hd hcd
  refine fun σ I H Q a k x => h σ I H Q a (fun vs I1 H1 ds Γ1 ⟨fs1, g1, r, hp, hr2⟩ s1 a1 r1 => k vs I1 H1 ds Γ1 ⟨⟨p, _, g1⟩, fun j k i' hj hk => ?_, r, ?_, ?_⟩ s1 a1 r1) x
  · cases j with
    | succ j => exact (ag_d hj).elim
    | zero =>
      cases k with
      | succ k => exact (ag_d hk).elim
      | zero => rfl
  · have e0 : agS Γ1 (.o i) = .own p (.ins C fs1) := by
      show Γ1.getD i .un = _
      rw [List.getD_eq_getElem?_getD, g1] <;> rfl
    rw [List.map_cons, ag_im, e0]
    exact hp
  · cases r with
    | ok d As' =>
      obtain ⟨fs', rfl, hR⟩ := hr2
      exact ⟨_, bak_at i g1, hR⟩
    | ex C fs => exact hr2
end
end Dl
namespace Fp
open PySem PySem.Spec PyProof.Rows L2 Dl
open VatmsBase (Bytes word)
open VatmseNeutral (bytesOf callOf asked1)
/-! ### the calls of a list -/
theorem by_of {z : Int} (h : 0 ≤ z ∧ z ≤ 255) : byD (UInt8.ofNat z.toNat) = .int z := by
  show D.int (((UInt8.ofNat z.toNat).toNat : Nat) : Int) = .int z
  rw [UInt8.toNat_ofNat', Nat.mod_eq_of_lt (by omega), Int.toNat_of_nonneg h.1]
theorem tx_of : ∀ {l : List Int}, (∀ z ∈ l, 0 ≤ z ∧ z ≤ 255) → txD (bytesOf l) = .lst (l.map D.int) := fun {l} h => by
  show D.lst ((l.map fun b => UInt8.ofNat b.toNat).map byD) = _
  rw [List.map_map]
  exact congrArg D.lst (List.map_congr_left fun z hz => by_of (h z hz))
theorem call_of {p : Int} {r : List Int} {n k : Nat} {c : List (List Int)} {t : List Int} (hs : PyVatmse.shape p = some (n, k)) (h : PyFlat.call PyVatmse.shape (p :: r) = some (c, t)) : n ≤ r.length ∧ ∃ xs, PyFlat.rows k (r.drop n) = some (xs, t) ∧ c = (p :: r.take n) :: xs := by
  have h : (match PyVatmse.shape p with
    | none => none
    | some (n, k) => if r.length < n then none else match PyFlat.rows k (r.drop n) with
      | none => none
      | some (xs, t) => some ((p :: r.take n) :: xs, t)) = some (c, t) := h
  rw [hs] at h
  have h : (if r.length < n then none else match PyFlat.rows k (r.drop n) with
    | none => none
    | some (xs, t) => some ((p :: r.take n) :: xs, t)) = some (c, t) := h
  split at h
  · cases h
  · rename_i hn
    refine ⟨by omega, ?_⟩
    cases hr : PyFlat.rows k (r.drop n) with
    | none => rw [hr] at h; cases h
    | some x =>
      rw [hr] at h
      cases h
      exact ⟨x.1, rfl, rfl⟩
theorem rows1 {r : List Int} {xs : List (List Int)} {t : List Int} (h : PyFlat.rows 1 r = some (xs, t)) : ∃ l, PyFlat.row r = some (l, t) ∧ xs = [l] := by
  unfold PyFlat.rows at h
  cases hr : PyFlat.row r with
  | none => rw [hr] at h; cases h
  | some x =>
    rw [hr] at h
    cases h
    exact ⟨x.1, rfl, rfl⟩
theorem three {r : List Int} (h : 3 ≤ r.length) : ∃ x y z s, r = x :: y :: z :: s := by
  match r, h with
  | x :: y :: z :: s, _ => exact ⟨x, y, z, s, rfl⟩
theorem two {r : List Int} (h : 2 ≤ r.length) : ∃ x y s, r = x :: y :: s := by
  match r, h with
  | x :: y :: s, _ => exact ⟨x, y, s, rfl⟩
theorem oneL {r : List Int} (h : 1 ≤ r.length) : ∃ x s, r = x :: s := by
  match r, h with
  | x :: s, _ => exact ⟨x, s, rfl⟩
/-- a call read: what it is handed, as the program takes it -/
theorem read_call {p : Int} {r : List Int} {c : List (List Int)} {t : List Int} (h : PyFlat.call PyVatmse.shape (p :: r) = some (c, t)) (ha : asked1 (PyVatmse.whole c) = true) :
    ∃ (m : Nat) (sh : List Bool) (cl : Vatmse.Call), p = (m : Int) ∧ shapes[m]? = some sh ∧ takeA sh r = some (argC cl, t) ∧ numC cl = (m : Int) ∧ callOf (PyVatmse.whole c) = some cl ∧ smallC cl := by
  have small : ∀ l : List Int, (l.all VatmseNeutral.whole60 && decide (l.length ≤ 2000)) = true → l.length ≤ 2000 := fun l q => of_decide_eq_true (Bool.and_eq_true_iff.mp q).2
  have k3 : ∀ q : Int, PyVatmse.shape q = some (3, 0) → p = q → ∃ x y z, r = x :: y :: z :: t ∧ c = [[q, x, y, z]] := fun q hq e => by
    subst e
    obtain ⟨hn, xs, h1, h2⟩ := call_of hq h
    obtain ⟨x, y, z, s, rfl⟩ := three hn
    cases h1
    exact ⟨x, y, z, rfl, h2⟩
  have k31 : ∀ q : Int, PyVatmse.shape q = some (3, 1) → p = q → ∃ x y z s l, r = x :: y :: z :: s ∧ PyFlat.row s = some (l, t) ∧ c = [[q, x, y, z], l] := fun q hq e => by
    subst e
    obtain ⟨hn, xs, h1, h2⟩ := call_of hq h
    obtain ⟨x, y, z, s, rfl⟩ := three hn
    obtain ⟨l, h3, h4⟩ := rows1 h1
    subst h4
    exact ⟨x, y, z, s, l, rfl, h3, h2⟩
  have k1 : ∀ q : Int, PyVatmse.shape q = some (1, 0) → p = q → ∃ x, r = x :: t ∧ c = [[q, x]] := fun q hq e => by
    subst e
    obtain ⟨hn, xs, h1, h2⟩ := call_of hq h
    obtain ⟨x, s, rfl⟩ := oneL hn
    cases h1
    exact ⟨x, rfl, h2⟩
  by_cases e0 : p = 0
  · subst e0
    obtain ⟨hn, xs, h1, h2⟩ := call_of (n := 0) (k := 1) rfl h
    obtain ⟨l, h3, h4⟩ := rows1 h1
    subst h4; subst h2
    have h3 : PyFlat.row r = some (l, t) := h3
    have ha : ((l.all fun z => VatmseNeutral.natural z 8) && decide (l.length ≤ 8192)) = true := ha
    have hb : ∀ z ∈ l, 0 ≤ z ∧ z ≤ 255 := fun z hz => by
      have := List.all_eq_true.mp (Bool.and_eq_true_iff.mp ha).1 z hz
      unfold VatmseNeutral.natural at this
      obtain ⟨q1, q2⟩ := Bool.and_eq_true_iff.mp this
      have q1 := of_decide_eq_true q1
      have q2 := of_decide_eq_true q2
      have : (2 : Int) ^ 8 = 256 := by decide
      omega
    refine ⟨0, [false], .load (bytesOf l), rfl, rfl, ?_, rfl, ?_, trivial⟩
    · show ((PyFlat.row r).bind fun x => (some ([], x.2)).map fun y => (D.lst (x.1.map D.int) :: y.1, y.2)) = some ([txD (bytesOf l)], t)
      rw [h3, tx_of hb]; rfl
    · show (if NeutralIO.bytes l = true then some (Vatmse.Call.load (bytesOf l)) else none) = _
      rw [if_pos]
      unfold NeutralIO.bytes
      rw [List.all_eq_true]
      intro z hz
      have := hb z hz
      simp [this.1, this.2]
  by_cases e1 : p = 1
  · obtain ⟨x, y, z, rfl, rfl⟩ := k3 1 rfl e1
    exact ⟨1, tt3, .chart x y z, e1, rfl, rfl, rfl, rfl, trivial⟩
  by_cases e2 : p = 2
  · obtain ⟨x, y, z, s, l, rfl, h3, rfl⟩ := k31 2 rfl e2
    have ha : (VatmseNeutral.whole60 x && (VatmseNeutral.whole60 y && (VatmseNeutral.whole60 z && (l.all VatmseNeutral.whole60 && decide (l.length ≤ 2000))))) = true := ha
    have ha := (Bool.and_eq_true_iff.mp (Bool.and_eq_true_iff.mp (Bool.and_eq_true_iff.mp ha).2).2).2
    refine ⟨2, tt4, .within x y z l, e2, rfl, ?_, rfl, rfl, small l ha⟩
    show ((((PyFlat.row s).bind fun x => (some ([], x.2)).map fun y => (D.lst (x.1.map D.int) :: y.1, y.2)).map _).map _).map _ = _
    rw [h3]; rfl
  by_cases e3 : p = 3
  · obtain ⟨x, y, z, rfl, rfl⟩ := k3 3 rfl e3
    exact ⟨3, tt3, .depths x y z, e3, rfl, rfl, rfl, rfl, trivial⟩
  by_cases e4 : p = 4
  · obtain ⟨x, y, z, s, l, rfl, h3, rfl⟩ := k31 4 rfl e4
    have ha : (VatmseNeutral.whole60 x && (VatmseNeutral.whole60 y && (VatmseNeutral.whole60 z && (l.all VatmseNeutral.whole60 && decide (l.length ≤ 2000))))) = true := ha
    have ha := (Bool.and_eq_true_iff.mp (Bool.and_eq_true_iff.mp (Bool.and_eq_true_iff.mp ha).2).2).2
    refine ⟨4, tt4, .shows x y z l, e4, rfl, ?_, rfl, rfl, small l ha⟩
    show ((((PyFlat.row s).bind fun x => (some ([], x.2)).map fun y => (D.lst (x.1.map D.int) :: y.1, y.2)).map _).map _).map _ = _
    rw [h3]; rfl
  by_cases e5 : p = 5
  · obtain ⟨x, y, z, rfl, rfl⟩ := k3 5 rfl e5
    exact ⟨5, tt3, .steps x y z, e5, rfl, rfl, rfl, rfl, trivial⟩
  by_cases e6 : p = 6
  · obtain ⟨x, y, z, rfl, rfl⟩ := k3 6 rfl e6
    exact ⟨6, tt3, .apart x y z, e6, rfl, rfl, rfl, rfl, trivial⟩
  by_cases e7 : p = 7
  · obtain ⟨x, rfl, rfl⟩ := k1 7 rfl e7
    exact ⟨7, [true], .store x, e7, rfl, rfl, rfl, rfl, trivial⟩
  by_cases e8 : p = 8
  · subst e8
    obtain ⟨hn, xs, h1, h2⟩ := call_of (n := 2) (k := 0) rfl h
    obtain ⟨x, y, s, rfl⟩ := two hn
    cases h1
    subst h2
    exact ⟨8, [true, true], .asked_ x y, rfl, rfl, rfl, rfl, rfl, trivial⟩
  by_cases e9 : p = 9
  · obtain ⟨x, rfl, rfl⟩ := k1 9 rfl e9
    exact ⟨9, [true], .totals x, e9, rfl, rfl, rfl, rfl, trivial⟩
  · exfalso
    have : PyVatmse.shape p = none := by
      unfold PyVatmse.shape
      rw [if_neg e0, if_neg e1, if_neg e2, if_neg e3, if_neg e4, if_neg e5, if_neg e6, if_neg e7, if_neg e8, if_neg e9]
    have h : (match PyVatmse.shape p with
      | none => none
      | some (n, k) => if r.length < n then none else match PyFlat.rows k (r.drop n) with
        | none => none
        | some (xs, t) => some ((p :: r.take n) :: xs, t)) = some (c, t) := h
    rw [this] at h
    cases h
theorem call_short {p : Int} {r : List Int} {sh : List Bool} {ar : List D} {t : List Int} (h : takeA sh r = some (ar, t)) : ∃ s, r = s ++ t := by
  induction sh generalizing r ar with
  | nil => cases h; exact ⟨[], rfl⟩
  | cons b sh ih =>
    cases b with
    | true =>
      cases r with
      | nil => cases h
      | cons x r =>
        have h : ((takeA sh r).map fun y => (D.int x :: y.1, y.2)) = some (ar, t) := h
        cases hta : takeA sh r with
        | none => rw [hta] at h; cases h
        | some y =>
          rw [hta] at h; cases h
          obtain ⟨s, e⟩ := ih hta
          exact ⟨x :: s, by rw [e]; rfl⟩
    | false =>
      have h : ((PyFlat.row r).bind fun x => (takeA sh x.2).map fun y => (D.lst (x.1.map D.int) :: y.1, y.2)) = some (ar, t) := h
      cases hro : PyFlat.row r with
      | none => rw [hro] at h; cases h
      | some x =>
        rw [hro] at h
        have h : ((takeA sh x.2).map fun y => (D.lst (x.1.map D.int) :: y.1, y.2)) = some (ar, t) := h
        cases hta : takeA sh x.2 with
        | none => rw [hta] at h; cases h
        | some y =>
          rw [hta] at h; cases h
          obtain ⟨s, e⟩ := ih hta
          obtain ⟨n, e1, _⟩ := row_some (show PyFlat.row r = some (x.1, x.2) from hro)
          exact ⟨(n : Int) :: (x.1 ++ s), by rw [e1, e]; simp⟩
section
variable {P : Program} {w : World} {K : PySem.W.Frag} {mg : Str → Option Value} {base : Heap} {DC : Addr}
/-! ### answers -/
abbrev s_answers : Stmt := top 95
abbrev n_answers : List Str := ["calls", "desk", "found", "at", "number", "some", "answer"]
theorem sc_answers : FnScope n_answers ["calls"] (defScope s_answers) := ⟨rfl, rfl, rfl, by decide +kernel, rfl, by decide +kernel, by decide +kernel⟩
def toldFrom (o : Option Vatmsa.Prog) (cs : List (List (List Int))) : List Int := PyFlat.told (PyFlat.played VatmseNeutral.step o (cs.map PyVatmse.whole))
def p_answers : List D → D → Prop := fun ds d => ∃ ns : List Int, ds = [.arr ns] ∧ PyVatmse.answers_asked ns = true ∧ d = .lst ((PyVatmse.answers ns).map D.int)
theorem asked_of {ns : List Int} (h : PyVatmse.answers_asked ns = true) : ∃ cs, PyFlat.calls PyVatmse.shape ns.length ns = some cs ∧ (∀ c ∈ cs, asked1 (PyVatmse.whole c) = true) ∧ PyVatmse.answers ns = toldFrom none cs ∧ (PyVatmse.answers ns).length ≤ 10000000 := by
  unfold PyVatmse.answers_asked at h
  cases hc : PyFlat.calls PyVatmse.shape ns.length ns with
  | none => rw [hc] at h; cases h
  | some cs =>
    rw [hc] at h
    have h : (!cs.isEmpty && PyFlat.atMost 20 cs && PyInside.calls PyVatmse.bound cs && VatmseNeutral.asked (cs.map PyVatmse.whole) && PyFlat.short 10000000 (PyVatmse.answers ns)) = true := h
    obtain ⟨h, h2⟩ := Bool.and_eq_true_iff.mp h
    obtain ⟨h, h3⟩ := Bool.and_eq_true_iff.mp h
    refine ⟨cs, rfl, fun c hcc => ?_, ?_, of_decide_eq_true h2⟩
    · unfold VatmseNeutral.asked at h3
      exact List.all_eq_true.mp (Bool.and_eq_true_iff.mp h3).1 _ (List.mem_map_of_mem hcc)
    · unfold PyVatmse.answers PyVatmse.calls
      rw [hc]; rfl
theorem ok_answers {f : Addr} {fd : FuncData} (F : Fun K "answers" "answers" s_answers f fd) (c : DkC K DC) (hmk : Mkv P w K mg base 1 "Desk" DC ["self"] (pDesk DC)) (hca : Fv P w K mg base CX0 1 "call_at" ["calls", "at"] (PureP p_call_at)) (han : Mv P w K mg base CX0 25 DC "answer" ["self", "number", "some"] (pAns DC)) (nlen : mg "len" = none) :
    FnOk P w K mg base CX0 26 f fd ["calls"] (Cg K (PureP p_answers)) := by
  refine fn0 F sc_answers (fun Γ r ⟨ds, d, e, _, _, e2, _⟩ => by subst e; subst e2; rfl) ?_
  have nd := sc_answers.nd
  rintro cdv A outer s H E _ _ hr ⟨_, _, rfl, rfl, ns, rfl, hask, rfl⟩
  have hz : sizeLine = 16777216 := sizeLine_eq
  obtain ⟨cs, hcs, has, hans, hlen⟩ := asked_of hask
  refine ss_cons (ssN 1 nd (w_make0 hmk (hr.mono (by decide)) rfl pass (fs := [("rows", rowsD none)]) (fun p => ⟨p, rfl, rfl⟩) fun pd => ?_))
  refine ss_cons (ssN 2 nd (w_lst (d_nil ⟨len_le, fun pf => ?_⟩)))
  refine ss_cons (ss 3 nd (w_int ?_))
  refine ss_cons (s_while _ .never (while_m (fun (u : Option Vatmsa.Prog × List Int × Nat × Sl × Sl × Sl) => [.im (.arr ns), .own pd (deskO DC (u.1.map rowsAll)), .own pf (.lst (u.2.1.map D.int)), .im (Nd u.2.2.1), u.2.2.2.1, u.2.2.2.2.1, u.2.2.2.2.2]) (fun u => ns.length - u.2.2.1)
    (fun u => ∃ f cs', PyFlat.calls PyVatmse.shape f (ns.drop u.2.2.1) = some cs' ∧ (∀ c ∈ cs', asked1 (PyVatmse.whole c) = true) ∧ Fp.ObjOk u.1 ∧ u.2.1 ++ toldFrom u.1 cs' = PyVatmse.answers ns ∧ u.2.2.1 ≤ ns.length) ?_ (none, [], 0, .un, .un, .un) ⟨ns.length, cs, hcs, has, (fun p e => by cases e), hans.symm, Nat.zero_le _⟩))
  rintro ⟨o, told, a, s1, s2, s3⟩ n ⟨f', cs', q1, q2, q3, q4, q5⟩ ih
  have q1 : PyFlat.calls PyVatmse.shape f' (ns.drop a) = some cs' := q1
  have q4 : told ++ toldFrom o cs' = PyVatmse.answers ns := q4
  have q5 : a ≤ ns.length := q5
  refine (t_cmp (wv 3 rfl (w_callB rfl nlen boot_len (d_cons (wv 0 rfl (d_nil ⟨_, c_lenA, ⟨_, o_lt, ⟨fun hF => ?_, fun hT => ?_⟩⟩⟩))))))
  · have hF : ¬ (a : Int) < (ns.length : Nat) := of_decide_eq_false hF
    have e : ns.drop a = [] := List.drop_eq_nil_of_le (by omega)
    rw [e] at q1
    have e2 : cs' = [] := by cases f' <;> (cases q1; rfl)
    subst e2
    have q4 : told ++ [] = PyVatmse.answers ns := q4
    rw [List.append_nil] at q4
    exact ss_one (s_ret (wg 2 rfl (fin_eq (ds := [.arr ns]) (by rw [← q4]; rfl))))
  · have hT : (a : Int) < (ns.length : Nat) := of_decide_eq_true hT
    have ha : a < ns.length := by omega
    have e := List.drop_eq_getElem_cons ha
    rw [e] at q1
    cases f' with
    | zero => cases q1
    | succ f' =>
      unfold PyFlat.calls at q1
      cases hc : PyFlat.call PyVatmse.shape (ns[a] :: ns.drop (a + 1)) with
      | none => rw [hc] at q1; cases q1
      | some ct =>
        rw [hc] at q1
        obtain ⟨c0, t⟩ := ct
        have q1 : (match PyFlat.calls PyVatmse.shape f' t with
          | none => none
          | some cs => some (c0 :: cs)) = some cs' := q1
        cases hcs2 : PyFlat.calls PyVatmse.shape f' t with
        | none => rw [hcs2] at q1; cases q1
        | some cs2 =>
          rw [hcs2] at q1
          cases q1
          obtain ⟨m, sh, cl, e1, e2, e3, e4, e5, e6⟩ := read_call hc (q2 c0 List.mem_cons_self)
          obtain ⟨sx, esx⟩ := call_short (p := 0) e3
          have lt : t.length ≤ ns.length - (a + 1) := by
            have := congrArg List.length esx
            rw [List.length_drop, List.length_append] at this
            omega
          have dt : ns.drop (ns.length - t.length) = t := by
            have h1 : ns = (ns.take (a + 1) ++ sx) ++ t := by
              rw [List.append_assoc, ← esx, List.take_append_drop]
            have h2 := congrArg List.length h1
            rw [List.length_append] at h2
            conv => lhs; rw [h1]
            rw [show ((ns.take (a + 1) ++ sx) ++ t).length - t.length = (ns.take (a + 1) ++ sx).length by rw [List.length_append]; omega]
            exact List.drop_left
          obtain ⟨l1, l2⟩ := step_law q3 cl
          have sn : VatmseNeutral.step o (PyVatmse.whole c0) = ((Vatmse.step o cl).1, VatmseNeutral.encode (Vatmse.step o cl).2) := by
            unfold VatmseNeutral.step
            rw [e5]
          have tf : toldFrom o (c0 :: cs2) = ((VatmseNeutral.encode (Vatmse.step o cl).2).length : Int) :: (VatmseNeutral.encode (Vatmse.step o cl).2 ++ toldFrom (Vatmse.step o cl).1 cs2) := by
            show PyFlat.told ((VatmseNeutral.step o (PyVatmse.whole c0)).2 :: PyFlat.played VatmseNeutral.step (VatmseNeutral.step o (PyVatmse.whole c0)).1 (cs2.map PyVatmse.whole)) = _
            rw [sn]; rfl
          rw [tf] at q4
          have tl : told.length + 1 + (VatmseNeutral.encode (Vatmse.step o cl).2).length ≤ 10000000 := by
            have := congrArg List.length q4
            rw [List.length_append, List.length_cons, List.length_append] at this
            omega
          refine ss_cons (s_asg (js := [4, 5, 3]) (w_callP hca (hr.mono (by decide)) rfl pass (d_cons (wv 0 rfl (d_cons (wv 3 rfl (d_nil ⟨_, ⟨ns, a, m, ns.drop (a + 1), sh, argC cl, t, rfl, by rw [e, e1], e2, e3, rfl⟩, (g1_tup rfl (gs_cons (gn 4 nd (gs_cons (gn 5 nd (gs_cons (gn 3 nd (gs_nil ?_))))))))⟩)))))))
          refine ss_cons (ss 6 nd (w_methI 1 han c.c (hr.mono (by decide)) pass rfl rfl (d_cons (wv 4 rfl (d_cons (wv 5 rfl (d_nil ⟨_, rfl, _, ⟨pd, o.map rowsAll, cl, by rw [e4]; rfl, st_ok q3, e6, rfl⟩, ⟨_, by rw [e4]; rfl, ?_⟩⟩)))))))
          rw [l1]
          refine ss_cons (s_append 2 rfl (.inl rfl) rfl (w_callB rfl nlen boot_len (d_cons (wv 6 rfl (d_nil ⟨_, c_lenL, ⟨_, rfl, by show (List.map D.int told).length < sizeLine; rw [List.length_map]; omega, ?_⟩⟩)))))
          refine ss_one (s_extend 2 rfl (.inl rfl) rfl (wv 6 rfl ⟨_, _, rfl, rfl, ?_, ?_⟩))
          · have key : ∀ x : D, (told.map D.int ++ [x]).length + ((VatmseNeutral.encode (Vatmse.step o cl).2).map D.int).length ≤ sizeLine := fun x => by rw [List.length_append, List.length_map, List.length_map, List.length_singleton]; omega
            exact key _
          · have := ih ((Vatmse.step o cl).1, told ++ (((VatmseNeutral.encode (Vatmse.step o cl).2).length : Int) :: VatmseNeutral.encode (Vatmse.step o cl).2), ns.length - t.length, .im (Nd m), .im (.lst (argC cl)), .im (.lst ((VatmseNeutral.encode (Vatmse.step o cl).2).map D.int)))
              ⟨f', cs2, by show PyFlat.calls _ f' (ns.drop (ns.length - t.length)) = _; rw [dt]; exact hcs2, fun c hc => q2 c (List.mem_cons_of_mem _ hc), l2, by rw [← q4]; show (told ++ (_ :: _)) ++ _ = _; simp, by show ns.length - t.length ≤ _; omega⟩ (by show ns.length - (ns.length - t.length) < ns.length - a; omega)
            have el : (told ++ (((VatmseNeutral.encode (Vatmse.step o cl).2).length : Int) :: VatmseNeutral.encode (Vatmse.step o cl).2)).map D.int = (told.map D.int ++ [.int (((VatmseNeutral.encode (Vatmse.step o cl).2).map D.int).length : Nat)]) ++ (VatmseNeutral.encode (Vatmse.step o cl).2).map D.int := by
              rw [List.map_append, List.map_cons, List.length_map, List.append_assoc]; rfl
            simp only [el] at this
            exact this
end
end Fp

set_option Elab.async false
set_option linter.all false
set_option maxRecDepth 100000
set_option maxHeartbeats 2000000
namespace Fp
open PySem PySem.Spec PyProof.Rows L2 Dl
open VatmsBase (Bytes word Frac frac whole)
/-- what the program's top has left -/
structure Fx (P : Program) (w : World) (K : PySem.W.Frag) (mg : Str → Option Value) (FC RC PC RF DC : Addr) : Prop where
  common : Fa K mg "common" sCommon
  fraction : Fa K mg "fraction" s_fraction
  plus : Fa K mg "plus" s_plus
  less : Fa K mg "less" s_less
  times : Fa K mg "times" s_times
  is_below : Fa K mg "is_below" s_is_below
  far : Fa K mg "far" s_far
  sum_of : Fa K mg "sum_of" s_sum_of
  least_of : Fa K mg "least_of" s_least_of
  greatest_of : Fa K mg "greatest_of" s_greatest_of
  on_line : Fa K mg "on_line" s_on_line
  is_line : Fa K mg "is_line" s_is_line
  lines : Fa K mg "lines" s_lines
  depths : Fa K mg "depths" s_depths
  chart : Fa K mg "chart" s_chart
  first_without_line : Fa K mg "first_without_line" s_first_without_line
  first_fall : Fa K mg "first_fall" s_first_fall
  fits : Fa K mg "fits" s_fits
  steps : Fa K mg "steps" s_steps
  step_value : Fa K mg "step_value" s_step_value
  pairs_apart : Fa K mg "pairs_apart" s_pairs_apart
  runs : Fa K mg "runs" s_runs
  asked : Fa K mg "asked" s_asked
  totals : Fa K mg "totals" s_totals
  sign_of : Fa K mg "sign_of" s_sign_of
  run_end : Fa K mg "run_end" s_run_end
  token_of : Fa K mg "token_of" s_token_of
  remark_end : Fa K mg "remark_end" s_remark_end
  tokens_of : Fa K mg "tokens_of" s_tokens_of
  inside : Fa K mg "inside" s_inside
  names_in : Fa K mg "names_in" s_names_in
  look_at_names : Fa K mg "look_at_names" s_look_at_names
  value_text : Fa K mg "value_text" s_value_text
  expression_text : Fa K mg "expression_text" s_expression_text
  one_form : Fa K mg "one_form" s_one_form
  read_program : Fa K mg "read_program" s_read_program
  comes : Fa K mg "comes" s_comes
  value_at : Fa K mg "value_at" s_value_at
  last_value : Fa K mg "last_value" s_last_value
  of_two_values : Fa K mg "of_two_values" s_of_two_values
  merged : Fa K mg "merged" s_merged
  of_two : Fa K mg "of_two" s_of_two
  filled_value : Fa K mg "filled_value" s_filled_value
  filled : Fa K mg "filled" s_filled
  window_value : Fa K mg "window_value" s_window_value
  windowed : Fa K mg "windowed" s_windowed
  differences : Fa K mg "differences" s_differences
  sums : Fa K mg "sums" s_sums
  each_value : Fa K mg "each_value" s_each_value
  of_one : Fa K mg "of_one" s_of_one
  worked_out : Fa K mg "worked_out" s_worked_out
  all_rows : Fa K mg "all_rows" s_all_rows
  want : Fa K mg "want" s_want
  bound_of : Fa K mg "bound_of" s_bound_of
  times_of : Fa K mg "times_of" s_times_of
  call_at : Fa K mg "call_at" s_call_at
  fault : Mx K mg "Fault" FC "Fault.__init__" s_Fault___init__
  fcode : PySem.W.findIn K (.ref FC) "code" = some none
  fplace : PySem.W.findIn K (.ref FC) "place" = some none
  refused : Mx K mg "Refused" RF "Refused.__init__" s_Refused___init__
  rwhy : PySem.W.findIn K (.ref RF) "why" = some none
  cR : RdC K RC
  mReader : Mf K mg "Reader" RC "Reader.__init__" s_Reader___init__
  r_next_place : Ma K RC "next_place" "Reader.next_place" s_Reader_next_place
  r_stands : Ma K RC "stands" "Reader.stands" s_Reader_stands
  r_takes : Ma K RC "takes" "Reader.takes" s_Reader_takes
  r_wants : Ma K RC "wants" "Reader.wants" s_Reader_wants
  r_name : Ma K RC "name" "Reader.name" s_Reader_name
  r_word_of : Ma K RC "word_of" "Reader.word_of" s_Reader_word_of
  r_number : Ma K RC "number" "Reader.number" s_Reader_number
  r_signed : Ma K RC "signed" "Reader.signed" s_Reader_signed
  r_value : Ma K RC "value" "Reader.value" s_Reader_value
  r_point : Ma K RC "point" "Reader.point" s_Reader_point
  r_rest : Ma K RC "rest" "Reader.rest" s_Reader_rest
  r_expression : Ma K RC "expression" "Reader.expression" s_Reader_expression
  r_one_let : Ma K RC "one_let" "Reader.one_let" s_Reader_one_let
  r_one_series : Ma K RC "one_series" "Reader.one_series" s_Reader_one_series
  r_program : Ma K RC "program" "Reader.program" s_Reader_program
  cP : PrC K PC
  mProgram : Mf K mg "Program" PC "Program.__init__" s_Program___init__
  cD : DkC K DC
  mDesk : Mf K mg "Desk" DC "Desk.__init__" s_Desk___init__
  d_load : Ma K DC "load" "Desk.load" s_Desk_load
  d_points : Ma K DC "points" "Desk.points" s_Desk_points
  d_chart_told : Ma K DC "chart_told" "Desk.chart_told" s_Desk_chart_told
  d_within : Ma K DC "within" "Desk.within" s_Desk_within
  d_depths_told : Ma K DC "depths_told" "Desk.depths_told" s_Desk_depths_told
  d_shows : Ma K DC "shows" "Desk.shows" s_Desk_shows
  d_steps_told : Ma K DC "steps_told" "Desk.steps_told" s_Desk_steps_told
  d_apart : Ma K DC "apart" "Desk.apart" s_Desk_apart
  d_store : Ma K DC "store" "Desk.store" s_Desk_store
  d_asked_told : Ma K DC "asked_told" "Desk.asked_told" s_Desk_asked_told
  d_totals_told : Ma K DC "totals_told" "Desk.totals_told" s_Desk_totals_told
  d_of_rows : Ma K DC "of_rows" "Desk.of_rows" s_Desk_of_rows
  d_answer : Ma K DC "answer" "Desk.answer" s_Desk_answer
  sg : Sg K mg
  gNOUGHT : Glo K mg "NOUGHT" (Fd (whole 0))
  gONE : Glo K mg "ONE" (Fd (whole 1))
  gLONGEST_NAME : Glo K mg "LONGEST_NAME" (.int 16)
  gGREATEST : Glo K mg "GREATEST" (.int 1000000000)
  gLINE_END : Glo K mg "LINE_END" (.int 10)
  gBLANKS : Glo K mg "BLANKS" (.tup [.int 32, .int 9, .int 10])
  gREMARK : Glo K mg "REMARK" (.int 35)
  tSIGNS : ITab P w K mg "SIGNS" signsT
  gRESERVED : Glo K mg "RESERVED" (.tup (reservedS.map D.str))
  gTWO : Glo K mg "TWO" (.tup ((twoW.map strB).map D.str))
  gFILLS : Glo K mg "FILLS" (.tup ((fillsW.map strB).map D.str))
  gWINDOWS : Glo K mg "WINDOWS" (.tup ((windowsW.map strB).map D.str))
  gMOST_TIME : Glo K mg "MOST_TIME" (.int 100000)
  gMOST_VALUE : Glo K mg "MOST_VALUE" (.int 1000000)
  gMOST_UNDER : Glo K mg "MOST_UNDER" (.int 1000)
  gMOST_WITHIN : Glo K mg "MOST_WITHIN" (.int 6)
  gMOST_POINTS : Glo K mg "MOST_POINTS" (.int 16)
  gMOST_SERIES : Glo K mg "MOST_SERIES" (.int 4)
  gMOST_LETS : Glo K mg "MOST_LETS" (.int 8)
  gMOST_BYTES : Glo K mg "MOST_BYTES" (.int 4096)
  gMOST_POINTS_COMING : Glo K mg "MOST_POINTS_COMING" (.int 60)
  gMOST_COMING : Glo K mg "MOST_COMING" (.int 1000000000000000000000000)
  gMOST_NUMERATOR : Glo K mg "MOST_NUMERATOR" (.int 1000000)
  gMOST_DENOMINATOR : Glo K mg "MOST_DENOMINATOR" (.int 1000)
  gMOST_SHOWN : Glo K mg "MOST_SHOWN" (.int 999)
  gSHAPES : Glo K mg "SHAPES" (.tup (shapes.map fun s => D.str (shS s)))
  nabs : mg "abs" = none
  nlen : mg "len" = none
  nrange : mg "range" = none
  nmin : mg "min" = none
  nzip : mg "zip" = none
  nenumerate : mg "enumerate" = none
  nint : mg "int" = none
  nisinstance : mg "isinstance" = none
  ntuple : mg "tuple" = none
  nstr : mg "str" = none
  ndict : mg "dict" = none
  nsorted : mg "sorted" = none
  nlist : mg "list" = none
  nall : mg "all" = none
  nset : mg "set" = none
section
variable {P : Program} {w : World} {K : PySem.W.Frag} {mg : Str → Option Value} {base : Heap} {FC RC PC RF DC : Addr}
theorem chain (B : Fx P w K mg FC RC PC RF DC) {f : Addr} {fd : FuncData} (F : Fun K "answers" "answers" s_answers f fd) : FnOk P w K mg base CX0 26 f fd ["calls"] (Cg K (PureP p_answers)) := by
  have hcommon := f_common (P := P) (w := w) (base := base) B.common
  have hfraction := f_fraction B.fraction hcommon B.nabs
  have hplus := f_plus B.plus hfraction
  have hless := f_less B.less hfraction
  have htimes := f_times B.times hfraction
  have hbelow := f_is_below (P := P) (w := w) (base := base) B.is_below
  have hfar := f_far B.far hless B.nabs
  have hsum := f_sum_of B.sum_of hplus B.gNOUGHT
  have hleast := f_least_of B.least_of hbelow
  have hgreatest := f_greatest_of B.greatest_of hbelow
  have hon := f_on_line B.on_line hfraction hplus hless htimes
  have hisl := f_is_line B.is_line hbelow hfar hon B.nrange
  have hlines := f_lines B.lines hisl B.nlen B.nrange
  have hdepths := f_depths (P := P) (w := w) (base := base) B.depths B.nlen B.nrange B.nmin
  have hchart := f_chart B.chart hlines hdepths B.nlen
  have hfwl := f_first_without_line B.first_without_line hisl B.nzip
  have hff := f_first_fall B.first_fall hlines B.nenumerate
  have hfits := f_fits B.fits hfraction htimes hless hbelow hleast hgreatest
  have hsteps := f_steps B.steps hfits B.nlen B.nrange
  have hsv := f_step_value B.step_value hfraction hplus htimes hleast hgreatest
  have hpa := f_pairs_apart B.pairs_apart hsteps hfits B.nzip B.nrange
  have hruns := f_runs B.runs hless B.nzip
  have hasked := f_asked B.asked hfraction hplus htimes B.nenumerate B.nlen
  have htotals := f_totals B.totals hsum hleast hgreatest B.nlen
  have T := f_Fault (P := P) (w := w) (base := base) B.fault B.fcode B.fplace
  have hsign := f_sign_of (P := P) (w := w) (base := base) B.sign_of B.sg B.nlen
  have hrun := f_run_end B.run_end B.sg hsign B.nlen
  have htok1 := f_token_of B.token_of B.sg T B.nlen B.nint B.gLONGEST_NAME B.gGREATEST
  have hrem := f_remark_end (P := P) (w := w) (base := base) B.remark_end B.nlen B.gLINE_END
  have htoks := f_tokens_of B.tokens_of T hsign hrun hrem htok1 B.nlen B.nrange B.gBLANKS B.gREMARK B.tSIGNS
  have hnp := f_Reader_next_place (P := P) (w := w) (mg := mg) (base := base) (FC := FC) B.r_next_place B.cR
  have hst := f_Reader_stands (P := P) (w := w) (mg := mg) (base := base) (FC := FC) B.r_stands B.cR
  have hta := f_Reader_takes B.r_takes B.cR hst
  have hwa := f_Reader_wants B.r_wants B.cR T hta hnp
  have hna := f_Reader_name B.r_name B.cR T B.gRESERVED
  have hwo := f_Reader_word_of B.r_word_of B.cR T
  have hnu := f_Reader_number B.r_number B.cR T
  have hsi := f_Reader_signed B.r_signed B.cR hta hnu
  have hva := f_Reader_value B.r_value B.cR hta hnu hsi hfraction B.gMOST_VALUE B.gMOST_UNDER
  have hpo := f_Reader_point B.r_point B.cR T hta hwa hsi hva B.gMOST_TIME
  have hex := f_Reader_expression B.r_expression B.r_rest B.cR T hwa hsi hva hwo hnu B.gMOST_WITHIN B.gRESERVED B.gTWO B.gFILLS B.gWINDOWS B.gMOST_TIME 7
  have hle := f_Reader_one_let B.r_one_let B.cR hna hwa hex
  have hse := f_Reader_one_series B.r_one_series B.cR T hna hwa hta hnp hpo B.nlen B.gMOST_POINTS
  have hmP := f_Program_init (P := P) (w := w) (base := base) B.mProgram B.cP.c B.cP.n1 B.cP.n2
  have hpr := f_Reader_program B.r_program B.cR T hst hwa hnp hse hle hmP B.nlen B.gMOST_SERIES B.gMOST_LETS
  have hmR := f_Reader_init (P := P) (w := w) (base := base) B.mReader B.cR
  have hin := f_inside (P := P) (w := w) (base := base) B.inside B.nisinstance B.ntuple B.nstr
  have hnm := f_names_in B.names_in hin 7 (by decide)
  have hvt := f_value_text (P := P) (w := w) (base := base) B.value_text B.nstr
  have het := f_expression_text B.expression_text hin hvt B.nstr 7 (by decide)
  have hlo := f_look_at_names B.look_at_names T B.cP hnm
  have hof := f_one_form B.one_form B.cP hvt het B.nstr
  have hread := f_read_program B.read_program T B.cR B.cP htoks hmR hpr hlo hof B.nlen B.gMOST_BYTES
  have hcomes := f_comes (P := P) (w := w) (base := base) B.comes B.nlen B.nabs B.gMOST_POINTS_COMING B.gMOST_COMING
  have hvalat := f_value_at (P := P) (w := w) (base := base) B.value_at
  have hlastv := f_last_value (P := P) (w := w) (base := base) B.last_value
  have hotv := f_of_two_values B.of_two_values hplus hless hleast hgreatest
  have hmerged := f_merged B.merged hvalat B.nsorted B.ndict
  have hoftwo := f_of_two B.of_two hlastv hmerged hotv B.ndict
  have hfv := f_filled_value B.filled_value hon B.gNOUGHT
  have hfilled := f_filled B.filled hfv B.nenumerate
  have hwv := f_window_value B.window_value hfraction htimes hsum hleast hgreatest B.nlen
  have hwindowed := f_windowed B.windowed hwv B.nrange B.gMOST_POINTS_COMING
  have hdiff := f_differences B.differences hotv B.nlen B.nrange
  have hsums := f_sums B.sums hplus
  have heach := f_each_value B.each_value htimes hbelow B.gONE B.gNOUGHT
  have hofone := f_of_one B.of_one hfilled hwindowed hdiff hsums heach
  have hwork := f_worked_out B.worked_out hoftwo hofone hcomes B.gTWO 7
  have hrows := f_all_rows B.all_rows B.cP hwork B.nlist
  have TR := f_Refused (P := P) (w := w) (base := base) B.refused B.rwhy
  have hwant := f_want B.want TR
  have hbound := f_bound_of B.bound_of hwant hfraction B.gMOST_NUMERATOR B.gMOST_DENOMINATOR
  have htof := f_times_of (P := P) (w := w) (base := base) B.times_of
  have dpoints := f_Desk_points B.d_points B.cD hwant B.nlen
  have dchart := f_Desk_chart_told B.d_chart_told B.cD dpoints hbound hchart htof B.nlen
  have dwithin := f_Desk_within B.d_within B.cD hwant dpoints hbound hfwl htof B.nlen B.nall B.nsorted B.nset
  have ddepths := f_Desk_depths_told B.d_depths_told B.cD dpoints hbound hlines hdepths B.nlen
  have dshows := f_Desk_shows B.d_shows B.cD hwant dpoints hbound hff htof B.nlen B.nall B.gMOST_SHOWN
  have dsteps := f_Desk_steps_told B.d_steps_told B.cD dpoints hbound hsteps hsv htof B.nlen B.nlist
  have dapart := f_Desk_apart B.d_apart B.cD dpoints hbound hpa htof B.nlen
  have dstore := f_Desk_store B.d_store B.cD dpoints hruns B.nlen B.nlist
  have dasked := f_Desk_asked_told B.d_asked_told B.cD dpoints hruns hasked B.nlist
  have dtotals := f_Desk_totals_told B.d_totals_told B.cD dpoints htotals B.nlist
  have dofrows := f_Desk_of_rows B.d_of_rows B.cD dchart dwithin ddepths dshows dsteps dapart dstore dasked dtotals
  have dload := f_Desk_load B.d_load B.cD T B.fcode B.fplace B.cP hread hrows B.nlen
  have danswer := f_Desk_answer B.d_answer B.cD TR B.rwhy dload hwant dofrows
  have hmD := f_Desk_init (P := P) (w := w) (base := base) B.mDesk B.cD
  have hca := f_call_at (P := P) (w := w) (base := base) B.call_at B.gSHAPES
  exact ok_answers F B.cD hmD hca danswer B.nlen
end
end Fp

set_option Elab.async false
set_option linter.all false
set_option maxRecDepth 100000
set_option maxHeartbeats 2000000
namespace Fp
open PySem PySem.Spec PyProof.Rows L2 Dl
open VatmsBase (Bytes word Frac frac whole)
section
variable {P : Program} {w : World} {K : PySem.W.Frag} {h : Heap} {mg : Str → Option Value}
theorem fa_mk (X : K.In h) (G : h.Ns mainGlobals mg) {x : Str} {st : Stmt} {f : Addr} {oc : Value} {od an : Option Addr} {osl : Array (Option Value)} {kV doc pm cdv ct : Value} (a : PySem.W.nsIn K mainGlobals x = some (some (.ref f)))
    (l : K.lookup f = some ⟨oc, od, .func (PySem.W.fnOf x x (defArgs st) (defBody st) (defScope st) .none kV doc pm an cdv ct), osl⟩) (c : PySem.W.codeIn K cdv x = true) (k : PySem.W.keepIn K (.ref f) = true) : Fa K mg x st := ⟨f, _, PySem.W.mg_of X G a, fun_mk l c k⟩
theorem ma_mk {C : Addr} {m qual : Str} {st : Stmt} {f : Addr} {oc : Value} {od an : Option Addr} {osl : Array (Option Value)} {kV doc pm cdv ct : Value} (a : PySem.W.findIn K (.ref C) m = some (some (.ref f)))
    (l : K.lookup f = some ⟨oc, od, .func (PySem.W.fnOf m qual (defArgs st) (defBody st) (defScope st) .none kV doc pm an cdv ct), osl⟩) (c : PySem.W.codeIn K cdv qual = true) (k : PySem.W.keepIn K (.ref f) = true) (i : PySem.W.isFn K (.ref f) = true) : Ma K C m qual st := ⟨f, _, ⟨a, i, k⟩, fun_mk l c k⟩
theorem mf_mk (X : K.In h) (G : h.Ns mainGlobals mg) {x : Str} {C : Addr} {qual : Str} {st : Stmt} {f : Addr} {oc : Value} {od an : Option Addr} {osl : Array (Option Value)} {kV doc pm cdv ct : Value} (aC : PySem.W.nsIn K mainGlobals x = some (some (.ref C))) (a : PySem.W.findIn K (.ref C) "__init__" = some (some (.ref f)))
    (l : K.lookup f = some ⟨oc, od, .func (PySem.W.fnOf "__init__" qual (defArgs st) (defBody st) (defScope st) .none kV doc pm an cdv ct), osl⟩) (c : PySem.W.codeIn K cdv qual = true) (k : PySem.W.keepIn K (.ref f) = true) (i : PySem.W.isFn K (.ref f) = true)
    (m : PySem.W.makesIn K C = true) (kC : PySem.W.keepIn K (.ref C) = true) : Mf K mg x C qual st := ⟨f, _, PySem.W.mg_of X G aC, ⟨m, a, i, kC⟩, fun_mk l c k⟩
theorem cls_mk {C : Addr} (a : PySem.W.plainGet K C Str.empty = true) (b : PySem.W.hasDictIn K C = true) (c : PySem.W.plainOver K C = true) (d : PySem.W.findIn K (.ref C) "__setattr__" = some (some (.builtin "object.__setattr__"))) : Cls K C := ⟨a, b, c, d⟩
theorem no_mk {C : Addr} {f : Str} (a : PySem.W.findIn K (.ref C) f = some none) : NoAttr K C f := a
/-- what an except names is what is raised -/
theorem exm_own {S : Addr} (h1 : PySem.W.subIn K (.ref S) (.type "BaseException") = some true) (h2 : PySem.W.isClsIn K S = true) (h3 : PySem.W.typeIn K (.ref S) = some (.type "type")) (h4 : PySem.W.subIn K (.ref S) (.ref S) = some true) : PySem.W.exmOne K (.ref S) (.ref S) = some true := by
  have e1 : (PySem.W.subIn K (.ref S) (.type "BaseException") == some true) = true := by rw [h1]; rfl
  have h2 : (PySem.W.clsIn K S).isSome = true := h2
  have e2 : ((PySem.W.clsIn K S).isSome && PySem.W.typeIn K (.ref S) == some (.type "type")) = true := by rw [h2, h3]; rfl
  show (if (PySem.W.subIn K (.ref S) (.type "BaseException") == some true) = true then (if ((PySem.W.clsIn K S).isSome && PySem.W.typeIn K (.ref S) == some (.type "type")) = true then PySem.W.subIn K (.ref S) (.ref S) else none) else none) = some true
  rw [if_pos e1, if_pos e2, h4]
theorem mx_mk (X : K.In h) (G : h.Ns mainGlobals mg) {x : Str} {C N : Addr} {qual nm q : Str} {st : Stmt} {f : Addr} {bs : List Value} {sn : List Str} {sub : List Value} {ab : Bool} {col : Option Bool} {dd : Option Addr} {m0 m1 m2 m3 m5 : Option Value}
    {oc : Value} {od an : Option Addr} {osl : Array (Option Value)} {kV doc pm cdv ct : Value} (aC : PySem.W.nsIn K mainGlobals x = some (some (.ref C)))
    (xL : K.lookup C = some (excClassObj nm q C N bs [.type "ValueError", .type "Exception", .type "BaseException", .type "object"] true sn sub ab col dd m0 m1 m2 m3 m5 "ValueError.__new__"))
    (sa : PySem.W.findIn K (.ref C) "__setattr__" = some (some (.builtin "object.__setattr__"))) (ga : PySem.W.findIn K (.ref C) "__getattribute__" = some (some (.builtin "BaseException.__getattribute__"))) (gg : PySem.W.findIn K (.ref C) "__getattr__" = some none)
    (kC : PySem.W.keepIn K (.ref C) = true) (eC : PySem.W.subIn K (.ref C) (.type "BaseException") = some true) (tC : PySem.W.typeIn K (.ref C) = some (.type "type")) (hC : PySem.W.hasDictIn K C = true) (iC : PySem.W.isClsIn K C = true) (sC : PySem.W.subIn K (.ref C) (.ref C) = some true)
    (a : PySem.W.findIn K (.ref C) "__init__" = some (some (.ref f))) (tf : PySem.W.typeIn K (.ref f) = some (.type "function"))
    (l : K.lookup f = some ⟨oc, od, .func (PySem.W.fnOf "__init__" qual (defArgs st) (defBody st) (defScope st) .none kV doc pm an cdv ct), osl⟩) (c : PySem.W.codeIn K cdv qual = true) (k : PySem.W.keepIn K (.ref f) = true) : Mx K mg x C qual st :=
  ⟨PySem.W.mg_of X G aC, ⟨⟨nm, q, N, bs, _, sn, sub, ab, col, dd, m0, m1, m2, m3, m5, xL, by decide +kernel⟩, sa, eC, tC, kC⟩, ⟨ga, gg, eC, hC⟩, exm_own eC iC tC sC, f, _, a, tf, fun_mk l c k⟩
/-! constants -/
theorem glo_int (X : K.In h) (G : h.Ns mainGlobals mg) {x : Str} {n : Int} {t : Tok} (a : PySem.W.nsIn K mainGlobals x = some (some (.int n t))) : Glo K mg x (.int n) := ⟨_, .int n, PySem.W.mg_of X G a, ⟨t, rfl⟩, fun _ => .int n⟩
theorem glo_str (X : K.In h) (G : h.Ns mainGlobals mg) {x z s : Str} {t : Tok} (a : PySem.W.nsIn K mainGlobals x = some (some (.str s t))) (e : (s == z) = true) : Glo K mg x (.str z) := ⟨_, .str z, PySem.W.mg_of X G a, ⟨t, by rw [eq_of_beq e]⟩, fun _ => .str z⟩
def valB (v : V) (u : Value) : Bool := match v, u with
  | .int n, .int m _ => n == m
  | .str a, .str b _ => a == b
  | _, _ => false
def valsB : List V → List Value → Bool
  | [], [] => true
  | v :: vs, u :: us => valB v u && valsB vs us
  | _, _ => false
theorem valB_ok {v : V} {u : Value} (h : valB v u = true) : RelV v u := by
  cases v <;> cases u <;> first | (cases h; done) | skip
  · exact ⟨_, by rw [eq_of_beq (show (_ == _) = true from h)]⟩
  · exact ⟨_, by rw [eq_of_beq (show (_ == _) = true from h)]⟩
theorem valsB_ok : ∀ {vs : List V} {us : List Value}, valsB vs us = true → Vals vs us
  | [], [], _ => .nil
  | [], _ :: _, h => nomatch h
  | _ :: _, [], h => nomatch h
  | v :: vs, u :: us, h => by
    obtain ⟨h1, h2⟩ := Bool.and_eq_true_iff.mp h
    exact .cons (valB_ok h1) (valsB_ok h2)
theorem glo_tup (X : K.In h) (G : h.Ns mainGlobals mg) {x : Str} {p : Addr} {od : Option Addr} {its : Array Value} {n : Nat} {sl : Array (Option Value)} (vs : List V) (ds : List D) (a : PySem.W.nsIn K mainGlobals x = some (some (.ref p))) (l : K.lookup p = some ⟨.type "tuple", od, .seq its n, sl⟩)
    (e : valsB vs its.toList = true) (rp : ∀ I : Hp, RpA K I vs ds) (sz : its.size ≤ 1000) : Glo K mg x (.tup ds) :=
  ⟨_, .ref p, PySem.W.mg_of X G a, rfl, fun I => .tup (.inr ⟨_, its, n, l, rfl, rfl, len_le (Nat.le_trans sz (by decide)), valsB_ok e⟩) (rp I)⟩
theorem rp_strs {I : Hp} : ∀ l : List Str, RpA K I (l.map V.str) (l.map D.str)
  | [] => .nil
  | s :: l => .cons (.str s) (rp_strs l)
def tabB : List DictEntry → List (Int × Str) → Bool
  | [], [] => true
  | e :: es, (k, z) :: r => (match e.key, e.val with
    | .int i _, .str s _ => i == k && s == z
    | _, _ => false) && (e.hash == hashInt k) && tabB es r
  | _, _ => false
theorem tabB_ok : ∀ {es : List DictEntry} {kvs : List (Int × Str)}, tabB es kvs = true → ∃ kv, Pairs (PySem.intKind P w) es kv ∧ TabKV kvs kv ∧ kv.map (·.1) = kvs.map (·.1) ∧ ∀ e ∈ es, ∃ k, (PySem.intKind P w).is k e.key = true ∧ e.hash = (PySem.intKind P w).hash k
  | [], [], _ => ⟨[], .nil, .nil, rfl, fun e he => nomatch he⟩
  | [], _ :: _, h => nomatch h
  | _ :: _, [], h => nomatch h
  | e :: es, (k, z) :: r, h => by
    obtain ⟨h1, h2⟩ := Bool.and_eq_true_iff.mp h
    obtain ⟨h1, h3⟩ := Bool.and_eq_true_iff.mp h1
    obtain ⟨kv, p1, p2, p3, p4⟩ := tabB_ok h2
    cases hk : e.key with
    | int i t =>
      cases hv : e.val with
      | str s u =>
        rw [hk, hv] at h1
        obtain ⟨h4, h5⟩ := Bool.and_eq_true_iff.mp (show (i == k && s == z) = true from h1)
        have h4 := eq_of_beq h4
        have h5 := eq_of_beq h5
        subst h4; subst h5
        have hi : (PySem.intKind P w).is i e.key = true := by rw [hk]; exact intKind_is P w i t
        refine ⟨(i, .str s u) :: kv, .cons hi hv p1, .cons p2, by rw [List.map_cons, List.map_cons, p3], fun e' he => ?_⟩
        rcases List.mem_cons.mp he with q | q
        · subst q; exact ⟨i, hi, eq_of_beq h3⟩
        · exact p4 e' q
      | _ => rw [hk, hv] at h1; cases h1
    | _ => rw [hk] at h1; cases h1
theorem tab_mk (X : K.In h) (G : h.Ns mainGlobals mg) {x : Str} {d : Addr} {es : Array DictEntry} {ep : Nat} (kvs : List (Int × Str)) (a : PySem.W.nsIn K mainGlobals x = some (some (.ref d))) (l : K.lookup d = some ⟨.type "dict", none, .dict es ep, #[]⟩)
    (e : tabB es.toList kvs = true) (ne : (d == sysModules) = false) (nd : (kvs.map (·.1)).Nodup) : ITab P w K mg x kvs := by
  obtain ⟨kv, p1, p2, p3, p4⟩ := tabB_ok (P := P) (w := w) e
  exact ⟨d, _, kv, PySem.W.mg_of X G a, l, ne, ⟨es, ep, ⟨rfl, rfl, rfl⟩, rfl, fun e he => p4 e (by simpa using he), p1, by rw [p3]; exact nd⟩, p2⟩
/-! the end -/
theorem all_mk {r : PySem.W.OpenSpec} {fa FC RC PC RF DC f : Addr} {oc : Value} {od an : Option Addr} {osl : Array (Option Value)} {kV doc pm cdv ct : Value} (X : K.In h) (G : h.Ns mainGlobals mg) (hfa : mg "answers" = some (.ref fa)) (B : Fx P w K mg FC RC PC RF DC) (a : PySem.W.nsIn K mainGlobals "answers" = some (some (.ref f)))
    (l : K.lookup f = some ⟨oc, od, .func (PySem.W.fnOf "answers" "answers" (defArgs s_answers) (defBody s_answers) (defScope s_answers) .none kV doc pm an cdv ct), osl⟩) (c : PySem.W.codeIn K cdv "answers" = true) (k : PySem.W.keepIn K (.ref f) = true) :
    ∃ fd : FuncData, (∀ (s : Shared) (us : List Value), us.length = (["calls"] : List Str).length → BindsTo s fd ⟨us, []⟩ ((["calls"] : List Str).zip us)) ∧ ∀ base : Heap, K.In base → base.Ns mainGlobals mg → FnOk P w K mg base CX0 26 fa fd ["calls"] (Cg K (PureP p_answers)) := by
  have e := hfa.symm.trans (PySem.W.mg_of X G a)
  cases e
  exact ⟨PySem.W.fnOf "answers" "answers" (defArgs s_answers) (defBody s_answers) (defScope s_answers) .none kV doc pm an cdv ct, fun s us hu => match us, hu with | [_], _ => .of_eq rfl, fun base _ _ => chain B (fun_mk l c k)⟩
theorem end_sp {H : Hp} {b : Addr} {ns : List Int} (hs : SqL K H b (ns.map V.int)) (ha : PyVatmse.answers_asked ns = true) : Cg K (PureP p_answers) [.ref b] H (fun v H' => Dw K H' v (.list ((PyVatmse.answers ns).map PySem.W.WData.int))) fun _ _ _ => False := by
  refine ⟨H, [Sl.im (.arr ns)], .ok (.lst ((PyVatmse.answers ns).map D.int)) [Sl.im (.arr ns)], ⟨fun _ _ q => q, rfl, fun i s q => ?_, fun i j p o o' q _ => ?_⟩, ⟨[.arr ns], _, rfl, rfl, ns, rfl, ha, rfl⟩, fun v I' H' s1 a1 rv => ?_⟩
  · cases i with
    | zero => cases q; exact ⟨_, rfl, .ref b, rfl, .arr hs⟩
    | succ i => cases q
  · cases i with
    | zero => cases q
    | succ i => cases q
  · cases rv with
    | lst hb rr =>
      have e := ints_ev _ rr
      subst e
      exact .lst (SqL.of (a1.sub _ _ hb)) (dw_ints _)
end
end Fp

set_option Elab.async false
set_option linter.all false
set_option maxRecDepth 100000
set_option maxHeartbeats 2000000
open PySem PySem.W PyProof.Rows
set_option maxRecDepth 100000 in
set_option maxHeartbeats 0 in
theorem PySem.Challenge.cw_fewpoints_s01_answers_holds : PySem.Challenge.rw_fewpoints_s01_answers.Holds := by
  w_on; k_headS; (case hw => exact ⟨[.list [.int 0, .int 0]], by decide +kernel, by decide +kernel⟩)
  k_fillS
  refine L2.walk_specK (r := PySem.Challenge.rw_fewpoints_s01_answers) (k := 26) (CX := L2.CX0) (ps := ["calls"]) (sp := fun K => Dl.Cg K (Dl.PureP Fp.p_answers)) (by decide +kernel) rfl rfl ⟨rfl, by decide, by decide⟩ (fun w h Y => PySem.W.kIn_of Y) ?F ?S (fun _ _ _ _ z => z)
  case F =>
    intro w mg fa h Y KX G hmg
    refine' Fp.all_mk (r := PySem.Challenge.rw_fewpoints_s01_answers) KX G hmg (Fp.Fx.mk (common := ?x_common) (fraction := ?x_fraction) (plus := ?x_plus) (less := ?x_less) (times := ?x_times) (is_below := ?x_is_below) (far := ?x_far) (sum_of := ?x_sum_of) (least_of := ?x_least_of) (greatest_of := ?x_greatest_of) (on_line := ?x_on_line) (is_line := ?x_is_line) (lines := ?x_lines) (depths := ?x_depths) (chart := ?x_chart) (first_without_line := ?x_first_without_line) (first_fall := ?x_first_fall) (fits := ?x_fits) (steps := ?x_steps) (step_value := ?x_step_value) (pairs_apart := ?x_pairs_apart) (runs := ?x_runs) (asked := ?x_asked) (totals := ?x_totals) (sign_of := ?x_sign_of) (run_end := ?x_run_end) (token_of := ?x_token_of) (remark_end := ?x_remark_end) (tokens_of := ?x_tokens_of) (inside := ?x_inside) (names_in := ?x_names_in) (look_at_names := ?x_look_at_names) (value_text := ?x_value_text) (expression_text := ?x_expression_text) (one_form := ?x_one_form) (read_program := ?x_read_program) (comes := ?x_comes) (value_at := ?x_value_at) (last_value := ?x_last_value) (of_two_values := ?x_of_two_values) (merged := ?x_merged) (of_two := ?x_of_two) (filled_value := ?x_filled_value) (filled := ?x_filled) (window_value := ?x_window_value) (windowed := ?x_windowed) (differences := ?x_differences) (sums := ?x_sums) (each_value := ?x_each_value) (of_one := ?x_of_one) (worked_out := ?x_worked_out) (all_rows := ?x_all_rows) (want := ?x_want) (bound_of := ?x_bound_of) (times_of := ?x_times_of) (call_at := ?x_call_at) (fault := ?x_fault) (fcode := ?x_fcode) (fplace := ?x_fplace) (refused := ?x_refused) (rwhy := ?x_rwhy) (cR := ?x_cR) (mReader := ?x_mReader) (r_next_place := ?x_r_next_place) (r_stands := ?x_r_stands) (r_takes := ?x_r_takes) (r_wants := ?x_r_wants) (r_name := ?x_r_name) (r_word_of := ?x_r_word_of) (r_number := ?x_r_number) (r_signed := ?x_r_signed) (r_value := ?x_r_value) (r_point := ?x_r_point) (r_rest := ?x_r_rest) (r_expression := ?x_r_expression) (r_one_let := ?x_r_one_let) (r_one_series := ?x_r_one_series) (r_program := ?x_r_program) (cP := ?x_cP) (mProgram := ?x_mProgram) (cD := ?x_cD) (mDesk := ?x_mDesk) (d_load := ?x_d_load) (d_points := ?x_d_points) (d_chart_told := ?x_d_chart_told) (d_within := ?x_d_within) (d_depths_told := ?x_d_depths_told) (d_shows := ?x_d_shows) (d_steps_told := ?x_d_steps_told) (d_apart := ?x_d_apart) (d_store := ?x_d_store) (d_asked_told := ?x_d_asked_told) (d_totals_told := ?x_d_totals_told) (d_of_rows := ?x_d_of_rows) (d_answer := ?x_d_answer) (sg := ?x_sg) (gNOUGHT := ?x_gNOUGHT) (gONE := ?x_gONE) (gLONGEST_NAME := ?x_gLONGEST_NAME) (gGREATEST := ?x_gGREATEST) (gLINE_END := ?x_gLINE_END) (gBLANKS := ?x_gBLANKS) (gREMARK := ?x_gREMARK) (tSIGNS := ?x_tSIGNS) (gRESERVED := ?x_gRESERVED) (gTWO := ?x_gTWO) (gFILLS := ?x_gFILLS) (gWINDOWS := ?x_gWINDOWS) (gMOST_TIME := ?x_gMOST_TIME) (gMOST_VALUE := ?x_gMOST_VALUE) (gMOST_UNDER := ?x_gMOST_UNDER) (gMOST_WITHIN := ?x_gMOST_WITHIN) (gMOST_POINTS := ?x_gMOST_POINTS) (gMOST_SERIES := ?x_gMOST_SERIES) (gMOST_LETS := ?x_gMOST_LETS) (gMOST_BYTES := ?x_gMOST_BYTES) (gMOST_POINTS_COMING := ?x_gMOST_POINTS_COMING) (gMOST_COMING := ?x_gMOST_COMING) (gMOST_NUMERATOR := ?x_gMOST_NUMERATOR) (gMOST_DENOMINATOR := ?x_gMOST_DENOMINATOR) (gMOST_SHOWN := ?x_gMOST_SHOWN) (gSHAPES := ?x_gSHAPES) (nabs := ?x_nabs) (nlen := ?x_nlen) (nrange := ?x_nrange) (nmin := ?x_nmin) (nzip := ?x_nzip) (nenumerate := ?x_nenumerate) (nint := ?x_nint) (nisinstance := ?x_nisinstance) (ntuple := ?x_ntuple) (nstr := ?x_nstr) (ndict := ?x_ndict) (nsorted := ?x_nsorted) (nlist := ?x_nlist) (nall := ?x_nall) (nset := ?x_nset)) ?y1 ?y2 ?y3 ?y4
    case x_fault => exact Fp.mx_mk KX G (by k_is) (by k_is) (by k_is) (by k_is) (by k_is) (by k_is) (by k_is) (by k_is) (by k_is) (by k_is) (by first | rfl | k_is) (by k_is) (by k_is) (by k_is) (by k_is) (by k_is)
    case x_refused => exact Fp.mx_mk KX G (by k_is) (by k_is) (by k_is) (by k_is) (by k_is) (by k_is) (by k_is) (by k_is) (by k_is) (by k_is) (by first | rfl | k_is) (by k_is) (by k_is) (by k_is) (by k_is) (by k_is)
    case x_mReader => exact Fp.mf_mk KX G (by k_is) (by k_is) (by k_is) (by k_is) (by k_is) (by k_is) (by k_is) (by k_is)
    case x_mProgram => exact Fp.mf_mk KX G (by k_is) (by k_is) (by k_is) (by k_is) (by k_is) (by k_is) (by k_is) (by k_is)
    case x_mDesk => exact Fp.mf_mk KX G (by k_is) (by k_is) (by k_is) (by k_is) (by k_is) (by k_is) (by k_is) (by k_is)
    case x_common => exact Fp.fa_mk KX G (by k_is) (by k_is) (by k_is) (by k_is)
    case x_fraction => exact Fp.fa_mk KX G (by k_is) (by k_is) (by k_is) (by k_is)
    case x_plus => exact Fp.fa_mk KX G (by k_is) (by k_is) (by k_is) (by k_is)
    case x_less => exact Fp.fa_mk KX G (by k_is) (by k_is) (by k_is) (by k_is)
    case x_times => exact Fp.fa_mk KX G (by k_is) (by k_is) (by k_is) (by k_is)
    case x_is_below => exact Fp.fa_mk KX G (by k_is) (by k_is) (by k_is) (by k_is)
    case x_far => exact Fp.fa_mk KX G (by k_is) (by k_is) (by k_is) (by k_is)
    case x_sum_of => exact Fp.fa_mk KX G (by k_is) (by k_is) (by k_is) (by k_is)
    case x_least_of => exact Fp.fa_mk KX G (by k_is) (by k_is) (by k_is) (by k_is)
    case x_greatest_of => exact Fp.fa_mk KX G (by k_is) (by k_is) (by k_is) (by k_is)
    case x_on_line => exact Fp.fa_mk KX G (by k_is) (by k_is) (by k_is) (by k_is)
    case x_is_line => exact Fp.fa_mk KX G (by k_is) (by k_is) (by k_is) (by k_is)
    case x_lines => exact Fp.fa_mk KX G (by k_is) (by k_is) (by k_is) (by k_is)
    case x_depths => exact Fp.fa_mk KX G (by k_is) (by k_is) (by k_is) (by k_is)
    case x_chart => exact Fp.fa_mk KX G (by k_is) (by k_is) (by k_is) (by k_is)
    case x_first_without_line => exact Fp.fa_mk KX G (by k_is) (by k_is) (by k_is) (by k_is)
    case x_first_fall => exact Fp.fa_mk KX G (by k_is) (by k_is) (by k_is) (by k_is)
    case x_fits => exact Fp.fa_mk KX G (by k_is) (by k_is) (by k_is) (by k_is)
    case x_steps => exact Fp.fa_mk KX G (by k_is) (by k_is) (by k_is) (by k_is)
    case x_step_value => exact Fp.fa_mk KX G (by k_is) (by k_is) (by k_is) (by k_is)
    case x_pairs_apart => exact Fp.fa_mk KX G (by k_is) (by k_is) (by k_is) (by k_is)
    case x_runs => exact Fp.fa_mk KX G (by k_is) (by k_is) (by k_is) (by k_is)
    case x_asked => exact Fp.fa_mk KX G (by k_is) (by k_is) (by k_is) (by k_is)
    case x_totals => exact Fp.fa_mk KX G (by k_is) (by k_is) (by k_is) (by k_is)
    case x_sign_of => exact Fp.fa_mk KX G (by k_is) (by k_is) (by k_is) (by k_is)
    case x_run_end => exact Fp.fa_mk KX G (by k_is) (by k_is) (by k_is) (by k_is)
    case x_token_of => exact Fp.fa_mk KX G (by k_is) (by k_is) (by k_is) (by k_is)
    case x_remark_end => exact Fp.fa_mk KX G (by k_is) (by k_is) (by k_is) (by k_is)
    case x_tokens_of => exact Fp.fa_mk KX G (by k_is) (by k_is) (by k_is) (by k_is)
    case x_inside => exact Fp.fa_mk KX G (by k_is) (by k_is) (by k_is) (by k_is)
    case x_names_in => exact Fp.fa_mk KX G (by k_is) (by k_is) (by k_is) (by k_is)
    case x_look_at_names => exact Fp.fa_mk KX G (by k_is) (by k_is) (by k_is) (by k_is)
    case x_value_text => exact Fp.fa_mk KX G (by k_is) (by k_is) (by k_is) (by k_is)
    case x_expression_text => exact Fp.fa_mk KX G (by k_is) (by k_is) (by k_is) (by k_is)
    case x_one_form => exact Fp.fa_mk KX G (by k_is) (by k_is) (by k_is) (by k_is)
    case x_read_program => exact Fp.fa_mk KX G (by k_is) (by k_is) (by k_is) (by k_is)
    case x_comes => exact Fp.fa_mk KX G (by k_is) (by k_is) (by k_is) (by k_is)
    case x_value_at => exact Fp.fa_mk KX G (by k_is) (by k_is) (by k_is) (by k_is)
    case x_last_value => exact Fp.fa_mk KX G (by k_is) (by k_is) (by k_is) (by k_is)
    case x_of_two_values => exact Fp.fa_mk KX G (by k_is) (by k_is) (by k_is) (by k_is)
    case x_merged => exact Fp.fa_mk KX G (by k_is) (by k_is) (by k_is) (by k_is)
    case x_of_two => exact Fp.fa_mk KX G (by k_is) (by k_is) (by k_is) (by k_is)
    case x_filled_value => exact Fp.fa_mk KX G (by k_is) (by k_is) (by k_is) (by k_is)
    case x_filled => exact Fp.fa_mk KX G (by k_is) (by k_is) (by k_is) (by k_is)
    case x_window_value => exact Fp.fa_mk KX G (by k_is) (by k_is) (by k_is) (by k_is)
    case x_windowed => exact Fp.fa_mk KX G (by k_is) (by k_is) (by k_is) (by k_is)
    case x_differences => exact Fp.fa_mk KX G (by k_is) (by k_is) (by k_is) (by k_is)
    case x_sums => exact Fp.fa_mk KX G (by k_is) (by k_is) (by k_is) (by k_is)
    case x_each_value => exact Fp.fa_mk KX G (by k_is) (by k_is) (by k_is) (by k_is)
    case x_of_one => exact Fp.fa_mk KX G (by k_is) (by k_is) (by k_is) (by k_is)
    case x_worked_out => exact Fp.fa_mk KX G (by k_is) (by k_is) (by k_is) (by k_is)
    case x_all_rows => exact Fp.fa_mk KX G (by k_is) (by k_is) (by k_is) (by k_is)
    case x_want => exact Fp.fa_mk KX G (by k_is) (by k_is) (by k_is) (by k_is)
    case x_bound_of => exact Fp.fa_mk KX G (by k_is) (by k_is) (by k_is) (by k_is)
    case x_times_of => exact Fp.fa_mk KX G (by k_is) (by k_is) (by k_is) (by k_is)
    case x_call_at => exact Fp.fa_mk KX G (by k_is) (by k_is) (by k_is) (by k_is)
    case x_fcode => k_is
    case x_fplace => k_is
    case x_rwhy => k_is
    case x_cR => exact ⟨Fp.cls_mk (by k_is) (by k_is) (by k_is) (by k_is), Fp.no_mk (by k_is), Fp.no_mk (by k_is)⟩
    case x_r_next_place => exact Fp.ma_mk (by k_is) (by k_is) (by k_is) (by k_is) (by k_is)
    case x_r_stands => exact Fp.ma_mk (by k_is) (by k_is) (by k_is) (by k_is) (by k_is)
    case x_r_takes => exact Fp.ma_mk (by k_is) (by k_is) (by k_is) (by k_is) (by k_is)
    case x_r_wants => exact Fp.ma_mk (by k_is) (by k_is) (by k_is) (by k_is) (by k_is)
    case x_r_name => exact Fp.ma_mk (by k_is) (by k_is) (by k_is) (by k_is) (by k_is)
    case x_r_word_of => exact Fp.ma_mk (by k_is) (by k_is) (by k_is) (by k_is) (by k_is)
    case x_r_number => exact Fp.ma_mk (by k_is) (by k_is) (by k_is) (by k_is) (by k_is)
    case x_r_signed => exact Fp.ma_mk (by k_is) (by k_is) (by k_is) (by k_is) (by k_is)
    case x_r_value => exact Fp.ma_mk (by k_is) (by k_is) (by k_is) (by k_is) (by k_is)
    case x_r_point => exact Fp.ma_mk (by k_is) (by k_is) (by k_is) (by k_is) (by k_is)
    case x_r_rest => exact Fp.ma_mk (by k_is) (by k_is) (by k_is) (by k_is) (by k_is)
    case x_r_expression => exact Fp.ma_mk (by k_is) (by k_is) (by k_is) (by k_is) (by k_is)
    case x_r_one_let => exact Fp.ma_mk (by k_is) (by k_is) (by k_is) (by k_is) (by k_is)
    case x_r_one_series => exact Fp.ma_mk (by k_is) (by k_is) (by k_is) (by k_is) (by k_is)
    case x_r_program => exact Fp.ma_mk (by k_is) (by k_is) (by k_is) (by k_is) (by k_is)
    case x_cP => exact ⟨Fp.cls_mk (by k_is) (by k_is) (by k_is) (by k_is), Fp.no_mk (by k_is), Fp.no_mk (by k_is)⟩
    case x_cD => exact ⟨Fp.cls_mk (by k_is) (by k_is) (by k_is) (by k_is), Fp.no_mk (by k_is)⟩
    case x_d_load => exact Fp.ma_mk (by k_is) (by k_is) (by k_is) (by k_is) (by k_is)
    case x_d_points => exact Fp.ma_mk (by k_is) (by k_is) (by k_is) (by k_is) (by k_is)
    case x_d_chart_told => exact Fp.ma_mk (by k_is) (by k_is) (by k_is) (by k_is) (by k_is)
    case x_d_within => exact Fp.ma_mk (by k_is) (by k_is) (by k_is) (by k_is) (by k_is)
    case x_d_depths_told => exact Fp.ma_mk (by k_is) (by k_is) (by k_is) (by k_is) (by k_is)
    case x_d_shows => exact Fp.ma_mk (by k_is) (by k_is) (by k_is) (by k_is) (by k_is)
    case x_d_steps_told => exact Fp.ma_mk (by k_is) (by k_is) (by k_is) (by k_is) (by k_is)
    case x_d_apart => exact Fp.ma_mk (by k_is) (by k_is) (by k_is) (by k_is) (by k_is)
    case x_d_store => exact Fp.ma_mk (by k_is) (by k_is) (by k_is) (by k_is) (by k_is)
    case x_d_asked_told => exact Fp.ma_mk (by k_is) (by k_is) (by k_is) (by k_is) (by k_is)
    case x_d_totals_told => exact Fp.ma_mk (by k_is) (by k_is) (by k_is) (by k_is) (by k_is)
    case x_d_of_rows => exact Fp.ma_mk (by k_is) (by k_is) (by k_is) (by k_is) (by k_is)
    case x_d_answer => exact Fp.ma_mk (by k_is) (by k_is) (by k_is) (by k_is) (by k_is)
    case x_sg => exact (⟨Fp.glo_str KX G (by k_is) (by decide +kernel), Fp.glo_str KX G (by k_is) (by decide +kernel), Fp.glo_str KX G (by k_is) (by decide +kernel)⟩)
    case x_gNOUGHT => exact Fp.glo_tup KX G [L2.V.int 0, L2.V.int 1] [Dl.D.int 0, Dl.D.int 1] (by k_is) (by k_is) (by decide +kernel) (fun _ => .cons (.int _) (.cons (.int _) (.nil))) (by decide)
    case x_gONE => exact Fp.glo_tup KX G [L2.V.int 1, L2.V.int 1] [Dl.D.int 1, Dl.D.int 1] (by k_is) (by k_is) (by decide +kernel) (fun _ => .cons (.int _) (.cons (.int _) (.nil))) (by decide)
    case x_gLONGEST_NAME => exact Fp.glo_int KX G (by k_is)
    case x_gGREATEST => exact Fp.glo_int KX G (by k_is)
    case x_gLINE_END => exact Fp.glo_int KX G (by k_is)
    case x_gBLANKS => exact Fp.glo_tup KX G [L2.V.int 32, L2.V.int 9, L2.V.int 10] [Dl.D.int 32, Dl.D.int 9, Dl.D.int 10] (by k_is) (by k_is) (by decide +kernel) (fun _ => .cons (.int _) (.cons (.int _) (.cons (.int _) (.nil)))) (by decide)
    case x_gREMARK => exact Fp.glo_int KX G (by k_is)
    case x_tSIGNS => exact Fp.tab_mk KX G Fp.signsT (by k_is) (by k_is) (by decide +kernel) (by decide) (by decide +kernel)
    case x_gRESERVED => exact Fp.glo_tup KX G ((Fp.reservedS).map L2.V.str) ((Fp.reservedS).map Dl.D.str) (by k_is) (by k_is) (by decide +kernel) (fun _ => Fp.rp_strs _) (by decide)
    case x_gTWO => exact Fp.glo_tup KX G ((Fp.twoW.map Fp.strB).map L2.V.str) ((Fp.twoW.map Fp.strB).map Dl.D.str) (by k_is) (by k_is) (by decide +kernel) (fun _ => Fp.rp_strs _) (by decide)
    case x_gFILLS => exact Fp.glo_tup KX G ((Fp.fillsW.map Fp.strB).map L2.V.str) ((Fp.fillsW.map Fp.strB).map Dl.D.str) (by k_is) (by k_is) (by decide +kernel) (fun _ => Fp.rp_strs _) (by decide)
    case x_gWINDOWS => exact Fp.glo_tup KX G ((Fp.windowsW.map Fp.strB).map L2.V.str) ((Fp.windowsW.map Fp.strB).map Dl.D.str) (by k_is) (by k_is) (by decide +kernel) (fun _ => Fp.rp_strs _) (by decide)
    case x_gMOST_TIME => exact Fp.glo_int KX G (by k_is)
    case x_gMOST_VALUE => exact Fp.glo_int KX G (by k_is)
    case x_gMOST_UNDER => exact Fp.glo_int KX G (by k_is)
    case x_gMOST_WITHIN => exact Fp.glo_int KX G (by k_is)
    case x_gMOST_POINTS => exact Fp.glo_int KX G (by k_is)
    case x_gMOST_SERIES => exact Fp.glo_int KX G (by k_is)
    case x_gMOST_LETS => exact Fp.glo_int KX G (by k_is)
    case x_gMOST_BYTES => exact Fp.glo_int KX G (by k_is)
    case x_gMOST_POINTS_COMING => exact Fp.glo_int KX G (by k_is)
    case x_gMOST_COMING => exact Fp.glo_int KX G (by k_is)
    case x_gMOST_NUMERATOR => exact Fp.glo_int KX G (by k_is)
    case x_gMOST_DENOMINATOR => exact Fp.glo_int KX G (by k_is)
    case x_gMOST_SHOWN => exact Fp.glo_int KX G (by k_is)
    case x_gSHAPES => exact Fp.glo_tup KX G ((Fp.shapes.map Fp.shS).map L2.V.str) ((Fp.shapes.map Fp.shS).map Dl.D.str) (by k_is) (by k_is) (by decide +kernel) (fun _ => Fp.rp_strs _) (by decide)
    case x_nabs => exact PySem.W.mg_none_of KX G (by k_is)
    case x_nlen => exact PySem.W.mg_none_of KX G (by k_is)
    case x_nrange => exact PySem.W.mg_none_of KX G (by k_is)
    case x_nmin => exact PySem.W.mg_none_of KX G (by k_is)
    case x_nzip => exact PySem.W.mg_none_of KX G (by k_is)
    case x_nenumerate => exact PySem.W.mg_none_of KX G (by k_is)
    case x_nint => exact PySem.W.mg_none_of KX G (by k_is)
    case x_nisinstance => exact PySem.W.mg_none_of KX G (by k_is)
    case x_ntuple => exact PySem.W.mg_none_of KX G (by k_is)
    case x_nstr => exact PySem.W.mg_none_of KX G (by k_is)
    case x_ndict => exact PySem.W.mg_none_of KX G (by k_is)
    case x_nsorted => exact PySem.W.mg_none_of KX G (by k_is)
    case x_nlist => exact PySem.W.mg_none_of KX G (by k_is)
    case x_nall => exact PySem.W.mg_none_of KX G (by k_is)
    case x_nset => exact PySem.W.mg_none_of KX G (by k_is)
    (case y1 => k_is); (case y2 => k_is); (case y3 => k_is); (case y4 => k_is)
  case S =>
    intro K H xs a hO hwi hask hx
    cases hx with
    | cons h1 h2 =>
      cases h2
      cases h1 with
      | lst hs ha =>
        have e := L2.ints_dw a.1 _ ha
        subst e
        exact Fp.end_sp hs hask

