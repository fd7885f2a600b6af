import PyProof.Rows.All
import Wide.All
import OpenK.AllK
import Wide.FinOn
import HandS.ForMost
import HandS.ForExc
import HandS.CallSlots
import HandS.Deep
import HandS.TupAny
import HandS.IsInst
import HandS.Wide
import HandS.Zip
import HandS.ExcIs
import HandS.TryMany
import KE.SortData
import HandS.TupSets
import KE.DataMinMax
import HandS.Style
import HandS.Conv
import HandS.Defaults
import KE.KTupSum
import HandS.MakeKw
import PySem.Challenge.RW_dominohall_k11_fits
set_option Elab.async false
set_option linter.all false
set_option maxRecDepth 100000
set_option maxHeartbeats 4000000
namespace DL
open PySem L2

/-! ### data, environments, results -/
abbrev D := PyData
/-- slots: is it owned (unshared, may be written), its data -/
abbrev Env := List (Option (Bool × D))
/-- a value that came of an expression: shared, a new object of its own, the owned object of slot i -/
inductive Fg where
  | sh | ow | bo (i : Nat)
abbrev Sl := Fg × D
structure Exn where
  cls : Nat
  fs : List (Str × D)
inductive Rs (α : Type) where
  | ok (a : α) (Γ : Env)
  | exc (x : Exn) (Γ : Env)
  | bad
@[reducible] def EV := Env → Rs Sl
def Rs.bind {α β : Type} (m : Rs α) (k : α → Env → Rs β) : Rs β := match m with
  | .ok a Γ => k a Γ
  | .exc x Γ => .exc x Γ
  | .bad => .bad
def frz (s : Sl) (Γ : Env) : Env := match s.1 with
  | .bo i => Γ.set i (some (false, s.2))
  | _ => Γ
@[simp] theorem frz_sh (d : D) (Γ : Env) : frz (.sh, d) Γ = Γ := rfl
@[simp] theorem frz_ow (d : D) (Γ : Env) : frz (.ow, d) Γ = Γ := rfl
@[simp] theorem frz_bo (i : Nat) (d : D) (Γ : Env) : frz (.bo i, d) Γ = Γ.set i (some (false, d)) := rfl
/-- what a value is worth now -/
def cur (s : Sl) (Γ : Env) : Option D := match s.1 with
  | .bo i => match Γ[i]? with
    | some (some (_, d)) => some d
    | _ => none
  | _ => some s.2
@[simp] theorem cur_sh (d : D) (Γ : Env) : cur (.sh, d) Γ = some d := rfl
@[simp] theorem cur_ow (d : D) (Γ : Env) : cur (.ow, d) Γ = some d := rfl
@[simp] theorem cur_bo (i : Nat) (d : D) (Γ : Env) : cur (.bo i, d) Γ = match Γ[i]? with
    | some (some (_, d)) => some d
    | _ => none := rfl
/-- bind, the value frozen -/
def Rs.bindV {β : Type} (m : Rs Sl) (k : D → Env → Rs β) : Rs β := match m with
  | .ok a Γ => k a.2 (frz a Γ)
  | .exc x Γ => .exc x Γ
  | .bad => .bad
@[simp] theorem bind_ok {α β : Type} (a : α) (Γ : Env) (k : α → Env → Rs β) : (Rs.ok a Γ).bind k = k a Γ := rfl
@[simp] theorem bind_exc {α β : Type} (x : Exn) (Γ : Env) (k : α → Env → Rs β) : (Rs.exc x Γ : Rs α).bind k = .exc x Γ := rfl
@[simp] theorem bind_bad {α β : Type} (k : α → Env → Rs β) : (Rs.bad : Rs α).bind k = .bad := rfl
@[simp] theorem bindV_ok {β : Type} (a : Sl) (Γ : Env) (k : D → Env → Rs β) : (Rs.ok a Γ).bindV k = k a.2 (frz a Γ) := rfl
@[simp] theorem bindV_exc {β : Type} (x : Exn) (Γ : Env) (k : D → Env → Rs β) : (Rs.exc x Γ : Rs Sl).bindV k = .exc x Γ := rfl
@[simp] theorem bindV_bad {β : Type} (k : D → Env → Rs β) : (Rs.bad : Rs Sl).bindV k = .bad := rfl

/-- what is fixed through a def's body: the written part, the classes' places, the wish about exceptions, slots that are never assigned -/
structure Kc where
  K : PySem.W.Frag
  cA : Nat → Addr
structure Ck where
  k : Kc
  W : WX
  P : Nat → Option V

mutual
inductive Rp (c : Kc) (H : Hp) : V → D → Prop
  | non : Rp c H .non .none
  | bl (b : Bool) : Rp c H (.bl b) (.bool b)
  | int (i : Int) : Rp c H (.int i) (.int i)
  | str (x : Str) : Rp c H (.str x) (.str x)
  | lst {a : Addr} {xs : List V} {ds : List D} : SqL c.K H a xs → RpAll c H xs ds → Rp c H (.ref a) (.list ds)
  | tup {a : Addr} {xs : List V} {ds : List D} : SqT c.K H a xs → RpAll c H xs ds → Rp c H (.ref a) (.tuple ds)
inductive RpAll (c : Kc) (H : Hp) : List V → List D → Prop
  | nil : RpAll c H [] []
  | cons {v : V} {vs : List V} {d : D} {ds : List D} : Rp c H v d → RpAll c H vs ds → RpAll c H (v :: vs) (d :: ds)
end

theorem Same.sqT {K : PySem.W.Frag} {H H' : Hp} {a : Addr} {xs : List V} (e : Same H H') (h : SqT K H a xs) : SqT K H' a xs := by
  rcases h with (h | ⟨o, h⟩) | h
  · exact .inl (.inl (e _ _ h))
  · exact .inl (.inr ⟨o, e _ _ h⟩)
  · exact .inr h

theorem Same.rd {H H' : Hp} {a : Addr} {u : HO} (e : Same H H') (h : Rd H a u) : Rd H' a u := by
  rcases h with h | ⟨o, h⟩
  · exact .inl (e _ _ h)
  · exact .inr ⟨o, e _ _ h⟩
mutual
theorem Rp.mono {c : Kc} {H H' : Hp} (e : Same H H') : ∀ {v : V} {d : D}, Rp c H v d → Rp c H' v d
  | _, _, .non => .non
  | _, _, .bl b => .bl b
  | _, _, .int i => .int i
  | _, _, .str x => .str x
  | _, _, .lst h a => .lst (e.seq h) (RpAll.mono e a)
  | _, _, .tup h a => .tup (Same.sqT e h) (RpAll.mono e a)
theorem RpAll.mono {c : Kc} {H H' : Hp} (e : Same H H') : ∀ {vs : List V} {ds : List D}, RpAll c H vs ds → RpAll c H' vs ds
  | _, _, .nil => .nil
  | _, _, .cons a b => .cons (Rp.mono e a) (RpAll.mono e b)
end
mutual
theorem Rp.dp {c : Kc} {H : Hp} : ∀ {v : V} {d : D}, Rp c H v d → Dp c.K H v d
  | _, _, .non => .non
  | _, _, .bl b => .bl b
  | _, _, .int i => .int i
  | _, _, .str x => .str x
  | _, _, .lst h a => .lst h (RpAll.dp a)
  | _, _, .tup h a => .tup h (RpAll.dp a)
theorem RpAll.dp {c : Kc} {H : Hp} : ∀ {vs : List V} {ds : List D}, RpAll c H vs ds → DpAll c.K H vs ds
  | _, _, .nil => .nil
  | _, _, .cons a b => .cons (Rp.dp a) (RpAll.dp b)
end
theorem RpAll.len {c : Kc} {H : Hp} : ∀ {vs : List V} {ds : List D}, RpAll c H vs ds → vs.length = ds.length
  | _, _, .nil => rfl
  | _, _, .cons _ b => by simp [RpAll.len b]
theorem RpAll.get {c : Kc} {H : Hp} : ∀ {vs : List V} {ds : List D} {i : Nat} {d : D}, RpAll c H vs ds → ds[i]? = some d → ∃ v, vs[i]? = some v ∧ Rp c H v d
  | _, _, _, _, .nil, e => by simp at e
  | _, _, 0, _, .cons a _, e => by simp at e; subst e; exact ⟨_, rfl, a⟩
  | _, _, i + 1, d, .cons _ b, e => by
    obtain ⟨v, h1, h2⟩ := RpAll.get (i := i) (d := d) b (by simpa using e)
    exact ⟨v, by simpa using h1, h2⟩
theorem RpAll.getv {c : Kc} {H : Hp} : ∀ {vs : List V} {ds : List D} {i : Nat} {v : V}, RpAll c H vs ds → vs[i]? = some v → ∃ d, ds[i]? = some d ∧ Rp c H v d
  | _, _, _, _, .nil, e => by simp at e
  | _, _, 0, _, .cons a _, e => by simp at e; subst e; exact ⟨_, rfl, a⟩
  | _, _, i + 1, v, .cons _ b, e => by
    obtain ⟨d, h1, h2⟩ := RpAll.getv (i := i) (v := v) b (by simpa using e)
    exact ⟨d, by simpa using h1, h2⟩
theorem RpAll.app {c : Kc} {H : Hp} : ∀ {vs ws : List V} {ds es : List D}, RpAll c H vs ds → RpAll c H ws es → RpAll c H (vs ++ ws) (ds ++ es)
  | _, _, _, _, .nil, s => s
  | _, _, _, _, .cons a b, s => .cons a (RpAll.app b s)
theorem RpAll.drop {c : Kc} {H : Hp} : ∀ (n : Nat) {vs : List V} {ds : List D}, RpAll c H vs ds → RpAll c H (vs.drop n) (ds.drop n)
  | 0, _, _, r => r
  | _ + 1, _, _, .nil => .nil
  | n + 1, _, _, .cons _ b => RpAll.drop n b
theorem RpAll.take {c : Kc} {H : Hp} : ∀ (n : Nat) {vs : List V} {ds : List D}, RpAll c H vs ds → RpAll c H (vs.take n) (ds.take n)
  | 0, _, _, _ => .nil
  | _ + 1, _, _, .nil => .nil
  | n + 1, _, _, .cons a b => .cons a (RpAll.take n b)
theorem RpAll.set {c : Kc} {H : Hp} {v : V} {d : D} (h : Rp c H v d) : ∀ (n : Nat) {vs : List V} {ds : List D}, RpAll c H vs ds → RpAll c H (vs.set n v) (ds.set n d)
  | _, _, _, .nil => .nil
  | 0, _, _, .cons _ b => .cons h b
  | n + 1, _, _, .cons a b => .cons a (RpAll.set h n b)
theorem RpAll.rev {c : Kc} {H : Hp} : ∀ {vs : List V} {ds : List D}, RpAll c H vs ds → RpAll c H vs.reverse ds.reverse
  | _, _, .nil => .nil
  | _, _, .cons a b => by
    rw [List.reverse_cons, List.reverse_cons]
    exact (RpAll.rev b).app (.cons a .nil)

/-! ### hidden addresses, frames -/
open Classical in
noncomputable def hid (M : Addr → Prop) (H : Hp) : Hp := fun a => if M a then none else H a
theorem hid_some {M : Addr → Prop} {H : Hp} {a : Addr} {o : HO} : hid M H a = some o ↔ ¬ M a ∧ H a = some o := by
  unfold hid
  by_cases h : M a
  · rw [if_pos h]; simp [h]
  · rw [if_neg h]; simp [h]
theorem hid_le {M : Addr → Prop} {H : Hp} : Same (hid M H) H := fun _ _ h => (hid_some.mp h).2

structure Wf (M : Addr → Prop) (own : Nat → Option Addr) (H : Hp) : Prop where
  inj : ∀ i j p, own i = some p → own j = some p → i = j
  hidn : ∀ i p, own i = some p → M p
  dom : ∀ a, M a → H a ≠ none
structure Fr (M : Addr → Prop) (own : Nat → Option Addr) (H : Hp) (M' : Addr → Prop) (own' : Nat → Option Addr) (H' : Hp) : Prop where
  keep : ∀ a o, H a = some o → (∀ i, own i ≠ some a) → H' a = some o
  low : ∀ i p, own' i = some p → (∃ j, own j = some p) ∨ H p = none
  mle : ∀ a, M' a → M a ∨ H a = none
  mge : ∀ a, M a → (∀ i, own i ≠ some a) → M' a
section
variable {M M' M'' : Addr → Prop} {own own' own'' : Nat → Option Addr} {H H' H'' : Hp}
theorem Fr.refl : Fr M own H M own H := ⟨fun _ _ h _ => h, fun i p h => .inl ⟨i, h⟩, fun _ h => .inl h, fun _ h _ => h⟩
theorem Fr.same (w : Wf M own H) (f : Fr M own H M' own' H') : Same (hid M H) (hid M' H') := fun a o h => by
  obtain ⟨h1, h2⟩ := hid_some.mp h
  refine hid_some.mpr ⟨fun z => ?_, f.keep a o h2 fun i z => h1 (w.hidn i a z)⟩
  rcases f.mle a z with z | z
  · exact h1 z
  · rw [h2] at z; cases z
theorem Fr.trans (w : Wf M own H) (f : Fr M own H M' own' H') (g : Fr M' own' H' M'' own'' H'') : Fr M own H M'' own'' H'' := by
  have up : ∀ a o, H a = some o → (∀ i, own i ≠ some a) → ∀ i, own' i ≠ some a := fun a o h n i z => by
    rcases f.low i a z with ⟨j, q⟩ | q
    · exact n j q
    · rw [h] at q; cases q
  refine ⟨fun a o h n => g.keep a o (f.keep a o h n) (up a o h n), fun i p h => ?_, fun a h => ?_, fun a h n => ?_⟩
  · rcases g.low i p h with ⟨j, q⟩ | q
    · exact f.low j p q
    · cases e : H p with
      | none => exact .inr rfl
      | some o =>
        by_cases z : ∃ j, own j = some p
        · exact .inl z
        · have := f.keep p o e fun j q => z ⟨j, q⟩
          rw [q] at this; cases this
  · rcases g.mle a h with q | q
    · exact f.mle a q
    · cases e : H a with
      | none => exact .inr rfl
      | some o =>
        by_cases z : ∃ j, own j = some a
        · obtain ⟨j, z⟩ := z; exact .inl (w.hidn j a z)
        · have := f.keep a o e fun j q => z ⟨j, q⟩
          rw [q] at this; cases this
  · refine g.mge a (f.mge a h n) ?_
    cases e : H a with
    | none => exact absurd e (w.dom a h)
    | some o => exact up a o e n
/-- the heap grows, nothing else -/
theorem Fr.grow (s : Same H H') : Fr M own H M own H' := ⟨fun a o h _ => s a o h, fun i p h => .inl ⟨i, h⟩, fun _ h => .inl h, fun _ h _ => h⟩
theorem Wf.grow (w : Wf M own H) (s : Same H H') : Wf M own H' := ⟨w.inj, w.hidn, fun a h => by
  cases e : H a with
  | none => exact absurd e (w.dom a h)
  | some o => rw [s a o e]; exact fun z => nomatch z⟩
theorem hid_grow (s : Same H H') : Same (hid M H) (hid M H') := fun a o h => by
  obtain ⟨h1, h2⟩ := hid_some.mp h
  exact hid_some.mpr ⟨h1, s a o h2⟩
theorem same_upd {p : Addr} {o : HO} (h : H p = none) : Same H (upd H p o) := fun b u e => by
  rw [upd_ne (ne_of_none e h)]; exact e
end

/-- an owned object: itself in H, its parts in the hidden heap Hh -/
def RpO (c : Kc) (Hh H : Hp) (p : Addr) : D → Prop
  | .list ds => ∃ xs, H p = some (.lst xs) ∧ RpAll c Hh xs ds
  | _ => False
theorem RpO.mono {c : Kc} {Hh Hh' H H' : Hp} {p : Addr} {d : D} (s : Same Hh Hh') (k : ∀ o, H p = some o → H' p = some o) (h : RpO c Hh H p d) : RpO c Hh' H' p d := by
  cases d with
  | list ds => obtain ⟨xs, h1, h2⟩ := h; exact ⟨xs, k _ h1, h2.mono s⟩
  | _ => exact h.elim

/-- the state: slots and heap stand for the environment -/
structure Sd (c : Ck) (M : Addr → Prop) (own : Nat → Option Addr) (Γ : Env) (σ : St) (H : Hp) : Prop where
  wf : Wf M own H
  len : Γ.length = σ.length
  val : ∀ (i : Nat) d, Γ[i]? = some (some (false, d)) → ∃ v, σ[i]? = some (some v) ∧ Rp c.k (hid M H) v d
  ow : ∀ (i : Nat) d, Γ[i]? = some (some (true, d)) → ∃ p, own i = some p ∧ σ[i]? = some (some (.ref p)) ∧ RpO c.k (hid M H) H p d
  pin : ∀ (i : Nat) v, c.P i = some v → σ[i]? = some (some v)
/-- what comes of an expression -/
def Res (c : Ck) (M : Addr → Prop) (own : Nat → Option Addr) (H : Hp) (M' : Addr → Prop) (own' : Nat → Option Addr) (H' : Hp) (Γ' : Env) (σ : St) (s : Sl) (v : V) : Prop := match s.1 with
  | .sh => Rp c.k (hid M' H') v s.2
  | .ow => ∃ p, v = .ref p ∧ M' p ∧ (∀ i, own' i ≠ some p) ∧ (H p = none ∨ ∃ i, own i = some p) ∧ RpO c.k (hid M' H') H' p s.2
  | .bo i => Γ'[i]? = some (some (true, s.2)) ∧ σ[i]? = some (some v)
/-- how an exception lies -/
def XOk (c : Ck) (M : Addr → Prop) (H : Hp) (x : Exn) (dct : Option Addr) : Prop := match x.fs with
  | [] => dct = none
  | fs => ∃ dd vs, dct = some dd ∧ H dd = some (.xd ((fs.map (·.1)).zip vs)) ∧ RpAll c.k (hid M H) vs (fs.map (·.2))

section
variable {c : Ck} {M M' : Addr → Prop} {own own' : Nat → Option Addr} {Γ Γ' : Env} {σ : St} {H H' : Hp}
theorem Sd.grow (s : Sd c M own Γ σ H) (e : Same H H') : Sd c M own Γ σ H' :=
  ⟨s.wf.grow e, s.len, fun i d h => let ⟨v, h1, h2⟩ := s.val i d h; ⟨v, h1, h2.mono (hid_grow e)⟩,
    fun i d h => let ⟨p, h1, h2, h3⟩ := s.ow i d h; ⟨p, h1, h2, h3.mono (hid_grow e) fun o q => e p o q⟩, s.pin⟩
/-- an unowned hidden address comes to light -/
theorem Sd.show_ {p : Addr} (s : Sd c M own Γ σ H) (n : ∀ i, own i ≠ some p) : Sd c (fun a => M a ∧ a ≠ p) own Γ σ H := by
  have e : Same (hid M H) (hid (fun a => M a ∧ a ≠ p) H) := fun a o h => by
    obtain ⟨h1, h2⟩ := hid_some.mp h
    exact hid_some.mpr ⟨fun z => h1 z.1, h2⟩
  exact ⟨⟨s.wf.inj, fun i q h => ⟨s.wf.hidn i q h, fun z => n i (z ▸ h)⟩, fun a h => s.wf.dom a h.1⟩, s.len, fun i d h => let ⟨v, h1, h2⟩ := s.val i d h; ⟨v, h1, h2.mono e⟩,
    fun i d h => let ⟨p, h1, h2, h3⟩ := s.ow i d h; ⟨p, h1, h2, h3.mono e fun _ q => q⟩, s.pin⟩
theorem RpO.frozen {p : Addr} {d : D} (h : RpO c.k (hid M H) H p d) : Rp c.k (hid (fun a => M a ∧ a ≠ p) H) (.ref p) d := by
  have e : Same (hid M H) (hid (fun a => M a ∧ a ≠ p) H) := fun a o h => by
    obtain ⟨h1, h2⟩ := hid_some.mp h
    exact hid_some.mpr ⟨fun z => h1 z.1, h2⟩
  cases d with
  | list ds =>
    obtain ⟨xs, h1, h2⟩ := h
    exact .lst (SqL.of (hid_some.mpr ⟨fun z => z.2 rfl, h1⟩)) (h2.mono e)
  | _ => exact h.elim
theorem get_set {α : Type} {l : List α} {i j : Nat} {x y : α} (h : (l.set i x)[j]? = some y) : (j = i ∧ i < l.length ∧ y = x) ∨ (j ≠ i ∧ l[j]? = some y) := by
  by_cases e : j = i
  · subst e
    by_cases z : j < l.length
    · rw [List.getElem?_set_self z] at h; exact .inl ⟨rfl, z, (Option.some.inj h).symm⟩
    · rw [List.getElem?_eq_none (by simpa using z)] at h; cases h
  · rw [List.getElem?_set_ne (Ne.symm e)] at h
    exact .inr ⟨e, h⟩
/-- an owned slot is frozen -/
theorem Sd.freeze {i : Nat} {d : D} (sd : Sd c M own Γ σ H) (h : Γ[i]? = some (some (true, d))) :
    ∃ p M' own', own i = some p ∧ σ[i]? = some (some (.ref p)) ∧ Fr M own H M' own' H ∧ Sd c M' own' (Γ.set i (some (false, d))) σ H ∧ Rp c.k (hid M' H) (.ref p) d := by
  obtain ⟨p, h1, h2, h3⟩ := sd.ow i d h
  refine ⟨p, fun a => M a ∧ a ≠ p, fun j => if j = i then none else own j, h1, h2, ⟨fun a o e _ => e, fun j q e => ?_, fun a e => .inl e.1, fun a e n => ⟨e, fun z => n i (z ▸ h1)⟩⟩, ?_, h3.frozen⟩
  · split at e
    · cases e
    · exact .inl ⟨j, e⟩
  · have es : Same (hid M H) (hid (fun a => M a ∧ a ≠ p) H) := fun a o h => by
      obtain ⟨h1, h2⟩ := hid_some.mp h
      exact hid_some.mpr ⟨fun z => h1 z.1, h2⟩
    refine ⟨⟨fun j k q e1 e2 => ?_, fun j q e => ?_, fun a e => sd.wf.dom a e.1⟩, by simpa using sd.len, fun j d' e => ?_, fun j d' e => ?_, sd.pin⟩
    · split at e1
      · cases e1
      · split at e2
        · cases e2
        · exact sd.wf.inj j k q e1 e2
    · split at e
      · cases e
      · rename_i hj
        refine ⟨sd.wf.hidn j q e, fun z => hj ?_⟩
        subst z
        exact sd.wf.inj j i q e h1
    · rcases get_set e with ⟨e1, e2, e3⟩ | ⟨e1, e2⟩
      · cases e3; subst e1
        exact ⟨_, h2, h3.frozen⟩
      · obtain ⟨v, q1, q2⟩ := sd.val j d' e2
        exact ⟨v, q1, q2.mono es⟩
    · rcases get_set e with ⟨e1, e2, e3⟩ | ⟨e1, e2⟩
      · cases e3
      · obtain ⟨q, q1, q2, q3⟩ := sd.ow j d' e2
        exact ⟨q, by rw [if_neg e1]; exact q1, q2, q3.mono es fun _ y => y⟩
/-- a result frozen -/
theorem Res.freeze {s : Sl} {v : V} {σ' : St} (w : Wf M own H) (f : Fr M own H M' own' H') (sd : Sd c M' own' Γ' σ' H') (r : Res c M own H M' own' H' Γ' σ' s v) :
    ∃ M'' own'', Fr M own H M'' own'' H' ∧ Sd c M'' own'' (frz s Γ') σ' H' ∧ Rp c.k (hid M'' H') v s.2 := by
  obtain ⟨fg, d⟩ := s
  cases fg with
  | sh => exact ⟨M', own', f, sd, r⟩
  | ow =>
    obtain ⟨p, rfl, h1, h2, h3, h4⟩ := r
    refine ⟨fun a => M' a ∧ a ≠ p, own', ⟨f.keep, f.low, fun a z => f.mle a z.1, fun a z n => ⟨f.mge a z n, ?_⟩⟩, sd.show_ h2, h4.frozen⟩
    rintro rfl
    rcases h3 with h3 | ⟨i, h3⟩
    · exact w.dom a z h3
    · exact n i h3
  | bo i =>
    obtain ⟨h1, h2⟩ := r
    obtain ⟨p, M2, own2, q1, q2, f2, sd2, rp⟩ := sd.freeze h1
    have e : v = .ref p := by rw [h2] at q2; exact Option.some.inj (Option.some.inj q2)
    subst e
    exact ⟨M2, own2, f.trans w f2, sd2, rp⟩
theorem Res.val {d : D} {v : V} (h : Rp c.k (hid M' H') v d) : Res c M own H M' own' H' Γ' σ (.sh, d) v := h
end

/-! ### readings -/
def Good (c : Ck) (M : Addr → Prop) (own : Nat → Option Addr) (H : Hp) (r : Rs Sl) (σ : St) (Q : VK) : Prop := match r with
  | .ok s Γ' => ∀ v H' M' own', Fr M own H M' own' H' → Sd c M' own' Γ' σ H' → Res c M own H M' own' H' Γ' σ s v → Q v H'
  | .exc x Γ' => ∀ H' M' own' dct, Fr M own H M' own' H' → Sd c M' own' Γ' σ H' → XOk c M' H' x dct → c.W (.ref (c.k.cA x.cls)) dct σ H'
  | .bad => False
def tE (c : Ck) (f : EV) : TE := fun σ H Q => ∃ M own Γ, Sd c M own Γ σ H ∧ Good c M own H (f Γ) σ Q
def GoodA (c : Ck) (M : Addr → Prop) (own : Nat → Option Addr) (H : Hp) (r : Rs (List D)) (σ : St) (Q : List V → Hp → Prop) : Prop := match r with
  | .ok ds Γ' => ∀ vs H' M' own', Fr M own H M' own' H' → Sd c M' own' Γ' σ H' → RpAll c.k (hid M' H') vs ds → Q vs H'
  | .exc x Γ' => ∀ H' M' own' dct, Fr M own H M' own' H' → Sd c M' own' Γ' σ H' → XOk c M' H' x dct → c.W (.ref (c.k.cA x.cls)) dct σ H'
  | .bad => False
def tAs (c : Ck) (f : Env → Rs (List D)) : TA := fun σ H Q => ∃ M own Γ, Sd c M own Γ σ H ∧ GoodA c M own H (f Γ) σ Q

section
variable {c : Ck} {M M' : Addr → Prop} {own own' : Nat → Option Addr} {Γ Γ' : Env} {σ : St} {H H' : Hp}
/-- a result seen from an earlier state -/
theorem Res.pre {M2 : Addr → Prop} {own2 : Nat → Option Addr} {H2 : Hp} {s : Sl} {v : V} (f : Fr M own H M' own' H') (r : Res c M' own' H' M2 own2 H2 Γ σ s v) : Res c M own H M2 own2 H2 Γ σ s v := by
  obtain ⟨fg, d⟩ := s
  cases fg with
  | sh => exact r
  | ow =>
    obtain ⟨p, e, h1, h2, h3, h4⟩ := r
    refine ⟨p, e, h1, h2, ?_, h4⟩
    rcases h3 with h3 | ⟨i, h3⟩
    · cases q : H p with
      | none => exact .inl rfl
      | some o =>
        by_cases z : ∃ j, own j = some p
        · exact .inr z
        · have := f.keep p o q fun j y => z ⟨j, y⟩
          rw [h3] at this; cases this
    · rcases f.low i p h3 with q | q
      · exact .inr q
      · exact .inl q
  | bo i => exact r
theorem Good.after {r : Rs Sl} {Q : VK} (w : Wf M own H) (f : Fr M own H M' own' H') (g : Good c M own H r σ Q) : Good c M' own' H' r σ Q := by
  cases r with
  | ok s Γ' => exact fun v H2 M2 own2 f2 sd rs => g v H2 M2 own2 (f.trans w f2) sd (rs.pre f)
  | exc x Γ' => exact fun H2 M2 own2 dct f2 sd rs => g H2 M2 own2 dct (f.trans w f2) sd rs
  | bad => exact g
theorem Good.imp {r : Rs Sl} {Q Q' : VK} (h : ∀ v H', Q v H' → Q' v H') (g : Good c M own H r σ Q) : Good c M own H r σ Q' := by
  cases r with
  | ok s Γ' => exact fun v H2 M2 own2 f2 sd rs => h _ _ (g v H2 M2 own2 f2 sd rs)
  | exc x Γ' => exact g
  | bad => exact g
/-- THE BIND: an expression whose value is used at once -/
theorem tE_bind {f : EV} {k : D → Env → Rs Sl} {Q : VK} (sd : Sd c M own Γ σ H) (g : Good c M own H ((f Γ).bindV k) σ Q) :
    tE c f σ H fun v H' => ∃ M' own' Γ' d, Fr M own H M' own' H' ∧ Sd c M' own' Γ' σ H' ∧ Rp c.k (hid M' H') v d ∧ Good c M' own' H' (k d Γ') σ Q := by
  refine ⟨M, own, Γ, sd, ?_⟩
  cases e : f Γ with
  | ok s Γ' =>
    rw [e] at g
    intro v H' M' own' fr sd' rs
    obtain ⟨M'', own'', fr', sd'', rp⟩ := rs.freeze sd.wf fr sd'
    exact ⟨M'', own'', _, s.2, fr', sd'', rp, Good.after sd.wf fr' g⟩
  | exc x Γ' => rw [e] at g; exact g
  | bad => rw [e] at g; exact g
/-- THE BIND with the value as it is -/
theorem tE_bindR {f : EV} {k : Sl → Env → Rs Sl} {Q : VK} (sd : Sd c M own Γ σ H) (g : Good c M own H ((f Γ).bind k) σ Q) :
    tE c f σ H fun v H' => ∃ M' own' Γ' s, Fr M own H M' own' H' ∧ Sd c M' own' Γ' σ H' ∧ Res c M own H M' own' H' Γ' σ s v ∧ Good c M' own' H' (k s Γ') σ Q := by
  refine ⟨M, own, Γ, sd, ?_⟩
  cases e : f Γ with
  | ok s Γ' =>
    rw [e] at g
    intro v H' M' own' fr sd' rs
    exact ⟨M', own', Γ', s, fr, sd', rs, Good.after sd.wf fr g⟩
  | exc x Γ' => rw [e] at g; exact g
  | bad => rw [e] at g; exact g
/-- a value that is read, its parts in the hidden heap -/
def Bw (c : Kc) (M : Addr → Prop) (H : Hp) (v : V) (d : D) : Prop := Rp c (hid M H) v d ∨ ∃ p, v = .ref p ∧ RpO c (hid M H) H p d
theorem Res.bw {s : Sl} {v : V} {d : D} (sd : Sd c M' own' Γ' σ H') (r : Res c M own H M' own' H' Γ' σ s v) (e : cur s Γ' = some d) : Bw c.k M' H' v d := by
  obtain ⟨fg, d0⟩ := s
  cases fg with
  | sh => cases e; exact .inl r
  | ow => cases e; obtain ⟨p, h0, _, _, _, h4⟩ := r; exact .inr ⟨p, h0, h4⟩
  | bo i =>
    obtain ⟨h1, h2⟩ := r
    have h1 : Γ'[i]? = some (some (true, d0)) := h1
    rw [cur_bo, h1] at e
    cases e
    obtain ⟨p, _, q2, q3⟩ := sd.ow i _ h1
    rw [h2] at q2
    exact .inr ⟨p, Option.some.inj (Option.some.inj q2), q3⟩
/-- .. and behind another expression -/
theorem Res.bw2 {M2 : Addr → Prop} {own2 : Nat → Option Addr} {Γ2 : Env} {H2 : Hp} {s : Sl} {v : V} {d : D} (sd : Sd c M' own' Γ' σ H') (r : Res c M own H M' own' H' Γ' σ s v) (f : Fr M' own' H' M2 own2 H2) (sd2 : Sd c M2 own2 Γ2 σ H2)
    (e : cur s Γ2 = some d) : Bw c.k M2 H2 v d := by
  obtain ⟨fg, d0⟩ := s
  cases fg with
  | sh => cases e; exact .inl (Rp.mono (f.same sd.wf) r)
  | ow =>
    cases e
    obtain ⟨p, h0, h1, h2, _, h4⟩ := r
    exact .inr ⟨p, h0, h4.mono (f.same sd.wf) fun o q => f.keep p o q h2⟩
  | bo i =>
    obtain ⟨h1, h2⟩ := r
    rw [cur_bo] at e
    cases q : Γ2[i]? with
    | none => rw [q] at e; cases e
    | some o =>
      rw [q] at e
      cases o with
      | none => cases e
      | some bd =>
        obtain ⟨b, d1⟩ := bd
        cases e
        cases b with
        | false =>
          obtain ⟨v', q1, q2⟩ := sd2.val i _ q
          rw [h2] at q1
          cases q1
          exact .inl q2
        | true =>
          obtain ⟨p, _, q2, q3⟩ := sd2.ow i _ q
          rw [h2] at q2
          exact .inr ⟨p, Option.some.inj (Option.some.inj q2), q3⟩
theorem Bw.full {v : V} {d : D} (h : Bw c.k M H v d) : Rp c.k H v d := by
  rcases h with h | ⟨p, rfl, h⟩
  · exact h.mono hid_le
  · cases d with
    | list ds => obtain ⟨xs, h1, h2⟩ := h; exact .lst (SqL.of h1) (h2.mono hid_le)
    | _ => exact h.elim
theorem Bw.list {v : V} {ds : List D} (h : Bw c.k M H v (.list ds)) : ∃ a xs, v = .ref a ∧ SqL c.k.K H a xs ∧ RpAll c.k (hid M H) xs ds := by
  rcases h with h | ⟨p, rfl, h⟩
  · cases h with
    | lst h1 h2 => exact ⟨_, _, rfl, hid_le.seq h1, h2⟩
  · obtain ⟨xs, h1, h2⟩ := h
    exact ⟨p, xs, rfl, SqL.of h1, h2⟩
theorem Bw.tuple {v : V} {ds : List D} (h : Bw c.k M H v (.tuple ds)) : ∃ a xs, v = .ref a ∧ SqT c.k.K H a xs ∧ RpAll c.k (hid M H) xs ds ∧ Rp c.k (hid M H) v (.tuple ds) := by
  rcases h with h | ⟨p, rfl, h⟩
  · cases h with
    | tup h1 h2 => exact ⟨_, _, rfl, Same.sqT hid_le h1, h2, .tup h1 h2⟩
  · exact h.elim
theorem Bw.eqI {v : V} {i : Int} (h : Bw c.k M H v (.int i)) : v = .int i := by
  rcases h with h | ⟨p, rfl, h⟩
  · cases h; rfl
  · exact h.elim
theorem Bw.eqB {v : V} {i : Bool} (h : Bw c.k M H v (.bool i)) : v = .bl i := by
  rcases h with h | ⟨p, rfl, h⟩
  · cases h; rfl
  · exact h.elim
theorem Bw.eqS {v : V} {i : Str} (h : Bw c.k M H v (.str i)) : v = .str i := by
  rcases h with h | ⟨p, rfl, h⟩
  · cases h; rfl
  · exact h.elim
theorem Bw.eqN {v : V} (h : Bw c.k M H v .none) : v = .non := by
  rcases h with h | ⟨p, rfl, h⟩
  · cases h; rfl
  · exact h.elim
theorem tE_bindA {f : EV} {k : D → Env → Rs (List D)} {Q : List V → Hp → Prop} (sd : Sd c M own Γ σ H) (g : GoodA c M own H ((f Γ).bindV k) σ Q) :
    tE c f σ H fun v H' => ∃ M' own' Γ' d, Fr M own H M' own' H' ∧ Sd c M' own' Γ' σ H' ∧ Rp c.k (hid M' H') v d ∧ GoodA c M' own' H' (k d Γ') σ Q := by
  refine ⟨M, own, Γ, sd, ?_⟩
  cases e : f Γ with
  | ok s Γ' =>
    rw [e] at g
    intro v H' M' own' fr sd' rs
    obtain ⟨M'', own'', fr', sd'', rp⟩ := rs.freeze sd.wf fr sd'
    refine ⟨M'', own'', _, s.2, fr', sd'', rp, ?_⟩
    have g : GoodA c M own H (k s.2 (frz s Γ')) σ Q := g
    cases q : k s.2 (frz s Γ') with
    | ok ds Γ2 => rw [q] at g; exact fun vs H2 M2 own2 f2 sd2 rs2 => g vs H2 M2 own2 (fr'.trans sd.wf f2) sd2 rs2
    | exc x Γ2 => rw [q] at g; exact fun H2 M2 own2 dct f2 sd2 rs2 => g H2 M2 own2 dct (fr'.trans sd.wf f2) sd2 rs2
    | bad => rw [q] at g; exact g
  | exc x Γ' => rw [e] at g; exact g
  | bad => rw [e] at g; exact g
theorem tAs_bind {f : Env → Rs (List D)} {k : List D → Env → Rs Sl} {Q : VK} (sd : Sd c M own Γ σ H) (g : Good c M own H ((f Γ).bind k) σ Q) :
    tAs c f σ H fun vs H' => ∃ M' own' Γ' ds, Fr M own H M' own' H' ∧ Sd c M' own' Γ' σ H' ∧ RpAll c.k (hid M' H') vs ds ∧ Good c M' own' H' (k ds Γ') σ Q := by
  refine ⟨M, own, Γ, sd, ?_⟩
  cases e : f Γ with
  | ok s Γ' =>
    rw [e] at g
    intro v H' M' own' fr sd' rs
    exact ⟨M', own', Γ', s, fr, sd', rs, Good.after sd.wf fr g⟩
  | exc x Γ' => rw [e] at g; exact g
  | bad => rw [e] at g; exact g
theorem tAs_bindA {f : Env → Rs (List D)} {k : List D → Env → Rs (List D)} {Q : List V → Hp → Prop} (sd : Sd c M own Γ σ H) (g : GoodA c M own H ((f Γ).bind k) σ Q) :
    tAs c f σ H fun vs H' => ∃ M' own' Γ' ds, Fr M own H M' own' H' ∧ Sd c M' own' Γ' σ H' ∧ RpAll c.k (hid M' H') vs ds ∧ GoodA c M' own' H' (k ds Γ') σ Q := by
  refine ⟨M, own, Γ, sd, ?_⟩
  cases e : f Γ with
  | ok s Γ' =>
    rw [e] at g
    intro v H' M' own' fr sd' rs
    refine ⟨M', own', Γ', s, fr, sd', rs, ?_⟩
    have g : GoodA c M own H (k s Γ') σ Q := g
    cases q : k s Γ' with
    | ok ds Γ2 => rw [q] at g; exact fun vs H2 M2 own2 f2 sd2 rs2 => g vs H2 M2 own2 (fr.trans sd.wf f2) sd2 rs2
    | exc x Γ2 => rw [q] at g; exact fun H2 M2 own2 dct f2 sd2 rs2 => g H2 M2 own2 dct (fr.trans sd.wf f2) sd2 rs2
    | bad => rw [q] at g; exact g
  | exc x Γ' => rw [e] at g; exact g
  | bad => rw [e] at g; exact g
theorem tE_mono {f : EV} {Q Q' : VK} (h : ∀ v H', Q v H' → Q' v H') (t : tE c f σ H Q) : tE c f σ H Q' := by
  obtain ⟨M, own, Γ, sd, g⟩ := t
  exact ⟨M, own, Γ, sd, g.imp h⟩
theorem tAs_mono {f : Env → Rs (List D)} {Q Q' : List V → Hp → Prop} (h : ∀ v H', Q v H' → Q' v H') (t : tAs c f σ H Q) : tAs c f σ H Q' := by
  obtain ⟨M, own, Γ, sd, g⟩ := t
  refine ⟨M, own, Γ, sd, ?_⟩
  cases e : f Γ with
  | ok s Γ' => rw [e] at g; exact fun v H2 M2 own2 f2 sd rs => h _ _ (g v H2 M2 own2 f2 sd rs)
  | exc x Γ' => rw [e] at g; exact g
  | bad => rw [e] at g; exact g
end
theorem _root_.L2.PE.imp {X : Cx} {e : Expr} {t t' : TE} (h : PE X e t) (i : ∀ σ H Q, t' σ H Q → t σ H Q) : PE X e t' := ⟨fun pins s σ H Q I q => h.run pins s σ H Q I (i σ H Q q)⟩
theorem _root_.L2.PT.imp {X : Cx} {e : Expr} {t t' : TT} (h : PT X e t) (i : ∀ σ H Q, t' σ H Q → t σ H Q) : PT X e t' := ⟨fun pins s σ H Q I q => h.run pins s σ H Q I (i σ H Q q)⟩
theorem _root_.L2.PA.imp {X : Cx} {e : List Expr} {t t' : TA} (h : PA X e t) (i : ∀ σ H Q, t' σ H Q → t σ H Q) : PA X e t' := ⟨fun pos pins s σ H Q I q => h.run pos pins s σ H Q I (i σ H Q q)⟩
theorem _root_.L2.PS.imp {X : Cx} {e : Stmt} {t t' : TS} (h : PS X e t) (i : ∀ Dn σ H, t' Dn σ H → t Dn σ H) : PS X e t' := ⟨fun pins s σ H Q I q => h.run pins s σ H Q I (i Q σ H q)⟩
theorem _root_.L2.PSs.imp {X : Cx} {e : List Stmt} {t t' : TS} (h : PSs X e t) (i : ∀ Dn σ H, t' Dn σ H → t Dn σ H) : PSs X e t' := ⟨fun pins s σ H Q I q => h.run pins s σ H Q I (i Q σ H q)⟩
end DL

namespace DL
open PySem L2

/-! ### ends of an operation -/
def Kont (c : Ck) (M : Addr → Prop) (own : Nat → Option Addr) (H : Hp) (s : Sl) (Γ : Env) (σ : St) (Q : VK) : Prop :=
  ∀ v H' M' own', Fr M own H M' own' H' → Sd c M' own' Γ σ H' → Res c M own H M' own' H' Γ σ s v → Q v H'
def lift (o : Option Sl) (Γ : Env) : Rs Sl := match o with
  | some s => .ok s Γ
  | none => .bad
@[simp] theorem lift_some (s : Sl) (Γ : Env) : lift (some s) Γ = .ok s Γ := rfl
@[simp] theorem lift_none (Γ : Env) : lift none Γ = .bad := rfl
section
variable {c : Ck} {M : Addr → Prop} {own : Nat → Option Addr} {Γ : Env} {σ : St} {H : Hp} {Q : VK}
theorem Kont.here {d : D} {v : V} (k : Kont c M own H (.sh, d) Γ σ Q) (sd : Sd c M own Γ σ H) (r : Rp c.k (hid M H) v d) : Q v H := k v H M own Fr.refl sd (Res.val r)
theorem Sd.fresh (sd : Sd c M own Γ σ H) {p : Addr} (hp : H p = none) : ¬ M p := fun z => sd.wf.dom p z hp
theorem Kont.tup {ds : List D} {xs : List V} {p : Addr} (k : Kont c M own H (.sh, .tuple ds) Γ σ Q) (sd : Sd c M own Γ σ H) (hp : H p = none) (ra : RpAll c.k (hid M H) xs ds) : Q (.ref p) (upd H p (.tup xs)) := by
  have e := same_upd (o := .tup xs) hp
  refine k _ _ M own (Fr.grow e) (sd.grow e) (Res.val (.tup (.inl (.inl (hid_some.mpr ⟨sd.fresh hp, upd_same⟩))) (ra.mono (hid_grow e))))
/-- a new object, hidden -/
theorem Sd.new (sd : Sd c M own Γ σ H) {p : Addr} {o : HO} (hp : H p = none) : Fr M own H (fun a => M a ∨ a = p) own (upd H p o) ∧ Sd c (fun a => M a ∨ a = p) own Γ σ (upd H p o) ∧ (∀ i, own i ≠ some p) ∧ Same (hid M H) (hid (fun a => M a ∨ a = p) (upd H p o)) := by
  have e := same_upd (o := o) hp
  have no : ∀ i, own i ≠ some p := fun i z => sd.fresh hp (sd.wf.hidn i p z)
  have es : Same (hid M H) (hid (fun a => M a ∨ a = p) (upd H p o)) := fun a u h => by
    obtain ⟨h1, h2⟩ := hid_some.mp h
    refine hid_some.mpr ⟨fun z => ?_, e a u h2⟩
    rcases z with z | z
    · exact h1 z
    · subst z; rw [hp] at h2; cases h2
  refine ⟨⟨fun a u h _ => e a u h, fun i q h => .inl ⟨i, h⟩, fun a h => ?_, fun a h _ => .inl h⟩, ⟨⟨sd.wf.inj, fun i q h => .inl (sd.wf.hidn i q h), fun a h => ?_⟩, sd.len, fun i d h => ?_, fun i d h => ?_, sd.pin⟩, no, es⟩
  · rcases h with h | h
    · exact .inl h
    · subst h; exact .inr hp
  · rcases h with h | h
    · cases q : H a with
      | none => exact absurd q (sd.wf.dom a h)
      | some u => rw [e a u q]; exact fun z => nomatch z
    · subst h; rw [upd_same]; exact fun z => nomatch z
  · obtain ⟨v, h1, h2⟩ := sd.val i d h
    exact ⟨v, h1, h2.mono es⟩
  · obtain ⟨q, h1, h2, h3⟩ := sd.ow i d h
    exact ⟨q, h1, h2, h3.mono es fun u y => e q u y⟩
theorem Kont.lst {ds : List D} {xs : List V} {p : Addr} (k : Kont c M own H (.ow, .list ds) Γ σ Q) (sd : Sd c M own Γ σ H) (hp : H p = none) (ra : RpAll c.k (hid M H) xs ds) : Q (.ref p) (upd H p (.lst xs)) := by
  obtain ⟨f, s, no, es⟩ := sd.new (o := .lst xs) hp
  refine k _ _ _ own f s ?_
  exact ⟨p, rfl, .inr rfl, no, .inl hp, xs, upd_same, ra.mono es⟩
/-- a bool, an int, a text stand for themselves -/
theorem Kont.bl {b : Bool} (k : Kont c M own H (.sh, .bool b) Γ σ Q) (sd : Sd c M own Γ σ H) : Q (.bl b) H := k.here sd (.bl b)
theorem Kont.int {i : Int} (k : Kont c M own H (.sh, .int i) Γ σ Q) (sd : Sd c M own Γ σ H) : Q (.int i) H := k.here sd (.int i)
theorem Kont.str {x : Str} (k : Kont c M own H (.sh, .str x) Γ σ Q) (sd : Sd c M own Γ σ H) : Q (.str x) H := k.here sd (.str x)
theorem Kont.non (k : Kont c M own H (.sh, .none) Γ σ Q) (sd : Sd c M own Γ σ H) : Q .non H := k.here sd .non
end

/-! ### names, constants -/
section
variable {X : Cx} {c : Ck}
def eVar (i : Nat) : EV := fun Γ => match Γ[i]? with
  | some (some (false, d)) => .ok (.sh, d) Γ
  | some (some (true, d)) => .ok (.bo i, d) Γ
  | _ => .bad
def eLit (d : D) : EV := fun Γ => .ok (.sh, d) Γ
theorem d_var {e : Expr} (i : Nat) (h : PE X e (tVar i)) : PE X e (tE c (eVar i)) := h.imp fun σ H Q ⟨M, own, Γ, sd, g⟩ => by
  unfold eVar at g
  split at g
  · rename_i d e
    obtain ⟨v, h1, h2⟩ := sd.val i d e
    exact ⟨v, h1, g v H M own Fr.refl sd (Res.val h2)⟩
  · rename_i d e
    obtain ⟨p, h1, h2, h3⟩ := sd.ow i d e
    exact ⟨_, h2, g _ H M own Fr.refl sd ⟨e, h2⟩⟩
  · exact g.elim
theorem d_lit {e : Expr} {v : V} {d : D} (h : PE X e (tC v)) (r : ∀ H, Rp c.k H v d) : PE X e (tE c (eLit d)) := h.imp fun σ H Q ⟨M, own, Γ, sd, g⟩ => g v H M own Fr.refl sd (Res.val (r _))
theorem d_int {i : Int} {j pos} : PE X (.Constant (.int i) j pos) (tE c (eLit (.int i))) := d_lit pe_int fun _ => .int i
theorem d_bl {b : Bool} {j pos} : PE X (.Constant (.bool b) j pos) (tE c (eLit (.bool b))) := d_lit pe_bl fun _ => .bl b
theorem d_non {j pos} : PE X (.Constant .none j pos) (tE c (eLit .none)) := d_lit pe_non fun _ => .non
theorem d_str {x : Str} {j pos} : PE X (.Constant (.str x) j pos) (tE c (eLit (.str x))) := d_lit pe_str fun _ => .str x

/-! ### binary operations, comparisons -/
def eBin (F : D → D → Option Sl) (f g : EV) : EV := fun Γ => (f Γ).bind fun r Γ => (g Γ).bind fun s Γ => match cur r Γ, cur s Γ with
  | some a, some b => lift (F a b) Γ
  | _, _ => .bad
def OpF (c : Ck) (r : R2) (F : D → D → Option Sl) : Prop := ∀ x y a b M own Γ σ H Q s, Sd c M own Γ σ H → Bw c.k M H x a → Bw c.k M H y b → F a b = some s → Kont c M own H s Γ σ Q → r x y H Q
theorem opF_imp {r : R2} {F : D → D → Option Sl} (hF : OpF c r F) {f g : EV} : ∀ σ H Q, tE c (eBin F f g) σ H Q → tOp r (tE c f) (tE c g) σ H Q := fun σ H Q ⟨M, own, Γ, sd, g0⟩ => by
  refine tE_mono (fun x H1 ⟨M1, own1, Γ1, s1, f1, sd1, r1, g1⟩ => ?_) (tE_bindR sd g0)
  refine tE_mono (fun y H2 ⟨M2, own2, Γ2, s2, f2, sd2, r2, g2⟩ => ?_) (tE_bindR sd1 g1)
  cases e1 : cur s1 Γ2 with
  | none => simp only [e1] at g2; exact g2.elim
  | some a =>
    cases e2 : cur s2 Γ2 with
    | none => simp only [e1, e2] at g2; exact g2.elim
    | some b =>
      simp only [e1, e2] at g2
      cases e : F a b with
      | none => rw [e] at g2; exact g2.elim
      | some s => rw [e] at g2; exact hF x y a b M2 own2 Γ2 σ H2 Q s sd2 (r1.bw2 sd1 f2 sd2 e1) (r2.bw sd2 e2) e g2
theorem d_bin {op : Operator} {r : R2} {F : D → D → Option Sl} {a b : Expr} {pos : Pos} {f g : EV} (ho : OpR X (binaryOp op) r) (hF : OpF c r F) (ha : PE X a (tE c f)) (hb : PE X b (tE c g)) : PE X (.BinOp a op b pos) (tE c (eBin F f g)) :=
  (pe_op ho ha hb).imp (opF_imp hF)
theorem d_cmp {op : CmpOp} {r : R2} {F : D → D → Option Sl} {a b : Expr} {pos : Pos} {f g : EV} (ho : OpR X (compareOp op) r) (hF : OpF c r F) (ha : PE X a (tE c f)) (hb : PE X b (tE c g)) (hm : behindInMarks op b = false) : PE X (.Compare a [op] [b] pos) (tE c (eBin F f g)) :=
  (pe_cmpR ho ha hb hm).imp (opF_imp hF)
theorem d_cmpT {op : CmpOp} {r : R2} {F : D → D → Option Sl} {a b : Expr} {pos : Pos} {f g : EV} (ho : OpR X (compareOp op) r) (hF : OpF c r F) (ha : PE X a (tE c f)) (hb : PE X b (tE c g)) (hm : behindInMarks op b = false) : PT X (.Compare a [op] [b] pos) (tB (tE c (eBin F f g))) :=
  (pt_cmpR ho ha hb hm).imp fun σ H Q h => opF_imp hF σ H _ h
/-- the largest length that is met -/
abbrev lim : Nat := 1000000
theorem lim_le {n : Nat} (h : n ≤ 1000000) : n ≤ sizeLine := by rw [sizeLine_eq]; omega

def addF : D → D → Option Sl
  | .int i, .int j => some (.sh, .int (i + j))
  | .list a, .list b => if a.length + b.length ≤ 1000000 then some (.ow, .list (a ++ b)) else none
  | .tuple a, .tuple b => if a.length + b.length ≤ 1000000 then some (.sh, .tuple (a ++ b)) else none
  | .str a, .str b => if a.length + b.length ≤ 1000000 then some (.sh, .str (a ++ b)) else none
  | _, _ => none
def rCatR (K : PySem.W.Frag) : R2 := fun x y H Q => ∃ l b xs zs, x = .ref l ∧ y = .ref b ∧ SqL K H l xs ∧ SqL K H b zs ∧ xs.length + zs.length ≤ sizeLine ∧ ∀ p, H p = none → Q (.ref p) (upd H p (.lst (xs ++ zs)))
theorem op_catR : OpR X (binaryOp .Add) (rCatR X.K) := by
  intro pins s σ H x y v u Q I rx ry h
  obtain ⟨l, b, xs, zs, rfl, rfl, hH, hB, hz, q⟩ := h
  cases rx
  cases ry
  obtain ⟨its, r, ⟨⟨cls, dd, data, sl⟩, n, ho, hc, hdd, hd⟩, _⟩ := I.list hH
  obtain ⟨its2, r2, ⟨⟨cls2, dd2, data2, sl2⟩, n2, ho2, hc2, hdd2, hd2⟩, _⟩ := I.list hB
  have hl := r.length
  have hl2 := r2.length
  simp only at hc hd hc2 hd2
  subst hc hd hc2 hd2
  have e : its.toArray ++ its2.toArray = (its ++ its2).toArray := by simp
  refine concat_meets ⟨_, ho, rfl⟩ ⟨_, ho2, rfl⟩ noFill_list_add seq_list_add PySem.F.slot_list_add PySem.F.entry_list_add (PySem.F.args_list_add_2 _ _) (PyProof.Rows.list_addW l b its.toArray its2.toArray n n2 dd dd2 sl sl2 (by simp; omega)) ⟨ho, ho2, ?_⟩
  rw [e]
  exact ⟨.ref _, _, I.lnew (t' := s.toks) (r.append r2) (by rw [List.length_append]; omega), rfl, q _ I.fresh⟩
def rAddAll (K : PySem.W.Frag) : R2 := fun x y H Q => rI0 (fun i j => .int (i + j)) x y H Q ∨ (rCatR K x y H Q ∨ (rCatA K x y H Q ∨ (∃ i j, x = .str i ∧ y = .str j ∧ i.length + j.length ≤ sizeLine ∧ Q (.str (i ++ j)) H)))
theorem op_addAll : OpR X (binaryOp .Add) (rAddAll X.K) := op_add.or (op_catR.or (op_catA.or op_add_str))
theorem addF_ok : OpF c (rAddAll c.k.K) addF := by
  intro x y a b M own Γ σ H Q s sd rx ry e k
  unfold addF at e
  split at e
  · cases e; cases rx.eqI; cases ry.eqI
    exact .inl ⟨_, _, rfl, rfl, k.int sd⟩
  · split at e
    · rename_i hz
      cases e
      obtain ⟨_, _, rfl, h1, h2⟩ := rx.list
      obtain ⟨_, _, rfl, h3, h4⟩ := ry.list
      refine .inr (.inl ⟨_, _, _, _, rfl, rfl, h1, h3, ?_, fun p hp => k.lst sd hp (h2.app h4)⟩)
      rw [h2.len, h4.len]; exact lim_le hz
    · cases e
  · split at e
    · rename_i hz
      cases e
      obtain ⟨_, _, rfl, h1, h2, h5⟩ := rx.tuple
      obtain ⟨_, _, rfl, h3, h4, h6⟩ := ry.tuple
      refine .inr (.inr (.inl ⟨_, _, _, _, rfl, rfl, h1, h3, ?_, fun e0 => ?_, fun _ e0 => ?_, fun _ _ p hp => k.tup sd hp (h2.app h4)⟩))
      · rw [h2.len, h4.len]; exact lim_le hz
      · subst e0
        cases h2
        exact k.here sd h6
      · subst e0
        cases h4
        exact k.here sd (by rw [List.append_nil]; exact h5)
    · cases e
  · split at e
    · rename_i hz
      cases e; cases rx.eqS; cases ry.eqS
      exact .inr (.inr (.inr ⟨_, _, rfl, rfl, lim_le hz, k.str sd⟩))
    · cases e
  · cases e
theorem d_add (hK : X.K = c.k.K) {a b : Expr} {pos : Pos} {f g : EV} (ha : PE X a (tE c f)) (hb : PE X b (tE c g)) : PE X (.BinOp a .Add b pos) (tE c (eBin addF f g)) :=
  d_bin (op_addAll (X := X)) (hK ▸ addF_ok) ha hb
def subF : D → D → Option Sl
  | .int i, .int j => some (.sh, .int (i - j))
  | _, _ => none
theorem subF_ok : OpF c (rI0 fun i j => .int (i - j)) subF := by
  intro x y a b M own Γ σ H Q s sd rx ry e k
  unfold subF at e
  split at e
  · cases e; cases rx.eqI; cases ry.eqI
    exact ⟨_, _, rfl, rfl, k.int sd⟩
  · cases e
theorem d_sub {a b : Expr} {pos : Pos} {f g : EV} (ha : PE X a (tE c f)) (hb : PE X b (tE c g)) : PE X (.BinOp a .Sub b pos) (tE c (eBin subF f g)) := d_bin op_sub subF_ok ha hb
def mulF : D → D → Option Sl
  | .int i, .int j => if (-(2 ^ 64) < i ∧ i < 2 ^ 64) ∨ (-(2 ^ 64) < j ∧ j < 2 ^ 64) then some (.sh, .int (i * j)) else none
  | .list a, .int k => if 0 ≤ k ∧ k < 1000 ∧ a.length * k.toNat ≤ 1000000 then some (.ow, .list (List.replicate k.toNat a).flatten) else none
  | _, _ => none
theorem RpAll.rep {c : Kc} {H : Hp} {xs : List V} {ds : List D} (h : RpAll c H xs ds) : ∀ k : Nat, RpAll c H (List.replicate k xs).flatten (List.replicate k ds).flatten
  | 0 => .nil
  | k + 1 => by
    rw [List.replicate_succ, List.replicate_succ, List.flatten_cons, List.flatten_cons]
    exact h.app (RpAll.rep h k)
def rRepR (K : PySem.W.Frag) : R2 := fun x y H Q => ∃ l k xs, x = .ref l ∧ y = .int k ∧ SqL K H l xs ∧ -(2 ^ 63) ≤ k ∧ k < 2 ^ 63 ∧ xs.length * k.toNat ≤ sizeLine ∧
  ∀ p, H p = none → Q (.ref p) (upd H p (.lst (List.replicate k.toNat xs).flatten))
theorem list_mulW (l : Addr) (items : Array Value) (n : Nat) (x : Int) (u : Tok) (dd : Option Addr) (sl : Array (Option Value)) (hc0 : ¬(!Builtin.List.listFitsIndex x) = true) (hc1 : ¬items.size * x.toNat > (2 ^ 63 - 1) / 8) (hc2 : ¬Builtin.List.listTooLong (items.size * x.toNat) = true) :
    Meets (Builtin.«list.__mul__» ⟨[.ref l, .int x u], []⟩) (fun _ R s => s.heap.get? l = some { cls := .type "list", dict := dd, data := .seq items n, slots := sl } ∧ R (.ok (.ret (Value.ref s.heap.objs.size))) { s with heap := s.heap.push { cls := Value.type "list", data := Data.seq (List.foldl (fun x1 x2 => x1 ++ x2) #[] (List.replicate (if items.isEmpty = true then 0 else x.toNat) items)) }, toks := s.toks }) :=
  .of_wp fun prog w A R s h => by
    obtain ⟨hp, g, d, tk, os⟩ := s; obtain ⟨hl, h⟩ := h
    have hsz := AutoListH.joined_fits hc2
    wp_walk using wpAny_loadPart' hl; refine wpAny_ite_false (decide_eq_false (Nat.not_lt.mpr hsz)) ?_; wp_walk using wpAny_loadPart' hl; exact ⟨_, rfl, h⟩
theorem int_rmulW (a : Int) (t : Tok) (l : Addr) (items : Array Value) (n : Nat) (dd : Option Addr) (sl : Array (Option Value)) :
    Meets (Builtin.«int.__rmul__» ⟨[.int a t, .ref l], []⟩) (fun _ R s => s.heap.get? l = some { cls := .type "list", dict := dd, data := .seq items n, slots := sl } ∧ R (.ok (.ret Value.notImplemented)) s) :=
  .of_wp fun prog w A R s h => by obtain ⟨hp, g, d, tk, os⟩ := s; obtain ⟨hl, h⟩ := h; wp_walk using wpAny_loadPart' hl; exact ⟨_, rfl, h⟩
theorem op_repR : OpR X (binaryOp .Mult) (rRepR X.K) := by
  intro pins s σ H x y v u Q I rx ry h
  obtain ⟨l, k, xs, rfl, rfl, hH, h1, h2, hz, q⟩ := h
  cases rx
  obtain ⟨t, rfl⟩ := ry
  obtain ⟨its, r, ⟨⟨cls, dd, data, sl⟩, n, e, hc, hdd, hd⟩, _⟩ := I.list hH
  simp only at hc hd
  subst hc hd
  have hl := r.length
  have hlen : its.toArray.size * k.toNat ≤ sizeLine := by rw [List.size_toArray, ← hl]; exact hz
  have hcap : ¬ its.toArray.size * k.toNat > (2 ^ 63 - 1) / 8 := by
    have : (sizeLine : Nat) ≤ (2 ^ 63 - 1) / 8 := by decide
    omega
  have hfit : ¬ (!Builtin.List.listFitsIndex k) = true := by
    rw [fitsIndex_both h1 h2]
    exact Bool.false_ne_true
  have hlong : ¬ Builtin.List.listTooLong (its.toArray.size * k.toNat) = true := by
    rw [notLongL hlen]
    exact Bool.false_ne_true
  have hnew : List.foldl (fun x1 x2 => x1 ++ x2) #[] (List.replicate (if its.toArray.isEmpty = true then 0 else k.toNat) its.toArray) = (List.replicate k.toNat its).flatten.toArray := by
    have f0 : ∀ m : Nat, List.foldl (fun x1 x2 => x1 ++ x2) #[] (List.replicate m its.toArray) = (List.replicate m its).flatten.toArray := fun m => by
      have := foldl_rep its m []
      rw [List.nil_append] at this
      exact this
    rw [f0]
    cases its with
    | nil => simp
    | cons a r' => rw [if_neg (by simp)]
  refine wpAny_binaryOp_repeat_ref (T := "list") (U := "int") (by decide) ⟨_, e, rfl⟩ (fun s' => typeIs_int s' k t) noFill_list_mul F.fills_int_mul F.slot_int_rmul repeat_list F.slot_int_index.lookup
    (call_meets F.slot_int_rmul (typeIs_int s k t) F.entry_int_rmul (F.args_int_rmul_2 _ _) (int_rmulW k t l its.toArray n dd sl)
      ⟨e, rfl, ⟨_, e, rfl⟩, call_meets F.slot_list_mul ⟨_, e, rfl⟩ F.entry_list_mul (F.args_list_mul_2 _ _) (list_mulW l its.toArray n k t dd sl hfit hcap hlong) ⟨e, ?_⟩⟩)
  rw [hnew]
  exact ⟨.ref _, _, I.lnew (t' := s.toks) (r.rep k.toNat) (by rw [PyProof.Rows.lm_len_rep_flat, Nat.mul_comm]; exact hz), rfl, q _ I.fresh⟩
theorem mulF_ok : OpF c (fun x y H Q => rI CMul (fun i j => .int (i * j)) x y H Q ∨ rRepR c.k.K x y H Q) mulF := by
  intro x y a b M own Γ σ H Q s sd rx ry e k
  unfold mulF at e
  split at e
  · split at e
    · rename_i hz
      cases e; cases rx.eqI; cases ry.eqI
      exact .inl ⟨_, _, rfl, rfl, hz, k.int sd⟩
    · cases e
  · split at e
    · rename_i hz
      obtain ⟨z1, z2, z3⟩ := hz
      cases e; cases ry.eqI
      obtain ⟨_, _, rfl, h1, h2⟩ := rx.list
      refine .inr ⟨_, _, _, rfl, rfl, h1, by omega, by omega, ?_, fun p hp => k.lst sd hp (h2.rep _)⟩
      rw [h2.len]; exact lim_le z3
    · cases e
  · cases e
theorem d_mul (hK : X.K = c.k.K) {a b : Expr} {pos : Pos} {f g : EV} (ha : PE X a (tE c f)) (hb : PE X b (tE c g)) : PE X (.BinOp a .Mult b pos) (tE c (eBin mulF f g)) := d_bin (op_mul.or op_repR) (by rw [hK]; exact mulF_ok) ha hb
def fdivF : D → D → Option Sl
  | .int i, .int j => if 0 < j ∧ j < 2 ^ 64 then some (.sh, .int (i / j)) else none
  | _, _ => none
theorem fdivF_ok : OpF c (rI CDivW fun i j => .int (i / j)) fdivF := by
  intro x y a b M own Γ σ H Q s sd rx ry e k
  unfold fdivF at e
  split at e
  · split at e
    · rename_i hz
      cases e; cases rx.eqI; cases ry.eqI
      refine ⟨_, _, rfl, rfl, wide_div (b := 64) hz.1 ?_ (by decide) (by decide), k.int sd⟩
      have := hz.1; have := hz.2
      omega
    · cases e
  · cases e
theorem d_fdiv {a b : Expr} {pos : Pos} {f g : EV} (ha : PE X a (tE c f)) (hb : PE X b (tE c g)) : PE X (.BinOp a .FloorDiv b pos) (tE c (eBin fdivF f g)) := d_bin op_fdivW fdivF_ok ha hb
def modF : D → D → Option Sl
  | .int i, .int j => if 0 < j then some (.sh, .int (i % j)) else none
  | _, _ => none
theorem modF_ok : OpF c (rI (fun _ j => 0 < j) fun i j => .int (i % j)) modF := by
  intro x y a b M own Γ σ H Q s sd rx ry e k
  unfold modF at e
  split at e
  · split at e
    · rename_i hz
      cases e; cases rx.eqI; cases ry.eqI
      exact ⟨_, _, rfl, rfl, hz, k.int sd⟩
    · cases e
  · cases e
theorem d_mod {a b : Expr} {pos : Pos} {f g : EV} (ha : PE X a (tE c f)) (hb : PE X b (tE c g)) : PE X (.BinOp a .Mod b pos) (tE c (eBin modF f g)) := d_bin op_mod modF_ok ha hb
def powF : D → D → Option Sl
  | .int i, .int j => if 0 ≤ j ∧ j ≤ 1000 ∧ i.natAbs < 2 ^ 64 then some (.sh, .int (i ^ j.toNat)) else none
  | _, _ => none
theorem powF_ok : OpF c (rI CPow fun i j => .int (i ^ j.toNat)) powF := by
  intro x y a b M own Γ σ H Q s sd rx ry e k
  unfold powF at e
  split at e
  · split at e
    · rename_i hz
      cases e; cases rx.eqI; cases ry.eqI
      exact ⟨_, _, rfl, rfl, ⟨hz.1, by have := hz.2.1; omega, hz.2.2⟩, k.int sd⟩
    · cases e
  · cases e
theorem d_pow {a b : Expr} {pos : Pos} {f g : EV} (ha : PE X a (tE c f)) (hb : PE X b (tE c g)) : PE X (.BinOp a .Pow b pos) (tE c (eBin powF f g)) := d_bin op_pow powF_ok ha hb
def ltF : D → D → Option Sl
  | .int i, .int j => some (.sh, .bool (decide (i < j)))
  | _, _ => none
def leF : D → D → Option Sl
  | .int i, .int j => some (.sh, .bool (decide (i ≤ j)))
  | _, _ => none
def gtF : D → D → Option Sl
  | .int i, .int j => some (.sh, .bool (decide (j < i)))
  | _, _ => none
def geF : D → D → Option Sl
  | .int i, .int j => some (.sh, .bool (decide (j ≤ i)))
  | _, _ => none
theorem ltF_ok : OpF c (rI0 fun i j => .bl (decide (i < j))) ltF := by
  intro x y a b M own Γ σ H Q s sd rx ry e k
  unfold ltF at e
  split at e
  · cases e; cases rx.eqI; cases ry.eqI
    exact ⟨_, _, rfl, rfl, k.bl sd⟩
  · cases e
theorem leF_ok : OpF c (rI0 fun i j => .bl (decide (i ≤ j))) leF := by
  intro x y a b M own Γ σ H Q s sd rx ry e k
  unfold leF at e
  split at e
  · cases e; cases rx.eqI; cases ry.eqI
    exact ⟨_, _, rfl, rfl, k.bl sd⟩
  · cases e
theorem gtF_ok : OpF c (rI0 fun i j => .bl (decide (j < i))) gtF := by
  intro x y a b M own Γ σ H Q s sd rx ry e k
  unfold gtF at e
  split at e
  · cases e; cases rx.eqI; cases ry.eqI
    exact ⟨_, _, rfl, rfl, k.bl sd⟩
  · cases e
theorem geF_ok : OpF c (rI0 fun i j => .bl (decide (j ≤ i))) geF := by
  intro x y a b M own Γ σ H Q s sd rx ry e k
  unfold geF at e
  split at e
  · cases e; cases rx.eqI; cases ry.eqI
    exact ⟨_, _, rfl, rfl, k.bl sd⟩
  · cases e
def eqF (a b : D) : Option Sl := if SeqAt.shaped a = true ∧ SeqAt.shaped b = true then some (.sh, .bool (PyData.eqv a b)) else none
def neF (a b : D) : Option Sl := if SeqAt.shaped a = true ∧ SeqAt.shaped b = true then some (.sh, .bool (!PyData.eqv a b)) else none
theorem Bw.dpH {M : Addr → Prop} {H : Hp} {v : V} {d : D} (h : Bw c.k M H v d) : Dp c.k.K H v d := h.full.dp
theorem eqF_ok : OpF c (rEqD c.k.K) eqF := by
  intro x y a b M own Γ σ H Q s sd rx ry e k
  unfold eqF at e
  split at e
  · rename_i hz
    cases e
    exact ⟨a, b, rx.dpH, ry.dpH, hz.1, hz.2, k.bl sd⟩
  · cases e
theorem neF_ok : OpF c (rNeD c.k.K) neF := by
  intro x y a b M own Γ σ H Q s sd rx ry e k
  unfold neF at e
  split at e
  · rename_i hz
    cases e
    exact ⟨a, b, rx.dpH, ry.dpH, hz.1, hz.2, k.bl sd⟩
  · cases e
/-- in: a list or a tuple of data; a text -/
def inB : D → D → Option Bool
  | a, .list ds => if SeqAt.shaped a = true ∧ SeqAt.shaped (.list ds) = true then some (ds.any fun z => PyData.eqv z a) else none
  | a, .tuple ds => if SeqAt.shaped a = true ∧ SeqAt.shaped (.tuple ds) = true then some (ds.any fun z => PyData.eqv z a) else none
  | .str a, .str b => some (!(Builtin.Str.occurrences b a 0 b.length 1).isEmpty)
  | _, _ => none
def inF (a b : D) : Option Sl := (inB a b).map fun k => (.sh, .bool k)
def notInF (a b : D) : Option Sl := (inB a b).map fun k => (.sh, .bool (!k))
def rInT (K : PySem.W.Frag) : R2 := fun x y H Q => ∃ d ds, Dp K H x d ∧ Dp K H y (.tuple ds) ∧ SeqAt.shaped d = true ∧ SeqAt.shaped (.tuple ds) = true ∧ Q (.bl (ds.any fun z => PyData.eqv z d)) H
def rNotInT (K : PySem.W.Frag) : R2 := fun x y H Q => ∃ d ds, Dp K H x d ∧ Dp K H y (.tuple ds) ∧ SeqAt.shaped d = true ∧ SeqAt.shaped (.tuple ds) = true ∧ Q (.bl (!ds.any fun z => PyData.eqv z d)) H
theorem op_inT (hu : X.A.units + 65 < cLine) : OpR X (compareOp .In) (rInT X.K) := by
  intro pins s σ H x y v u Q I rx ry h
  obtain ⟨d, ds, hd, he, sd, se, q⟩ := h
  obtain ⟨as, r1⟩ := Dp.reads I d x v hd rx
  obtain ⟨bs, r2⟩ := Dp.reads I (.tuple ds) y u he ry
  exact SeqAt.in_tuple_reads r2 r1 (SeqAt.canLay_of_shaped se) (SeqAt.canLay_of_shaped sd) (PyProof.Rows.room_in_shaped sd hu) ⟨.bl _, H, I, rfl, q⟩
theorem op_notInT (hu : X.A.units + 65 < cLine) : OpR X (compareOp .NotIn) (rNotInT X.K) := by
  intro pins s σ H x y v u Q I rx ry h
  obtain ⟨d, ds, hd, he, sd, se, q⟩ := h
  obtain ⟨as, r1⟩ := Dp.reads I d x v hd rx
  obtain ⟨bs, r2⟩ := Dp.reads I (.tuple ds) y u he ry
  exact SeqAt.notIn_tuple_reads r2 r1 (SeqAt.canLay_of_shaped se) (SeqAt.canLay_of_shaped sd) (PyProof.Rows.room_in_shaped sd hu) ⟨.bl _, H, I, rfl, q⟩
def rInAll (K : PySem.W.Frag) : R2 := fun x y H Q => rInD K x y H Q ∨ (rInT K x y H Q ∨ (∃ i j, x = .str i ∧ y = .str j ∧ Q (.bl (!(Builtin.Str.occurrences j i 0 j.length 1).isEmpty)) H))
def rNotInAll (K : PySem.W.Frag) : R2 := fun x y H Q => rNotInD K x y H Q ∨ (rNotInT K x y H Q ∨ (∃ i j, x = .str i ∧ y = .str j ∧ Q (.bl (!(!(Builtin.Str.occurrences j i 0 j.length 1).isEmpty))) H))
theorem op_inAll (hu : X.A.units + 65 < cLine) : OpR X (compareOp .In) (rInAll X.K) := (op_inD hu).or ((op_inT hu).or op_in_str)
theorem op_notInAll (hu : X.A.units + 65 < cLine) : OpR X (compareOp .NotIn) (rNotInAll X.K) := (op_notInD hu).or ((op_notInT hu).or op_notin_str)
theorem inF_ok : OpF c (rInAll c.k.K) inF := by
  intro x y a b M own Γ σ H Q s sd rx ry e k
  unfold inF at e
  cases q : inB a b with
  | none => rw [q] at e; cases e
  | some t =>
    rw [q] at e; cases e
    unfold inB at q
    split at q
    · split at q
      · rename_i hz
        cases q
        exact .inl ⟨_, _, rx.dpH, ry.dpH, hz.1, hz.2, k.bl sd⟩
      · cases q
    · split at q
      · rename_i hz
        cases q
        exact .inr (.inl ⟨_, _, rx.dpH, ry.dpH, hz.1, hz.2, k.bl sd⟩)
      · cases q
    · cases q; cases rx.eqS; cases ry.eqS
      exact .inr (.inr ⟨_, _, rfl, rfl, k.bl sd⟩)
    · cases q
theorem notInF_ok : OpF c (rNotInAll c.k.K) notInF := by
  intro x y a b M own Γ σ H Q s sd rx ry e k
  unfold notInF at e
  cases q : inB a b with
  | none => rw [q] at e; cases e
  | some t =>
    rw [q] at e; cases e
    unfold inB at q
    split at q
    · split at q
      · rename_i hz
        cases q
        exact .inl ⟨_, _, rx.dpH, ry.dpH, hz.1, hz.2, k.bl sd⟩
      · cases q
    · split at q
      · rename_i hz
        cases q
        exact .inr (.inl ⟨_, _, rx.dpH, ry.dpH, hz.1, hz.2, k.bl sd⟩)
      · cases q
    · cases q; cases rx.eqS; cases ry.eqS
      exact .inr (.inr ⟨_, _, rfl, rfl, k.bl sd⟩)
    · cases q
end
end DL

namespace DL
open PySem L2
theorem _root_.L2.PW.imp {X : Cx} {e : Expr} {t t' : TT} (h : PW X e t) (i : ∀ σ H Q, t' σ H Q → t σ H Q) : PW X e t' := ⟨fun wh pins s σ H Q I q => h.run wh pins s σ H Q I (i σ H Q q)⟩
section
variable {X : Cx} {c : Ck} {M M' : Addr → Prop} {own own' : Nat → Option Addr} {Γ Γ' : Env} {σ : St} {H H' : Hp}
theorem Res.bool {fg : Fg} {b : Bool} {v : V} (sd : Sd c M' own' Γ' σ H') (r : Res c M own H M' own' H' Γ' σ (fg, .bool b) v) : v = .bl b := by
  have e : cur (fg, .bool b) Γ' = some (.bool b) := by
    cases fg with
    | sh => rfl
    | ow => rfl
    | bo i => have h : Γ'[i]? = some (some (true, .bool b)) := r.1; rw [cur_bo, h]
  exact (r.bw sd e).eqB

/-! ### tests -/
abbrev tT (c : Ck) (f : EV) : TT := tB (tE c f)
def eAnd (f g : EV) : EV := fun Γ => (f Γ).bind fun s Γ => match s.2 with
  | .bool true => g Γ
  | .bool false => .ok (.sh, .bool false) Γ
  | _ => .bad
def eOr (f g : EV) : EV := fun Γ => (f Γ).bind fun s Γ => match s.2 with
  | .bool true => .ok (.sh, .bool true) Γ
  | .bool false => g Γ
  | _ => .bad
def eNot (f : EV) : EV := fun Γ => (f Γ).bind fun s Γ => match s.2 with
  | .bool b => .ok (.sh, .bool (!b)) Γ
  | _ => .bad
def eIf (h f g : EV) : EV := fun Γ => (h Γ).bind fun s Γ => match s.2 with
  | .bool true => f Γ
  | .bool false => g Γ
  | _ => .bad
theorem good_bool {k : Sl → Env → Rs Sl} {s : Sl} {v : V} {Q : VK} (sd : Sd c M' own' Γ' σ H') (rs : Res c M own H M' own' H' Γ' σ s v) (g : Good c M' own' H' (match s.2 with | .bool b => k (.sh, .bool b) Γ' | _ => .bad) σ Q) :
    ∃ b, v = .bl b ∧ s.2 = .bool b ∧ Good c M' own' H' (k (.sh, .bool b) Γ') σ Q := by
  obtain ⟨fg, d⟩ := s
  cases d with
  | bool b => exact ⟨b, rs.bool sd, rfl, g⟩
  | _ => exact g.elim
theorem d_and {a b : Expr} {rest : List Expr} {pos : Pos} {f g : EV} (ha : PE X a (tE c f)) (hb : PE X (.BoolOp .And (b :: rest) pos) (tE c g)) : PE X (.BoolOp .And (a :: b :: rest) pos) (tE c (eAnd f g)) :=
  (pe_and ha hb).imp fun σ H Q ⟨M, own, Γ, sd, g0⟩ => by
    refine tE_mono (fun x H1 ⟨M1, own1, Γ1, s, f1, sd1, r1, g1⟩ => ?_) (tE_bindR sd g0)
    obtain ⟨fg, d⟩ := s
    cases d with
    | bool k =>
      refine ⟨k, r1.bool sd1, ?_⟩
      cases k with
      | true => exact ⟨M1, own1, Γ1, sd1, g1⟩
      | false => exact g1 _ _ _ _ Fr.refl sd1 (Res.val (.bl false))
    | _ => exact g1.elim
theorem d_or {a b : Expr} {rest : List Expr} {pos : Pos} {f g : EV} (ha : PE X a (tE c f)) (hb : PE X (.BoolOp .Or (b :: rest) pos) (tE c g)) : PE X (.BoolOp .Or (a :: b :: rest) pos) (tE c (eOr f g)) :=
  (pe_or ha hb).imp fun σ H Q ⟨M, own, Γ, sd, g0⟩ => by
    refine tE_mono (fun x H1 ⟨M1, own1, Γ1, s, f1, sd1, r1, g1⟩ => ?_) (tE_bindR sd g0)
    obtain ⟨fg, d⟩ := s
    cases d with
    | bool k =>
      refine ⟨k, r1.bool sd1, ?_⟩
      cases k with
      | true => exact g1 _ _ _ _ Fr.refl sd1 (Res.val (.bl true))
      | false => exact ⟨M1, own1, Γ1, sd1, g1⟩
    | _ => exact g1.elim
theorem d_one {op} {a : Expr} {pos : Pos} {f : EV} (h : PE X a (tE c f)) : PE X (.BoolOp op [a] pos) (tE c f) := pe_one h
theorem d_not {a : Expr} {pos : Pos} {f : EV} (ha : PE X a (tE c f)) : PE X (.UnaryOp .Not a pos) (tE c (eNot f)) :=
  (pe_not ha).imp fun σ H Q ⟨M, own, Γ, sd, g0⟩ => by
    refine tE_mono (fun x H1 ⟨M1, own1, Γ1, s, f1, sd1, r1, g1⟩ => ?_) (tE_bindR sd g0)
    obtain ⟨fg, d⟩ := s
    cases d with
    | bool k => exact ⟨k, r1.bool sd1, g1 _ _ _ _ Fr.refl sd1 (Res.val (.bl _))⟩
    | _ => exact g1.elim
theorem d_andT {a b : Expr} {rest : List Expr} {pos : Pos} {f g : EV} (ha : PT X a (tT c f)) (hb : PW X (.BoolOp .And (b :: rest) pos) (tT c g)) : PW X (.BoolOp .And (a :: b :: rest) pos) (tT c (eAnd f g)) :=
  (pw_and ha hb).imp fun σ H Q ⟨M, own, Γ, sd, g0⟩ => by
    refine tE_mono (fun x H1 ⟨M1, own1, Γ1, s, f1, sd1, r1, g1⟩ => ?_) (tE_bindR sd g0)
    obtain ⟨fg, d⟩ := s
    cases d with
    | bool k =>
      refine ⟨k, r1.bool sd1, ?_⟩
      cases k with
      | true => exact ⟨M1, own1, Γ1, sd1, g1⟩
      | false =>
        obtain ⟨k, e, q⟩ := g1 _ _ _ _ Fr.refl sd1 (Res.val (.bl false))
        cases e
        exact q
    | _ => exact g1.elim
theorem d_orT {a b : Expr} {rest : List Expr} {pos : Pos} {f g : EV} (ha : PT X a (tT c f)) (hb : PW X (.BoolOp .Or (b :: rest) pos) (tT c g)) : PW X (.BoolOp .Or (a :: b :: rest) pos) (tT c (eOr f g)) :=
  (pw_or ha hb).imp fun σ H Q ⟨M, own, Γ, sd, g0⟩ => by
    refine tE_mono (fun x H1 ⟨M1, own1, Γ1, s, f1, sd1, r1, g1⟩ => ?_) (tE_bindR sd g0)
    obtain ⟨fg, d⟩ := s
    cases d with
    | bool k =>
      refine ⟨k, r1.bool sd1, ?_⟩
      cases k with
      | true =>
        obtain ⟨k, e, q⟩ := g1 _ _ _ _ Fr.refl sd1 (Res.val (.bl true))
        cases e
        exact q
      | false => exact ⟨M1, own1, Γ1, sd1, g1⟩
    | _ => exact g1.elim
theorem d_and1T {a : Expr} {pos : Pos} {f : EV} (ha : PT X a (tT c f)) : PW X (.BoolOp .And [a] pos) (tT c f) := pw_and1 ha
theorem d_or1T {a : Expr} {pos : Pos} {f : EV} (ha : PT X a (tT c f)) : PW X (.BoolOp .Or [a] pos) (tT c f) := pw_or1 ha
theorem d_notT {a : Expr} {pos : Pos} {f : EV} (ha : PT X a (tT c f)) : PT X (.UnaryOp .Not a pos) (tT c (eNot f)) :=
  (pt_not ha).imp fun σ H Q ⟨M, own, Γ, sd, g0⟩ => by
    refine tE_mono (fun x H1 ⟨M1, own1, Γ1, s, f1, sd1, r1, g1⟩ => ?_) (tE_bindR sd g0)
    obtain ⟨fg, d⟩ := s
    cases d with
    | bool k =>
      refine ⟨k, r1.bool sd1, ?_⟩
      obtain ⟨k', e, q⟩ := g1 _ _ _ _ Fr.refl sd1 (Res.val (.bl (!k)))
      cases e
      exact q
    | _ => exact g1.elim
theorem d_ife {t a b : Expr} {pos : Pos} {h f g : EV} (ht : PT X t (tT c h)) (ha : PE X a (tE c f)) (hb : PE X b (tE c g)) : PE X (.IfExp t a b pos) (tE c (eIf h f g)) :=
  (pe_ifExp ht ha hb).imp fun σ H Q ⟨M, own, Γ, sd, g0⟩ => by
    refine tE_mono (fun x H1 ⟨M1, own1, Γ1, s, f1, sd1, r1, g1⟩ => ?_) (tE_bindR sd g0)
    obtain ⟨fg, d⟩ := s
    cases d with
    | bool k =>
      refine ⟨k, r1.bool sd1, ?_⟩
      cases k with
      | true => exact ⟨M1, own1, Γ1, sd1, g1⟩
      | false => exact ⟨M1, own1, Γ1, sd1, g1⟩
    | _ => exact g1.elim
/-- a op b op' z -/
def eChain (F G : D → D → Option Sl) (f g h : EV) : EV := fun Γ => (f Γ).bind fun r Γ => (g Γ).bind fun s Γ => match cur r Γ, cur s Γ with
  | some a, some b => match F a b with
    | some (.sh, .bool true) => (h Γ).bind fun t Γ => match cur s Γ, cur t Γ with
      | some b, some z => lift (G b z) Γ
      | _, _ => .bad
    | some (.sh, .bool false) => .ok (.sh, .bool false) Γ
    | _ => .bad
  | _, _ => .bad
theorem chain_imp {r r' : R2} {F G : D → D → Option Sl} (hF : OpF c r F) (hG : OpF c r' G) {f g h : EV} : ∀ σ H Q, tE c (eChain F G f g h) σ H Q → tChain r r' (tE c f) (tE c g) (tE c h) σ H Q := fun σ H Q ⟨M, own, Γ, sd, g0⟩ => by
  refine tE_mono (fun x H1 ⟨M1, own1, Γ1, s1, f1, sd1, r1, g1⟩ => ?_) (tE_bindR sd g0)
  refine tE_mono (fun y H2 ⟨M2, own2, Γ2, s2, f2, sd2, r2, g2⟩ => ?_) (tE_bindR sd1 g1)
  cases e1 : cur s1 Γ2 with
  | none => simp only [e1] at g2; exact g2.elim
  | some a =>
    cases e2 : cur s2 Γ2 with
    | none => simp only [e1, e2] at g2; exact g2.elim
    | some b =>
      simp only [e1, e2] at g2
      split at g2
      · rename_i e
        refine hF x y a b M2 own2 Γ2 σ H2 _ _ sd2 (r1.bw2 sd1 f2 sd2 e1) (r2.bw sd2 e2) e fun v H3 M3 own3 f3 sd3 rs3 => ⟨true, rs3.bool sd3, ?_⟩
        rw [if_pos rfl]
        refine tE_mono (fun z H4 ⟨M4, own4, Γ4, s4, f4, sd4, r4, g4⟩ => ?_) (tE_bindR sd3 (Good.after sd2.wf f3 g2))
        cases e3 : cur s2 Γ4 with
        | none => simp only [e3] at g4; exact g4.elim
        | some b' =>
          cases e4 : cur s4 Γ4 with
          | none => simp only [e3, e4] at g4; exact g4.elim
          | some z' =>
            simp only [e3, e4] at g4
            cases e : G b' z' with
            | none => rw [e] at g4; exact g4.elim
            | some s => rw [e] at g4; exact hG y z b' z' M4 own4 Γ4 σ H4 Q s sd4 (r2.bw2 sd2 (f3.trans sd2.wf f4) sd4 e3) (r4.bw sd4 e4) e g4
      · rename_i e
        refine hF x y a b M2 own2 Γ2 σ H2 _ _ sd2 (r1.bw2 sd1 f2 sd2 e1) (r2.bw sd2 e2) e fun v H3 M3 own3 f3 sd3 rs3 => ⟨false, rs3.bool sd3, ?_⟩
        rw [if_neg Bool.false_ne_true]
        exact Good.after sd2.wf f3 g2 _ _ _ _ Fr.refl sd3 (Res.val (.bl false))
      · exact g2.elim
theorem d_chain {op op' : CmpOp} {r r' : R2} {F G : D → D → Option Sl} {a b z : Expr} {pos : Pos} {f g h : EV} (ho : OpR X (compareOp op) r) (ho' : OpR X (compareOp op') r') (hF : OpF c r F) (hG : OpF c r' G) (ha : PE X a (tE c f)) (hb : PE X b (tE c g)) (hz : PE X z (tE c h))
    (hm : lastMarks [op, op'] [b, z] = false := by with_unfolding_all rfl) : PE X (.Compare a [op, op'] [b, z] pos) (tE c (eChain F G f g h)) := (pe_chain ho ho' ha hb hz hm).imp (chain_imp hF hG)
theorem d_chainT {op op' : CmpOp} {r r' : R2} {F G : D → D → Option Sl} {a b z : Expr} {pos : Pos} {f g h : EV} (ho : OpR X (compareOp op) r) (ho' : OpR X (compareOp op') r') (hF : OpF c r F) (hG : OpF c r' G) (ha : PE X a (tE c f)) (hb : PE X b (tE c g)) (hz : PE X z (tE c h))
    (hm : lastMarks [op, op'] [b, z] = false := by with_unfolding_all rfl) : PT X (.Compare a [op, op'] [b, z] pos) (tT c (eChain F G f g h)) := (pt_chain ho ho' ha hb hz hm).imp fun σ H Q h => chain_imp hF hG σ H _ h
/-- any other expression as a test -/
theorem d_test {e : Expr} {f : EV} (h : PE X e (tE c f)) (he : ∀ whole, isTrue e X.env whole = (do let v ← whole; standAt e.pos; holding [v] (truthy v)) := by intro _; rfl) : PT X e (tT c f) := pt_val h he

/-! ### arguments, displays -/
def aNil : Env → Rs (List D) := fun Γ => .ok [] Γ
def aCons (f : EV) (g : Env → Rs (List D)) : Env → Rs (List D) := fun Γ => (f Γ).bindV fun d Γ => (g Γ).bind fun ds Γ => .ok (d :: ds) Γ
theorem d_anil : PA X [] (tAs c aNil) := pa_nil.imp fun σ H Q ⟨M, own, Γ, sd, g⟩ => g [] H M own Fr.refl sd .nil
theorem d_acons {e : Expr} {es : List Expr} {f : EV} {g : Env → Rs (List D)} (ha : PE X e (tE c f)) (hr : PA X es (tAs c g)) (hs : starEach (e :: es) X.env = (false, eval e X.env) :: starEach es X.env := by rfl) : PA X (e :: es) (tAs c (aCons f g)) :=
  (pa_cons ha hr hs).imp fun σ H Q ⟨M, own, Γ, sd, g0⟩ => by
    refine tE_mono (fun x H1 ⟨M1, own1, Γ1, d, f1, sd1, r1, g1⟩ => ?_) (tE_bindA sd g0)
    refine tAs_mono (fun xs H2 ⟨M2, own2, Γ2, ds, f2, sd2, r2, g2⟩ => ?_) (tAs_bindA sd1 g1)
    exact g2 _ _ _ _ Fr.refl sd2 (.cons (r1.mono (f2.same sd1.wf)) r2)
def eTup (as : Env → Rs (List D)) : EV := fun Γ => (as Γ).bind fun ds Γ => if ds.length ≤ 1000000 then .ok (.sh, .tuple ds) Γ else .bad
def eLst (as : Env → Rs (List D)) : EV := fun Γ => (as Γ).bind fun ds Γ => if ds.length ≤ 1000000 then .ok (.ow, .list ds) Γ else .bad
theorem d_tup {es : List Expr} {x1} {pos : Pos} {as : Env → Rs (List D)} (h : PA X es (tAs c as)) : PE X (.Tuple es x1 pos) (tE c (eTup as)) :=
  (pe_tup h).imp fun σ H Q ⟨M, own, Γ, sd, g0⟩ => by
    refine tAs_mono (fun xs H2 ⟨M2, own2, Γ2, ds, f2, sd2, r2, g2⟩ => ?_) (tAs_bind sd g0)
    split at g2
    · rename_i hz
      exact ⟨by rw [r2.len]; exact lim_le hz, fun p hp => Kont.tup g2 sd2 hp r2⟩
    · exact g2.elim
theorem d_lst {es : List Expr} {pos : Pos} {as : Env → Rs (List D)} (h : PA X es (tAs c as)) : PE X (.List es pos) (tE c (eLst as)) :=
  (pe_lst h).imp fun σ H Q ⟨M, own, Γ, sd, g0⟩ => by
    refine tAs_mono (fun xs H2 ⟨M2, own2, Γ2, ds, f2, sd2, r2, g2⟩ => ?_) (tAs_bind sd g0)
    split at g2
    · rename_i hz
      exact ⟨by rw [r2.len]; exact lim_le hz, fun p hp => Kont.lst g2 sd2 hp r2⟩
    · exact g2.elim

/-! ### subscripts, slices -/
theorem atI_all {xs : List V} {ds : List D} {i : Int} {d : D} (h : RpAll c.k H xs ds) (e : atI ds i = some d) : ∃ v, atI xs i = some v ∧ Rp c.k H v d := by
  unfold atI at e ⊢
  rw [h.len]
  cases q : ixN ds.length i with
  | none => rw [q] at e; cases e
  | some j => rw [q] at e; exact h.get (i := j) e
def ixF : D → D → Option Sl
  | .list ds, .int i => (atI ds i).map fun d => (.sh, d)
  | .tuple ds, .int i => (atI ds i).map fun d => (.sh, d)
  | .str z, .int i => if z.length ≤ 1000000 then (atI z.cps.toList i).map fun k => (.sh, .str ⟨#[k]⟩) else none
  | _, _ => none
theorem ixF_ok : OpF c (rIx c.k.K) ixF := by
  intro x y a b M own Γ σ H Q s sd rx ry e k
  unfold ixF at e
  split at e
  · rename_i ds i
    cases q : atI ds i with
    | none => rw [q] at e; cases e
    | some d =>
      rw [q] at e; cases e
      obtain ⟨p, xs, rfl, h1, h2⟩ := rx.list
      cases ry.eqI
      obtain ⟨v, h3, h4⟩ := atI_all h2 q
      exact .inl ⟨p, xs, i, v, rfl, rfl, h1, h3, k.here sd h4⟩
  · rename_i ds i
    cases q : atI ds i with
    | none => rw [q] at e; cases e
    | some d =>
      rw [q] at e; cases e
      obtain ⟨p, xs, rfl, h1, h2, _⟩ := rx.tuple
      cases ry.eqI
      obtain ⟨v, h3, h4⟩ := atI_all h2 q
      exact .inr (.inl ⟨p, xs, i, v, rfl, rfl, h1, h3, k.here sd h4⟩)
  · rename_i z i
    split at e
    · rename_i hz
      cases q : atI z.cps.toList i with
      | none => rw [q] at e; cases e
      | some d =>
        rw [q] at e; cases e
        cases rx.eqS; cases ry.eqI
        exact .inr (.inr ⟨z, i, d, rfl, rfl, lim_le hz, q, k.str sd⟩)
    · cases e
  · cases e
theorem d_ix (hK : X.K = c.k.K) {a b : Expr} {pos : Pos} {f g : EV} (ha : PE X a (tE c f)) (hb : PE X b (tE c g)) (hs : PlainIx b) : PE X (.Subscript a b pos) (tE c (eBin ixF f g)) :=
  (pe_ix (ix_seq (X := X)) ha hb hs).imp (opF_imp (hK ▸ ixF_ok))
def cutL {α : Type} (xs : List α) (lo hi : Option Int) : List α := (xs.drop (HT.sIx xs.length 0 lo)).take (HT.sIx xs.length xs.length hi - HT.sIx xs.length 0 lo)
theorem cutL_all {xs : List V} {ds : List D} {lo hi : Option Int} (h : RpAll c.k H xs ds) : RpAll c.k H (cutV xs lo hi) (cutL ds lo hi) := by
  unfold cutV cutL
  rw [h.len]
  exact (h.drop _).take _
def slF (lo hi : Option Int) : D → Option Sl
  | .list ds => some (.ow, .list (cutL ds lo hi))
  | .tuple ds => some (.sh, .tuple (cutL ds lo hi))
  | .str z => if z.length ≤ 1000000 then some (.sh, .str (cutS z lo hi)) else none
  | _ => none
abbrev OV := Env → Rs (Option Int)
def tOv (c : Ck) (f : OV) : TO := fun σ H Q => ∃ M own Γ, Sd c M own Γ σ H ∧ match f Γ with
  | .ok o Γ' => ∀ H' M' own', Fr M own H M' own' H' → Sd c M' own' Γ' σ H' → Q o H'
  | .exc x Γ' => ∀ H' M' own' dct, Fr M own H M' own' H' → Sd c M' own' Γ' σ H' → XOk c M' H' x dct → c.W (.ref (c.k.cA x.cls)) dct σ H'
  | .bad => False
def oNone : OV := fun Γ => .ok none Γ
def oSome (f : EV) : OV := fun Γ => (f Γ).bind fun s Γ => match s with
  | (.sh, .int i) => .ok (some i) Γ
  | _ => .bad
theorem _root_.L2.PO.imp {X : Cx} {e : Option Expr} {t t' : TO} (h : PO X e t) (i : ∀ σ H Q, t' σ H Q → t σ H Q) : PO X e t' := ⟨fun pins s σ H Q I q => h.run pins s σ H Q I (i σ H Q q)⟩
theorem d_onone : PO X none (tOv c oNone) := po_none.imp fun σ H Q ⟨M, own, Γ, sd, g⟩ => g H M own Fr.refl sd
theorem d_osome {e : Expr} {f : EV} (h : PE X e (tE c f)) : PO X (some e) (tOv c (oSome f)) := (po_some h).imp fun σ H Q ⟨M, own, Γ, sd, g⟩ => by
  refine ⟨M, own, Γ, sd, ?_⟩
  unfold oSome at g
  cases e : f Γ with
  | ok s Γ' =>
    rw [e] at g
    intro v H' M' own' fr sd' rs
    obtain ⟨fg, d⟩ := s
    cases fg with
    | sh =>
      cases d with
      | int i =>
        have r : Rp c.k (hid M' H') v (.int i) := rs
        cases r
        exact ⟨i, rfl, g H' M' own' fr sd'⟩
      | _ => exact g.elim
    | _ => exact g.elim
  | exc x Γ' => rw [e] at g; exact g
  | bad => rw [e] at g; exact g
theorem tOv_bind {f : OV} {k : Option Int → Env → Rs Sl} {Q : VK} (sd : Sd c M own Γ σ H) (g : Good c M own H ((f Γ).bind k) σ Q) :
    tOv c f σ H fun o H' => ∃ M' own' Γ', Fr M own H M' own' H' ∧ Sd c M' own' Γ' σ H' ∧ Good c M' own' H' (k o Γ') σ Q := by
  refine ⟨M, own, Γ, sd, ?_⟩
  cases e : f Γ with
  | ok s Γ' =>
    rw [e] at g
    exact fun H' M' own' fr sd' => ⟨M', own', Γ', fr, sd', Good.after sd.wf fr g⟩
  | exc x Γ' => rw [e] at g; exact g
  | bad => rw [e] at g; exact g
theorem tOv_mono {f : OV} {Q Q' : Option Int → Hp → Prop} (h : ∀ o H', Q o H' → Q' o H') (t : tOv c f σ H Q) : tOv c f σ H Q' := by
  obtain ⟨M, own, Γ, sd, g⟩ := t
  refine ⟨M, own, Γ, sd, ?_⟩
  cases e : f Γ with
  | ok s Γ' => rw [e] at g; exact fun H2 M2 own2 f2 sd => h _ _ (g H2 M2 own2 f2 sd)
  | exc x Γ' => rw [e] at g; exact g
  | bad => rw [e] at g; exact g
def eSl (f : EV) (lo hi : OV) : EV := fun Γ => (f Γ).bind fun s Γ => (lo Γ).bind fun l Γ => (hi Γ).bind fun h Γ => match cur s Γ with
  | some d => lift (slF l h d) Γ
  | none => .bad
theorem sIx_whole {α : Type} (ds : List α) (lo hi : Option Int) (h : HT.sIx ds.length 0 lo = 0 ∧ HT.sIx ds.length ds.length hi = ds.length) : cutL ds lo hi = ds := by
  unfold cutL
  rw [h.1, h.2]
  simp
def rSlAll (K : PySem.W.Frag) : V → Option Int → Option Int → Hp → VK → Prop := fun x lo hi H Q => rSlL K x lo hi H Q ∨ (rSlA K x lo hi H Q ∨ rSlS x lo hi H Q)
theorem sl_all : SlR X (rSlAll X.K) := sl_list.or (sl_tupA.or sl_str)
theorem d_sl (hK : X.K = c.k.K) {a : Expr} {lo hi : Option Expr} {p2 pos : Pos} {f : EV} {l h : OV} (ha : PE X a (tE c f)) (hl : PO X lo (tOv c l)) (hh : PO X hi (tOv c h)) : PE X (.Subscript a (.Slice lo hi none p2) pos) (tE c (eSl f l h)) :=
  (pe_slice (sl_all (X := X)) ha hl hh).imp fun σ H Q ⟨M, own, Γ, sd, g0⟩ => by
    rw [hK]
    refine tE_mono (fun x H1 ⟨M1, own1, Γ1, s1, f1, sd1, r1, g1⟩ => ?_) (tE_bindR sd g0)
    refine tOv_mono (fun o H2 ⟨M2, own2, Γ2, f2, sd2, g2⟩ => ?_) (tOv_bind sd1 g1)
    refine tOv_mono (fun o' H3 ⟨M3, own3, Γ3, f3, sd3, g3⟩ => ?_) (tOv_bind sd2 g2)
    cases e : cur s1 Γ3 with
    | none => simp only [e] at g3; exact g3.elim
    | some d =>
      simp only [e] at g3
      have b := r1.bw2 sd1 (f2.trans sd1.wf f3) sd3 e
      cases q : slF o o' d with
      | none => rw [q] at g3; exact g3.elim
      | some s =>
        rw [q] at g3
        have k : Kont c M3 own3 H3 s Γ3 σ Q := g3
        unfold slF at q
        split at q
        · cases q
          obtain ⟨p, xs, rfl, h1, h2⟩ := b.list
          exact .inl ⟨p, xs, rfl, h1, fun p hp => k.lst sd3 hp (cutL_all h2)⟩
        · cases q
          obtain ⟨p, xs, rfl, h1, h2, h3⟩ := b.tuple
          refine .inr (.inl ⟨p, xs, rfl, h1, fun z => k.here sd3 ?_, fun _ p hp => k.tup sd3 hp (cutL_all h2)⟩)
          rw [sIx_whole _ _ _ (by rw [← h2.len]; exact z)]
          exact h3
        · split at q
          · rename_i hz
            cases q
            cases b.eqS
            exact .inr (.inr ⟨_, rfl, lim_le hz, k.str sd3⟩)
          · cases q
        · cases q
/-- -a -/
def negF : D → Option Sl
  | .int i => some (.sh, .int (-i))
  | _ => none
def eUn (F : D → Option Sl) (f : EV) : EV := fun Γ => (f Γ).bind fun s Γ => match cur s Γ with
  | some a => lift (F a) Γ
  | none => .bad
def UnF (c : Ck) (r : V → Hp → VK → Prop) (F : D → Option Sl) : Prop := ∀ x a M own Γ σ H Q s, Sd c M own Γ σ H → Bw c.k M H x a → F a = some s → Kont c M own H s Γ σ Q → r x H Q
theorem unF_imp {r : V → Hp → VK → Prop} {F : D → Option Sl} (hF : UnF c r F) {f : EV} : ∀ σ H Q, tE c (eUn F f) σ H Q → tUn r (tE c f) σ H Q := fun σ H Q ⟨M, own, Γ, sd, g0⟩ => by
  refine tE_mono (fun x H1 ⟨M1, own1, Γ1, s1, f1, sd1, r1, g1⟩ => ?_) (tE_bindR sd g0)
  cases e : cur s1 Γ1 with
  | none => simp only [e] at g1; exact g1.elim
  | some a =>
    simp only [e] at g1
    cases q : F a with
    | none => rw [q] at g1; exact g1.elim
    | some s => rw [q] at g1; exact hF x a M1 own1 Γ1 σ H1 Q s sd1 (r1.bw sd1 e) q g1
theorem negF_ok : UnF c (rU fun i => .int (-i)) negF := by
  intro x a M own Γ σ H Q s sd rx e k
  unfold negF at e
  split at e
  · cases e; cases rx.eqI
    exact ⟨_, rfl, k.int sd⟩
  · cases e
theorem d_neg {a : Expr} {pos : Pos} {f : EV} (ha : PE X a (tE c f)) : PE X (.UnaryOp .USub a pos) (tE c (eUn negF f)) := (pe_un un_neg ha).imp (unF_imp negF_ok)
end
end DL

namespace DL
open PySem L2
section
variable {X : Cx} {c : Ck}

/-! ### built-ins of one argument -/
theorem cb1_imp {r : List V → Hp → VK → Prop} {F : D → Option Sl} (hF : UnF c (fun x H Q => r [x] H Q) F) {f : EV} : ∀ σ H Q, tE c (eUn F f) σ H Q → tCB r (tCons (tE c f) tNil) σ H Q := fun σ H Q h => unF_imp hF σ H Q h
theorem d_b1 {id : String} {r : List V → Hp → VK → Prop} {F : D → Option Sl} {f : EV} {x : Str} {e : Expr} {p pos : Pos} (hc : CallR X (.builtin id) r) (hF : UnF c (fun x H Q => r [x] H Q) F) (hg : Gl X x) (hm : X.mg x = none) (hv : bootBuiltins x = some (.builtin id)) (ha : PE X e (tE c f))
    (hn : x ≠ "__name__" := by decide) (hdb : (x == ("__debug__" : Str)) = false := by decide) (he : starEach [e] X.env = (false, eval e X.env) :: starEach [] X.env := by rfl) : PE X (.Call (.Name x p) [e] [] pos) (tE c (eUn F f)) :=
  (pe_callB hc hg hm hv (pa_cons ha pa_nil he) hn hdb he rfl).imp (cb1_imp hF)
theorem d_t1 {T : String} {r : List V → Hp → VK → Prop} {F : D → Option Sl} {f : EV} {x : Str} {e : Expr} {p pos : Pos} (hc : CallR X (.type T) r) (hF : UnF c (fun x H Q => r [x] H Q) F) (hg : Gl X x) (hm : X.mg x = none) (hv : bootBuiltins x = some (.type T)) (ha : PE X e (tE c f))
    (hn : x ≠ "__name__" := by decide) (hdb : (x == ("__debug__" : Str)) = false := by decide) (he : starEach [e] X.env = (false, eval e X.env) :: starEach [] X.env := by rfl) : PE X (.Call (.Name x p) [e] [] pos) (tE c (eUn F f)) :=
  (pe_callTy hc hg hm hv (pa_cons ha pa_nil he) hn hdb he rfl).imp (cb1_imp hF)
def lenF : D → Option Sl
  | .list ds => some (.sh, .int ds.length)
  | .tuple ds => some (.sh, .int ds.length)
  | .str z => if z.length ≤ 1000000 then some (.sh, .int z.length) else none
  | _ => none
theorem lenF_ok : UnF c (fun x H Q => ∃ y n, [x] = [y] ∧ LenV c.k.K y H n ∧ Q (.int n) H) lenF := by
  intro x a M own Γ σ H Q s sd rx e k
  unfold lenF at e
  split at e
  · cases e
    obtain ⟨p, xs, rfl, h1, h2⟩ := rx.list
    exact ⟨_, _, rfl, .inl ⟨xs, h1, h2.len.symm⟩, k.int sd⟩
  · cases e
    obtain ⟨p, xs, rfl, h1, h2, _⟩ := rx.tuple
    exact ⟨_, _, rfl, .inr ⟨xs, h1, h2.len.symm⟩, k.int sd⟩
  · split at e
    · rename_i hz
      cases e; cases rx.eqS
      exact ⟨_, _, rfl, ⟨lim_le hz, rfl⟩, k.int sd⟩
    · cases e
  · cases e
theorem d_len (hK : X.K = c.k.K) {f : EV} {e : Expr} {p pos : Pos} (hg : Gl X "len") (hm : X.mg "len" = none) (ha : PE X e (tE c f)) (he : starEach [e] X.env = (false, eval e X.env) :: starEach [] X.env := by rfl) : PE X (.Call (.Name "len" p) [e] [] pos) (tE c (eUn lenF f)) :=
  d_b1 (call_len (X := X)) (by rw [hK]; exact lenF_ok) hg hm PySem.boot_len ha (he := he)
def boolsOf : List D → Option (List Bool)
  | [] => some []
  | .bool b :: r => (boolsOf r).map fun bs => b :: bs
  | _ :: _ => none
def intsOf : List D → Option (List Int)
  | [] => some []
  | .int b :: r => (intsOf r).map fun bs => b :: bs
  | _ :: _ => none
theorem bools_all {H : Hp} : ∀ {ds : List D} {xs : List V} {bs : List Bool}, RpAll c.k H xs ds → boolsOf ds = some bs → xs = bs.map V.bl
  | [], _, bs, .nil, e => by cases e; rfl
  | .bool b :: r, _, bs, .cons h t, e => by
    unfold boolsOf at e
    cases q : boolsOf r with
    | none => rw [q] at e; cases e
    | some cs => rw [q] at e; cases e; cases h; rw [bools_all t q]; rfl
theorem ints_all {H : Hp} : ∀ {ds : List D} {xs : List V} {bs : List Int}, RpAll c.k H xs ds → intsOf ds = some bs → xs = bs.map V.int
  | [], _, bs, .nil, e => by cases e; rfl
  | .int b :: r, _, bs, .cons h t, e => by
    unfold intsOf at e
    cases q : intsOf r with
    | none => rw [q] at e; cases e
    | some cs => rw [q] at e; cases e; cases h; rw [ints_all t q]; rfl
theorem ints_eq : ∀ {ds : List D} {bs : List Int}, intsOf ds = some bs → ds = bs.map PyData.int
  | [], bs, e => by cases e; rfl
  | .int b :: r, bs, e => by
    unfold intsOf at e
    cases q : intsOf r with
    | none => rw [q] at e; cases e
    | some cs => rw [q] at e; cases e; rw [ints_eq q]; rfl
@[simp] theorem boolsOf_map (bs : List Bool) : boolsOf (bs.map PyData.bool) = some bs := by
  induction bs with
  | nil => rfl
  | cons b r ih => show (boolsOf (r.map PyData.bool)).map _ = _; rw [ih]; rfl
@[simp] theorem intsOf_map (bs : List Int) : intsOf (bs.map PyData.int) = some bs := by
  induction bs with
  | nil => rfl
  | cons b r ih => show (intsOf (r.map PyData.int)).map _ = _; rw [ih]; rfl
def allF : D → Option Sl
  | .list ds => (boolsOf ds).map fun bs => (.sh, .bool (bs.all id))
  | _ => none
theorem allF_ok : UnF c (fun x H Q => rAll c.k.K [x] H Q) allF := by
  intro x a M own Γ σ H Q s sd rx e k
  unfold allF at e
  split at e
  · rename_i ds
    cases q : boolsOf ds with
    | none => rw [q] at e; cases e
    | some bs =>
      rw [q] at e; cases e
      obtain ⟨p, xs, rfl, h1, h2⟩ := rx.list
      cases bools_all h2 q
      exact ⟨p, bs, rfl, h1, k.bl sd⟩
  · cases e
theorem d_all (hK : X.K = c.k.K) (hc : X.calm = true) {f : EV} {e : Expr} {p pos : Pos} (hg : Gl X "all") (hm : X.mg "all" = none) (ha : PE X e (tE c f)) (he : starEach [e] X.env = (false, eval e X.env) :: starEach [] X.env := by rfl) : PE X (.Call (.Name "all" p) [e] [] pos) (tE c (eUn allF f)) :=
  d_b1 (cr_all (X := X) hc) (by rw [hK]; exact allF_ok) hg hm (by decide +kernel) ha (he := he)
def sumF : D → Option Sl
  | .list ds => (intsOf ds).map fun bs => (.sh, .int bs.sum)
  | _ => none
theorem sumF_ok : UnF c (fun x H Q => rSum c.k.K [x] H Q) sumF := by
  intro x a M own Γ σ H Q s sd rx e k
  unfold sumF at e
  split at e
  · rename_i ds
    cases q : intsOf ds with
    | none => rw [q] at e; cases e
    | some bs =>
      rw [q] at e; cases e
      obtain ⟨p, xs, rfl, h1, h2⟩ := rx.list
      cases ints_all h2 q
      exact ⟨p, bs, rfl, h1, k.int sd⟩
  · cases e
theorem d_sum (hK : X.K = c.k.K) (hc : X.calm = true) {f : EV} {e : Expr} {p pos : Pos} (hg : Gl X "sum") (hm : X.mg "sum" = none) (ha : PE X e (tE c f)) (he : starEach [e] X.env = (false, eval e X.env) :: starEach [] X.env := by rfl) : PE X (.Call (.Name "sum" p) [e] [] pos) (tE c (eUn sumF f)) :=
  d_b1 (cr_sum (X := X) hc) (by rw [hK]; exact sumF_ok) hg hm (by decide +kernel) ha (he := he)
/-! min, max of a list or a tuple of ints -/
def minF : D → Option Sl
  | .list ds => match intsOf ds with
    | some (n :: ns) => some (.sh, .int (ns.foldl min n))
    | _ => none
  | .tuple ds => match intsOf ds with
    | some (n :: ns) => some (.sh, .int (ns.foldl min n))
    | _ => none
  | _ => none
def maxF : D → Option Sl
  | .list ds => match intsOf ds with
    | some (n :: ns) => some (.sh, .int (ns.foldl max n))
    | _ => none
  | .tuple ds => match intsOf ds with
    | some (n :: ns) => some (.sh, .int (ns.foldl max n))
    | _ => none
  | _ => none
theorem alike_int (ns : List Int) : PySem.W.AlikeAll (ns.map PyData.int) := by
  refine ⟨fun x hx y hy => ?_, fun x hx => ?_⟩
  · obtain ⟨i, _, rfl⟩ := List.mem_map.mp hx
    obtain ⟨j, _, rfl⟩ := List.mem_map.mp hy
    simp [PySem.W.alike]
  · obtain ⟨i, _, rfl⟩ := List.mem_map.mp hx
    exact fun z => nomatch z
def rMinT (K : PySem.W.Frag) : List V → Hp → VK → Prop := fun vs H Q => ∃ (a : Addr) (n : Int) (ns : List Int), vs = [V.ref a] ∧ SqT K H a ((n :: ns).map V.int) ∧ Q (.int (ns.foldl min n)) H
def rMaxT (K : PySem.W.Frag) : List V → Hp → VK → Prop := fun vs H Q => ∃ (a : Addr) (n : Int) (ns : List Int), vs = [V.ref a] ∧ SqT K H a ((n :: ns).map V.int) ∧ Q (.int (ns.foldl max n)) H
theorem reads_ints {h : Heap} : ∀ {ns : List Int} {us : List Value}, Vals (ns.map V.int) us → ∃ as, ReadsAll h us (ns.map PyData.int) as
  | [], _, .nil => ⟨[], .nil⟩
  | n :: ns, _, .cons r t => by
    obtain ⟨tk, rfl⟩ := r
    obtain ⟨as, q⟩ := reads_ints (h := h) t
    exact ⟨[] ++ as, .cons (.int _ _) q⟩
theorem depth0 (ns : List Int) : PyData.depthAll (ns.map PyData.int) = 0 := by
  induction ns with
  | nil => simp [PyData.depthAll]
  | cons n r ih => show PyData.depthAll (.int n :: r.map PyData.int) = 0; rw [PyData.depthAll, ih]; simp [PyData.depth]
theorem cr_minT (hc : X.calm = true) (hu : X.A.units + 64 < cLine) : CallR X (.builtin "min") (rMinT X.K) := by
  intro pins s σ H vs us Q I r h
  obtain ⟨a, n, ns, rfl, hs, q⟩ := h
  obtain ⟨its, rv, hl, _⟩ := I.tuple hs
  rw [Vals.ref1 r]
  obtain ⟨as, ra⟩ := reads_ints (h := s.heap) rv
  refine PySem.W.min_tuple_data (x := .int n) (xs := ns.map .int) (I.ok.hd hc) (show s.heap.IsTuple a its.toArray from hl) (by simpa using ra) (alike_int (n :: ns)) (by have := depth0 (n :: ns); simp only [List.map_cons] at this; rw [this]; omega) fun i v h' tk bs _ rd hk => ?_
  rw [PySem.W.minD_ints] at rd
  cases rd
  exact ⟨.int _, H, I.kept hk, ⟨_, rfl⟩, q⟩
theorem cr_maxT (hc : X.calm = true) (hu : X.A.units + 64 < cLine) : CallR X (.builtin "max") (rMaxT X.K) := by
  intro pins s σ H vs us Q I r h
  obtain ⟨a, n, ns, rfl, hs, q⟩ := h
  obtain ⟨its, rv, hl, _⟩ := I.tuple hs
  rw [Vals.ref1 r]
  obtain ⟨as, ra⟩ := reads_ints (h := s.heap) rv
  refine PySem.W.max_tuple_data (x := .int n) (xs := ns.map .int) (I.ok.hd hc) (show s.heap.IsTuple a its.toArray from hl) (by simpa using ra) (alike_int (n :: ns)) (by have := depth0 (n :: ns); simp only [List.map_cons] at this; rw [this]; omega) fun i v h' tk bs _ rd hk => ?_
  rw [PySem.W.maxD_ints] at rd
  cases rd
  exact ⟨.int _, H, I.kept hk, ⟨_, rfl⟩, q⟩
theorem foldl_min_mem : ∀ (ns : List Int) (n : Int), ns.foldl min n ∈ n :: ns ∧ ∀ y ∈ n :: ns, ns.foldl min n ≤ y
  | [], n => by simp
  | m :: r, n => by
    obtain ⟨h1, h2⟩ := foldl_min_mem r (min n m)
    show r.foldl min (min n m) ∈ n :: m :: r ∧ _
    refine ⟨?_, fun y hy => ?_⟩
    · rcases List.mem_cons.mp h1 with h | h
      · rw [h]
        by_cases z : n ≤ m
        · rw [Int.min_eq_left z]; simp
        · rw [Int.min_eq_right (by omega)]; simp
      · simp [h]
    · have h0 : r.foldl min (min n m) ≤ min n m := h2 _ (by simp)
      show r.foldl min (min n m) ≤ y
      rcases List.mem_cons.mp hy with h | h
      · subst h; omega
      · rcases List.mem_cons.mp h with h | h
        · subst h; omega
        · exact h2 y (by simp [h])
theorem foldl_max_mem : ∀ (ns : List Int) (n : Int), ns.foldl max n ∈ n :: ns ∧ ∀ y ∈ n :: ns, y ≤ ns.foldl max n
  | [], n => by simp
  | m :: r, n => by
    obtain ⟨h1, h2⟩ := foldl_max_mem r (max n m)
    show r.foldl max (max n m) ∈ n :: m :: r ∧ _
    refine ⟨?_, fun y hy => ?_⟩
    · rcases List.mem_cons.mp h1 with h | h
      · rw [h]
        by_cases z : n ≤ m
        · rw [Int.max_eq_right z]; simp
        · rw [Int.max_eq_left (by omega)]; simp
      · simp [h]
    · have h0 : max n m ≤ r.foldl max (max n m) := h2 _ (by simp)
      show y ≤ r.foldl max (max n m)
      rcases List.mem_cons.mp hy with h | h
      · subst h; omega
      · rcases List.mem_cons.mp h with h | h
        · subst h; omega
        · exact h2 y (by simp [h])
theorem minF_ok : UnF c (fun x H Q => rMin c.k.K [x] H Q ∨ rMinT c.k.K [x] H Q) minF := by
  intro x a M own Γ σ H Q s sd rx e k
  unfold minF at e
  split at e
  · split at e
    · rename_i n ns q
      cases e
      obtain ⟨p, xs, rfl, h1, h2⟩ := rx.list
      cases ints_all h2 q
      refine .inl ⟨p, n :: ns, rfl, h1, by simp, fun m hm hle => ?_⟩
      obtain ⟨g1, g2⟩ := foldl_min_mem ns n
      have : m = ns.foldl min n := by
        have := hle _ g1
        have := g2 _ hm
        omega
      rw [this]
      exact k.int sd
    · cases e
  · split at e
    · rename_i n ns q
      cases e
      obtain ⟨p, xs, rfl, h1, h2, _⟩ := rx.tuple
      cases ints_all h2 q
      exact .inr ⟨p, n, ns, rfl, h1, k.int sd⟩
    · cases e
  · cases e
theorem maxF_ok : UnF c (fun x H Q => rMax c.k.K [x] H Q ∨ rMaxT c.k.K [x] H Q) maxF := by
  intro x a M own Γ σ H Q s sd rx e k
  unfold maxF at e
  split at e
  · split at e
    · rename_i n ns q
      cases e
      obtain ⟨p, xs, rfl, h1, h2⟩ := rx.list
      cases ints_all h2 q
      refine .inl ⟨p, n :: ns, rfl, h1, by simp, fun m hm hle => ?_⟩
      obtain ⟨g1, g2⟩ := foldl_max_mem ns n
      have : m = ns.foldl max n := by
        have := hle _ g1
        have := g2 _ hm
        omega
      rw [this]
      exact k.int sd
    · cases e
  · split at e
    · rename_i n ns q
      cases e
      obtain ⟨p, xs, rfl, h1, h2, _⟩ := rx.tuple
      cases ints_all h2 q
      exact .inr ⟨p, n, ns, rfl, h1, k.int sd⟩
    · cases e
  · cases e
theorem d_min (hK : X.K = c.k.K) (hc : X.calm = true) (hu : X.A.units + 64 < cLine) {f : EV} {e : Expr} {p pos : Pos} (hg : Gl X "min") (hm : X.mg "min" = none) (ha : PE X e (tE c f)) (he : starEach [e] X.env = (false, eval e X.env) :: starEach [] X.env := by rfl) : PE X (.Call (.Name "min" p) [e] [] pos) (tE c (eUn minF f)) :=
  d_b1 ((cr_min (X := X) hc).or (cr_minT hc hu)) (by rw [hK]; exact minF_ok) hg hm (by decide +kernel) ha (he := he)
theorem d_max (hK : X.K = c.k.K) (hc : X.calm = true) (hu : X.A.units + 64 < cLine) {f : EV} {e : Expr} {p pos : Pos} (hg : Gl X "max") (hm : X.mg "max" = none) (ha : PE X e (tE c f)) (he : starEach [e] X.env = (false, eval e X.env) :: starEach [] X.env := by rfl) : PE X (.Call (.Name "max" p) [e] [] pos) (tE c (eUn maxF f)) :=
  d_b1 ((cr_max (X := X) hc).or (cr_maxT hc hu)) (by rw [hK]; exact maxF_ok) hg hm (by decide +kernel) ha (he := he)
/-! list(x), tuple(x) -/
def listF : D → Option Sl
  | .list ds => some (.ow, .list ds)
  | .tuple ds => some (.ow, .list ds)
  | _ => none
def tupleF : D → Option Sl
  | .list ds => some (.sh, .tuple ds)
  | .tuple ds => some (.sh, .tuple ds)
  | _ => none
theorem listF_ok : UnF c (fun x H Q => ∃ p ys, [x] = [V.ref p] ∧ (SqL c.k.K H p ys ∨ SqT c.k.K H p ys) ∧ ∀ l, H l = none → Q (.ref l) (upd H l (.lst ys))) listF := by
  intro x a M own Γ σ H Q s sd rx e k
  unfold listF at e
  split at e
  · cases e
    obtain ⟨p, xs, rfl, h1, h2⟩ := rx.list
    exact ⟨p, xs, rfl, .inl h1, fun l hl => k.lst sd hl h2⟩
  · cases e
    obtain ⟨p, xs, rfl, h1, h2, _⟩ := rx.tuple
    exact ⟨p, xs, rfl, .inr h1, fun l hl => k.lst sd hl h2⟩
  · cases e
theorem tupleF_ok : UnF c (fun x H Q => ∃ p ys, [x] = [V.ref p] ∧ ((SqL c.k.K H p ys ∧ ∀ l, H l = none → Q (.ref l) (upd H l (.tup ys))) ∨ (SqT c.k.K H p ys ∧ Q (.ref p) H))) tupleF := by
  intro x a M own Γ σ H Q s sd rx e k
  unfold tupleF at e
  split at e
  · cases e
    obtain ⟨p, xs, rfl, h1, h2⟩ := rx.list
    exact ⟨p, xs, rfl, .inl ⟨h1, fun l hl => k.tup sd hl h2⟩⟩
  · cases e
    obtain ⟨p, xs, rfl, h1, h2, h3⟩ := rx.tuple
    exact ⟨p, xs, rfl, .inr ⟨h1, k.here sd h3⟩⟩
  · cases e
theorem d_list (hK : X.K = c.k.K) {f : EV} {e : Expr} {p pos : Pos} (hg : Gl X "list") (hm : X.mg "list" = none) (ha : PE X e (tE c f)) (he : starEach [e] X.env = (false, eval e X.env) :: starEach [] X.env := by rfl) : PE X (.Call (.Name "list" p) [e] [] pos) (tE c (eUn listF f)) :=
  d_t1 (call_list_of (X := X)) (by rw [hK]; exact listF_ok) hg hm (by decide +kernel) ha (he := he)
theorem d_tuple (hK : X.K = c.k.K) {f : EV} {e : Expr} {p pos : Pos} (hg : Gl X "tuple") (hm : X.mg "tuple" = none) (ha : PE X e (tE c f)) (he : starEach [e] X.env = (false, eval e X.env) :: starEach [] X.env := by rfl) : PE X (.Call (.Name "tuple" p) [e] [] pos) (tE c (eUn tupleF f)) :=
  d_t1 (call_tuple_of (X := X)) (by rw [hK]; exact tupleF_ok) hg hm (by decide +kernel) ha (he := he)

/-! ### isinstance of a built-in class -/
def tyName : D → String
  | .none => "NoneType"
  | .bool _ => "bool"
  | .int _ => "int"
  | .str _ => "str"
  | .list _ => "list"
  | .tuple _ => "tuple"
  | .dict _ => "dict"
def isiB (T : String) (d : D) : Bool := tyName d == T || (tyName d == "bool" && T == "int")
def isiF (T : String) (d : D) : Option Sl := match d with
  | .dict _ => none
  | d => some (.sh, .bool (isiB T d))
theorem Bw.ty {M : Addr → Prop} {H : Hp} {v : V} {d : D} (h : Bw c.k M H v d) (n : ∀ kvs, d ≠ .dict kvs) : TyX c.k.K H v (.type (tyName d)) := by
  have r := h.full
  cases r with
  | non => exact .base .non
  | bl b => exact .base (.bl b)
  | int i => exact .base (.int i)
  | str x => exact .base (.str x)
  | lst h1 h2 =>
    rcases h1 with (h1 | ⟨o, h1⟩) | ⟨o, its, n, h1, h3, _⟩
    · exact .base (.lst h1)
    · exact .base (.frz h1)
    · exact .kList h1 h3
  | tup h1 h2 =>
    rcases h1 with (h1 | ⟨o, h1⟩) | ⟨o, its, n, h1, h3, _⟩
    · exact .base (.tup h1)
    · exact .fTuple h1
    · exact .kTuple h1 h3
def TyOk (T : String) : Prop := ∀ a ∈ ["NoneType", "bool", "int", "str", "list", "tuple"], kitB a T = some (a == T || (a == "bool" && T == "int"))
theorem ty_int : TyOk "int" := by unfold TyOk; decide +kernel
theorem ty_bool : TyOk "bool" := by unfold TyOk; decide +kernel
theorem ty_tuple : TyOk "tuple" := by unfold TyOk; decide +kernel
theorem ty_list : TyOk "list" := by unfold TyOk; decide +kernel
theorem ty_str : TyOk "str" := by unfold TyOk; decide +kernel
theorem isiF_ok {T : String} (hT : TyOk T) : UnF c (fun x H Q => rIsi c.k.K [x, V.ty T] H Q) (isiF T) := by
  intro x a M own Γ σ H Q s sd rx e k
  unfold isiF at e
  split at e
  · cases e
  · rename_i d hd
    cases e
    refine ⟨x, .ty T, .type (tyName a), .type T, isiB T a, rfl, .ty T, rx.ty (fun kvs z => hd kvs z), kit_ty (hT _ ?_), k.bl sd⟩
    cases a <;> first | exact absurd rfl (hd _) | simp [tyName]
theorem d_isi (hK : X.K = c.k.K) {T : String} (hT : TyOk T) {x : Str} {f : EV} {e : Expr} {p p2 pos : Pos} (hg : Gl X "isinstance") (hm : X.mg "isinstance" = none) (hg2 : Gl X x) (hm2 : X.mg x = none) (hv : bootBuiltins x = some (.type T)) (ha : PE X e (tE c f))
    (hn : x ≠ "__name__" := by decide) (hdb : (x == ("__debug__" : Str)) = false := by decide)
    (he : starEach [e, .Name x p2] X.env = (false, eval e X.env) :: starEach [.Name x p2] X.env := by rfl) : PE X (.Call (.Name "isinstance" p) [e, .Name x p2] [] pos) (tE c (eUn (isiF T) f)) :=
  (pe_callB (call_isi (X := X)) hg hm (by decide +kernel) (pa_cons ha (pa_cons (pe_bltn (v := .ty T) hg2 hm2 hv rfl hn hdb) pa_nil) he) (by decide) (by decide) he rfl).imp fun σ H Q h => by
    rw [hK]; exact unF_imp (isiF_ok hT) σ H Q h

/-! ### min(a, b), max(a, b) -/
def min2F : D → D → Option Sl
  | .int i, .int j => some (.sh, .int (if j < i then j else i))
  | _, _ => none
def max2F : D → D → Option Sl
  | .int i, .int j => some (.sh, .int (if j > i then j else i))
  | _, _ => none
theorem min2F_ok : OpF c (fun x y H Q => ∃ i j, [x, y] = [.int i, .int j] ∧ Q (.int (if j < i then j else i)) H) min2F := by
  intro x y a b M own Γ σ H Q s sd rx ry e k
  unfold min2F at e
  split at e
  · cases e; cases rx.eqI; cases ry.eqI
    exact ⟨_, _, rfl, k.int sd⟩
  · cases e
theorem max2F_ok : OpF c (fun x y H Q => ∃ i j, [x, y] = [.int i, .int j] ∧ Q (.int (if j > i then j else i)) H) max2F := by
  intro x y a b M own Γ σ H Q s sd rx ry e k
  unfold max2F at e
  split at e
  · cases e; cases rx.eqI; cases ry.eqI
    exact ⟨_, _, rfl, k.int sd⟩
  · cases e
theorem d_b2 {id : String} {r : List V → Hp → VK → Prop} {F : D → D → Option Sl} {f g : EV} {x : Str} {e e2 : Expr} {p pos : Pos} (hc : CallR X (.builtin id) r) (hF : OpF c (fun x y H Q => r [x, y] H Q) F) (hg : Gl X x) (hm : X.mg x = none) (hv : bootBuiltins x = some (.builtin id)) (ha : PE X e (tE c f)) (hb : PE X e2 (tE c g))
    (hn : x ≠ "__name__" := by decide) (hdb : (x == ("__debug__" : Str)) = false := by decide) (he : starEach [e, e2] X.env = (false, eval e X.env) :: starEach [e2] X.env := by rfl) (he2 : starEach [e2] X.env = (false, eval e2 X.env) :: starEach [] X.env := by rfl) : PE X (.Call (.Name x p) [e, e2] [] pos) (tE c (eBin F f g)) :=
  (pe_callB hc hg hm hv (pa_cons ha (pa_cons hb pa_nil he2) he) hn hdb he (by rw [he2]; rfl)).imp fun σ H Q h => opF_imp hF σ H Q h
theorem d_min2 (hc : X.calm = true) {f g : EV} {e e2 : Expr} {p pos : Pos} (hg : Gl X "min") (hm : X.mg "min" = none) (ha : PE X e (tE c f)) (hb : PE X e2 (tE c g)) (he : starEach [e, e2] X.env = (false, eval e X.env) :: starEach [e2] X.env := by rfl) (he2 : starEach [e2] X.env = (false, eval e2 X.env) :: starEach [] X.env := by rfl) : PE X (.Call (.Name "min" p) [e, e2] [] pos) (tE c (eBin min2F f g)) :=
  d_b2 (call_min2 (X := X) hc) min2F_ok hg hm (by decide +kernel) ha hb (he := he) (he2 := he2)
theorem d_max2 (hc : X.calm = true) {f g : EV} {e e2 : Expr} {p pos : Pos} (hg : Gl X "max") (hm : X.mg "max" = none) (ha : PE X e (tE c f)) (hb : PE X e2 (tE c g)) (he : starEach [e, e2] X.env = (false, eval e X.env) :: starEach [e2] X.env := by rfl) (he2 : starEach [e2] X.env = (false, eval e2 X.env) :: starEach [] X.env := by rfl) : PE X (.Call (.Name "max" p) [e, e2] [] pos) (tE c (eBin max2F f g)) :=
  d_b2 (call_max2 (X := X) hc) max2F_ok hg hm (by decide +kernel) ha hb (he := he) (he2 := he2)
end
end DL

namespace DL
open PySem L2
/-! ### a slot is set -/
section
variable {c : Ck} {M M' : Addr → Prop} {own own' : Nat → Option Addr} {Γ Γ' : Env} {σ : St} {H H' : Hp}
theorem Sd.assign {i : Nat} {v : V} {d : D} (sd : Sd c M own Γ σ H) (hP : c.P i = none) (r : Rp c.k (hid M H) v d) : ∃ own', Fr M own H M own' H ∧ Sd c M own' (Γ.set i (some (false, d))) (σ.set i (some v)) H := by
  refine ⟨fun j => if j = i then none else own j, ⟨fun _ _ e _ => e, fun j p e => ?_, fun _ h => .inl h, fun _ h _ => h⟩, ⟨⟨fun j k p e1 e2 => ?_, fun j p e => ?_, sd.wf.dom⟩, by simpa using sd.len, fun j d' e => ?_, fun j d' e => ?_, fun j w e => ?_⟩⟩
  · split at e
    · cases e
    · exact .inl ⟨j, e⟩
  · split at e1
    · cases e1
    · split at e2
      · cases e2
      · exact sd.wf.inj j k p e1 e2
  · split at e
    · cases e
    · exact sd.wf.hidn j p e
  · rcases get_set e with ⟨e1, e2, e3⟩ | ⟨e1, e2⟩
    · cases e3; subst e1
      exact ⟨v, List.getElem?_set_self (by rw [← sd.len]; exact e2), r⟩
    · obtain ⟨w, q1, q2⟩ := sd.val j d' e2
      exact ⟨w, by rw [List.getElem?_set_ne (Ne.symm e1)]; exact q1, q2⟩
  · rcases get_set e with ⟨e1, e2, e3⟩ | ⟨e1, e2⟩
    · cases e3
    · obtain ⟨p, q1, q2, q3⟩ := sd.ow j d' e2
      exact ⟨p, by rw [if_neg e1]; exact q1, by rw [List.getElem?_set_ne (Ne.symm e1)]; exact q2, q3⟩
  · have ne : j ≠ i := fun z => by subst z; rw [hP] at e; cases e
    rw [List.getElem?_set_ne (Ne.symm ne)]
    exact sd.pin j w e
/-- an owned object comes into a slot -/
theorem Sd.adopt {i : Nat} {p : Addr} {d : D} (sd : Sd c M own Γ σ H) (hP : c.P i = none) (hM : M p) (no : ∀ j, own j ≠ some p) (r : RpO c.k (hid M H) H p d) :
    ∃ own', (∀ j q, own' j = some q → own j = some q ∨ q = p) ∧ Sd c M own' (Γ.set i (some (true, d))) (σ.set i (some (.ref p))) H := by
  refine ⟨fun j => if j = i then some p else own j, fun j q e => ?_, ⟨⟨fun j k q e1 e2 => ?_, fun j q e => ?_, sd.wf.dom⟩, by simpa using sd.len, fun j d' e => ?_, fun j d' e => ?_, fun j w e => ?_⟩⟩
  · dsimp only at e
    split at e
    · exact .inr (Option.some.inj e).symm
    · exact .inl e
  · split at e1
    · split at e2
      · rename_i h1 h2; rw [h1, h2]
      · cases e1; exact absurd e2 (no k)
    · split at e2
      · cases e2; exact absurd e1 (no j)
      · exact sd.wf.inj j k q e1 e2
  · split at e
    · cases e; exact hM
    · exact sd.wf.hidn j q e
  · rcases get_set e with ⟨e1, e2, e3⟩ | ⟨e1, e2⟩
    · cases e3
    · obtain ⟨w, q1, q2⟩ := sd.val j d' e2
      exact ⟨w, by rw [List.getElem?_set_ne (Ne.symm e1)]; exact q1, q2⟩
  · rcases get_set e with ⟨e1, e2, e3⟩ | ⟨e1, e2⟩
    · cases e3; subst e1
      exact ⟨p, by rw [if_pos rfl], List.getElem?_set_self (by rw [← sd.len]; exact e2), r⟩
    · obtain ⟨q, q1, q2, q3⟩ := sd.ow j d' e2
      exact ⟨q, by rw [if_neg e1]; exact q1, by rw [List.getElem?_set_ne (Ne.symm e1)]; exact q2, q3⟩
  · have ne : j ≠ i := fun z => by subst z; rw [hP] at e; cases e
    rw [List.getElem?_set_ne (Ne.symm ne)]
    exact sd.pin j w e
/-- a slot is forgotten -/
theorem Sd.forget {i : Nat} (sd : Sd c M own Γ σ H) (hP : c.P i = none) : ∃ own', (∀ j q, own' j = some q → own j = some q) ∧ Fr M own H M own' H ∧ Sd c M own' (Γ.set i none) (σ.set i none) H := by
  refine ⟨fun j => if j = i then none else own j, fun j q e => ?_, ⟨fun _ _ e _ => e, fun j p e => ?_, fun _ h => .inl h, fun _ h _ => h⟩, ⟨⟨fun j k p e1 e2 => ?_, fun j p e => ?_, sd.wf.dom⟩, by simpa using sd.len, fun j d' e => ?_, fun j d' e => ?_, fun j w e => ?_⟩⟩
  · dsimp only at e
    split at e
    · cases e
    · exact e
  · split at e
    · cases e
    · exact .inl ⟨j, e⟩
  · split at e1
    · cases e1
    · split at e2
      · cases e2
      · exact sd.wf.inj j k p e1 e2
  · split at e
    · cases e
    · exact sd.wf.hidn j p e
  · rcases get_set e with ⟨e1, e2, e3⟩ | ⟨e1, e2⟩
    · cases e3
    · obtain ⟨w, q1, q2⟩ := sd.val j d' e2
      exact ⟨w, by rw [List.getElem?_set_ne (Ne.symm e1)]; exact q1, q2⟩
  · rcases get_set e with ⟨e1, e2, e3⟩ | ⟨e1, e2⟩
    · cases e3
    · obtain ⟨p, q1, q2, q3⟩ := sd.ow j d' e2
      exact ⟨p, by rw [if_neg e1]; exact q1, by rw [List.getElem?_set_ne (Ne.symm e1)]; exact q2, q3⟩
  · have ne : j ≠ i := fun z => by subst z; rw [hP] at e; cases e
    rw [List.getElem?_set_ne (Ne.symm ne)]
    exact sd.pin j w e
end

/-! ### targets -/
abbrev GV := D → Env → Rs Unit
/-- only the slots ts differ -/
def Dif (ts : List Nat) (σ σ' : St) : Prop := σ'.length = σ.length ∧ ∀ j, j ∉ ts → σ'[j]? = σ[j]?
theorem Dif.refl (ts : List Nat) (σ : St) : Dif ts σ σ := ⟨rfl, fun _ _ => rfl⟩
theorem Dif.trans {ts us : List Nat} {σ σ1 σ2 : St} (a : Dif ts σ σ1) (b : Dif us σ1 σ2) : Dif (ts ++ us) σ σ2 := ⟨b.1.trans a.1, fun j h => by
  rw [List.mem_append, not_or] at h
  exact (b.2 j h.2).trans (a.2 j h.1)⟩
def tG (c : Ck) (ts : List Nat) (t : GV) : TG := fun v σ H Q => ∃ M own Γ d, Sd c M own Γ σ H ∧ Rp c.k (hid M H) v d ∧ match t d Γ with
  | .ok _ Γ' => ∀ σ' H' M' own', Dif ts σ σ' → Fr M own H M' own' H' → Sd c M' own' Γ' σ' H' → Q σ' H'
  | _ => False
abbrev GsV := List D → Env → Rs Unit
def tGs (c : Ck) (ts : List Nat) (t : GsV) : TGs := fun vs σ H Q => ∃ M own Γ ds, Sd c M own Γ σ H ∧ RpAll c.k (hid M H) vs ds ∧ match t ds Γ with
  | .ok _ Γ' => ∀ σ' H' M' own', Dif ts σ σ' → Fr M own H M' own' H' → Sd c M' own' Γ' σ' H' → Q σ' H'
  | _ => False
theorem _root_.L2.PG.imp {X : Cx} {e : Expr} {t t' : TG} (h : PG X e t) (i : ∀ v σ H Q, t' v σ H Q → t v σ H Q) : PG X e t' := ⟨fun pins s σ H v u Q I r q => h.run pins s σ H v u Q I r (i v σ H Q q)⟩
theorem _root_.L2.PGs.imp {X : Cx} {e : List Expr} {t t' : TGs} (h : PGs X e t) (i : ∀ v σ H Q, t' v σ H Q → t v σ H Q) : PGs X e t' := ⟨fun pins s σ H v u Q I r q => h.run pins s σ H v u Q I r (i v σ H Q q)⟩
def gV (i : Nat) : GV := fun d Γ => .ok () (Γ.set i (some (false, d)))
def gsNil : GsV := fun ds Γ => match ds with
  | [] => .ok () Γ
  | _ => .bad
def gsCons (t : GV) (u : GsV) : GsV := fun ds Γ => match ds with
  | d :: r => (t d Γ).bind fun _ Γ => u r Γ
  | [] => .bad
def gT (n : Nat) (t : GsV) : GV := fun d Γ => match d with
  | .tuple ds => if ds.length = n then t ds Γ else .bad
  | _ => .bad
section
variable {X : Cx} {c : Ck}
theorem d_gname {i : Nat} {x : Str} {pos : Pos} (h : PG X (.Name x pos) (gName i)) (hP : c.P i = none) : PG X (.Name x pos) (tG c [i] (gV i)) := h.imp fun v σ H Q ⟨M, own, Γ, d, sd, r, g⟩ => by
  obtain ⟨own', f, s⟩ := sd.assign hP r
  exact g _ _ _ _ ⟨by simp, fun j h => List.getElem?_set_ne (fun z => h (by simp [z]))⟩ f s
theorem d_gnil : PGs X [] (tGs c [] gsNil) := pgs_nil.imp fun vs σ H Q ⟨M, own, Γ, ds, sd, r, g⟩ => by
  cases r with
  | nil => exact ⟨rfl, g _ _ _ _ (Dif.refl _ _) Fr.refl sd⟩
  | cons _ _ => exact g.elim
theorem d_gcons {ts us : List Nat} {e : Expr} {es : List Expr} {t : GV} {u : GsV} (h1 : PG X e (tG c ts t)) (h2 : PGs X es (tGs c us u)) (hs : (assignEach (e :: es) X.env).map (·.2) = assign e X.env :: (assignEach es X.env).map (·.2) := by rfl) : PGs X (e :: es) (tGs c (ts ++ us) (gsCons t u)) :=
  (pgs_cons h1 h2 hs).imp fun vs σ H Q ⟨M, own, Γ, ds, sd, r, g⟩ => by
    cases r with
    | nil => exact g.elim
    | @cons v vr d dr r1 r2 =>
      refine ⟨v, vr, rfl, M, own, Γ, d, sd, r1, ?_⟩
      unfold gsCons at g
      cases e : t d Γ with
      | ok a Γ' =>
        simp only [e, Rs.bind] at g
        intro σ' H' M' own' df f s
        refine ⟨M', own', Γ', dr, s, r2.mono (f.same sd.wf), ?_⟩
        cases e2 : u dr Γ' with
        | ok a2 Γ2 =>
          rw [e2] at g
          exact fun σ2 H2 M2 own2 df2 f2 s2 => g σ2 H2 M2 own2 (df.trans df2) (f.trans sd.wf f2) s2
        | exc x Γ2 => rw [e2] at g; exact g
        | bad => rw [e2] at g; exact g
      | exc x Γ' => simp only [e, Rs.bind] at g
      | bad => simp only [e, Rs.bind] at g
theorem d_gtup (hK : X.K = c.k.K) {ts : List Nat} {es : List Expr} {k : Nat} {t : GsV} {n : Nat} {pos : Pos} (hc : X.calm = true) (h : PGs X es (tGs c ts t)) (hn : (assignEach es X.env).length = n := by rfl) (hst : (assignEach es X.env).findIdx? (·.1) = none := by rfl) : PG X (.Tuple es k pos) (tG c ts (gT n t)) :=
  (pg_tup hc h hn hst).imp fun v σ H Q ⟨M, own, Γ, d, sd, r, g⟩ => by
    unfold gT at g
    cases r with
    | tup h1 h2 =>
      simp only at g
      split at g
      · rename_i ds q
        split at q
        · rename_i hl
          rw [hK]
          refine ⟨_, _, rfl, Same.sqT hid_le h1, by rw [h2.len]; exact hl, M, own, Γ, _, sd, h2, ?_⟩
          rw [q]
          exact g
        · cases q
      · exact g.elim
    | _ => exact g.elim

/-! ### what is walked -/
abbrev IV := Env → Rs (List D)
def ItS (c : Ck) (M : Addr → Prop) (own : Nat → Option Addr) (H : Hp) (J : It) (ds : List D) : Prop :=
  ∀ M' own' H', Fr M own H M' own' H' → Wf M' own' H' → ∀ i, (∀ d, ds[i]? = some d → J.go i H' ∧ ∀ x H2, J.yld i H' x H2 → Same H' H2 ∧ Rp c.k (hid M' H2) x d) ∧ (ds.length ≤ i → J.stop i H')
def tI (c : Ck) (f : IV) : TI := fun σ H R => ∃ M own Γ, Sd c M own Γ σ H ∧ match f Γ with
  | .ok ds Γ' => ∀ J H' M' own', Fr M own H M' own' H' → Sd c M' own' Γ' σ H' → ItS c M' own' H' J ds → R J H'
  | .exc x Γ' => ∀ H' M' own' dct, Fr M own H M' own' H' → Sd c M' own' Γ' σ H' → XOk c M' H' x dct → c.W (.ref (c.k.cA x.cls)) dct σ H'
  | .bad => False
theorem _root_.L2.PI.imp {X : Cx} {tg e : Expr} {t t' : TI} (h : PI X tg e t) (i : ∀ σ H R, t' σ H R → t σ H R) : PI X tg e t' := ⟨fun pins s σ H R I q => h.run pins s σ H R I (i σ H R q)⟩
theorem keepRd {M M' : Addr → Prop} {own own' : Nat → Option Addr} {H H' : Hp} {a : Addr} {u : HO} (f : Fr M own H M' own' H') (no : ∀ i, own i ≠ some a) (h : Rd H a u) : Rd H' a u := by
  rcases h with h | ⟨o, h⟩
  · exact .inl (f.keep _ _ h no)
  · exact .inr ⟨o, f.keep _ _ h no⟩
theorem unowned {M : Addr → Prop} {own : Nat → Option Addr} {H : Hp} {a : Addr} {u : HO} (w : Wf M own H) (h : Rd (hid M H) a u) : ∀ i, own i ≠ some a := fun i z => by
  have := w.hidn i a z
  rcases h with h | ⟨o, h⟩
  · exact (hid_some.mp h).1 this
  · exact (hid_some.mp h).1 this
theorem keepT {K : PySem.W.Frag} {M M' : Addr → Prop} {own own' : Nat → Option Addr} {H H' : Hp} {a : Addr} {xs : List V} (w : Wf M own H) (f : Fr M own H M' own' H') (h : SqT K (hid M H) a xs) : SqT K H' a xs := by
  rcases h with h | h
  · exact .inl (keepRd f (unowned w h) (Same.rd hid_le h))
  · exact .inr h
theorem keepL {K : PySem.W.Frag} {M M' : Addr → Prop} {own own' : Nat → Option Addr} {H H' : Hp} {a : Addr} {xs : List V} (w : Wf M own H) (f : Fr M own H M' own' H') (h : SqL K (hid M H) a xs) : SqL K H' a xs := by
  rcases h with h | h
  · exact .inl (keepRd f (unowned w h) (Same.rd hid_le h))
  · exact .inr h
theorem its_list {M : Addr → Prop} {own : Nat → Option Addr} {H : Hp} {a : Addr} {xs : List V} {ds : List D} (w : Wf M own H) (h : SqL c.k.K (hid M H) a xs) (r : RpAll c.k (hid M H) xs ds) : ItS c M own H (Itl c.k.K a) ds := by
  intro M' own' H' f w' i
  have h' := keepL w f h
  have r' := r.mono (f.same w)
  refine ⟨fun d e => ?_, fun e => ⟨xs, h', by rw [r.len]; exact e⟩⟩
  obtain ⟨v, q1, q2⟩ := r'.get e
  refine ⟨⟨xs, v, h', q1⟩, fun x H2 y => ?_⟩
  obtain ⟨rfl, y⟩ := y
  have e2 := y xs h'
  rw [q1] at e2
  cases e2
  exact ⟨Same.refl _, q2⟩
theorem its_tup {M : Addr → Prop} {own : Nat → Option Addr} {H : Hp} {a : Addr} {xs : List V} {ds : List D} (w : Wf M own H) (h : SqT c.k.K (hid M H) a xs) (r : RpAll c.k (hid M H) xs ds) : ItS c M own H (Itt c.k.K a) ds := by
  intro M' own' H' f w' i
  have h' := keepT w f h
  have r' := r.mono (f.same w)
  refine ⟨fun d e => ?_, fun e => ⟨xs, h', by rw [r.len]; exact e⟩⟩
  obtain ⟨v, q1, q2⟩ := r'.get e
  refine ⟨⟨xs, v, h', q1⟩, fun x H2 y => ?_⟩
  obtain ⟨rfl, y⟩ := y
  have e2 := y xs h'
  rw [q1] at e2
  cases e2
  exact ⟨Same.refl _, q2⟩
def rangeD (lo st : Int) (n : Nat) : List D := (List.range n).map fun (i : Nat) => .int (lo + (i : Int) * st)
theorem its_range {M : Addr → Prop} {own : Nat → Option Addr} {H : Hp} (lo : Int) (n : Nat) : ItS c M own H (Itr lo n) (rangeD lo 1 n) := by
  intro M' own' H' f w' i
  refine ⟨fun d e => ?_, fun e => by show n ≤ i; simpa [rangeD] using e⟩
  have hi : i < n := by
    have := (List.getElem?_eq_some_iff.mp e).1
    simpa [rangeD] using this
  refine ⟨hi, fun x H2 y => ?_⟩
  obtain ⟨rfl, rfl⟩ := y
  have e2 : d = .int (lo + (i : Int)) := by
    simp [rangeD, hi] at e
    exact e.symm
  subst e2
  exact ⟨Same.refl _, .int _⟩
theorem its_rangeC {M : Addr → Prop} {own : Nat → Option Addr} {H : Hp} (lo st : Int) (n : Nat) : ItS c M own H (Itc lo st n) (rangeD lo st n) := by
  intro M' own' H' f w' i
  refine ⟨fun d e => ?_, fun e => by show n ≤ i; simpa [rangeD] using e⟩
  have hi : i < n := by
    have := (List.getElem?_eq_some_iff.mp e).1
    simpa [rangeD] using this
  refine ⟨hi, fun x H2 y => ?_⟩
  obtain ⟨rfl, rfl⟩ := y
  have e2 : d = .int (lo + (i : Int) * st) := by
    simp [rangeD, hi] at e
    exact e.symm
  subst e2
  exact ⟨Same.refl _, .int _⟩
/-- a list or a tuple -/
def iSeqR (K : PySem.W.Frag) (tl : TE) : TI := fun σ H R => tl σ H fun x H1 => ∃ a, x = .ref a ∧ ((∃ xs, SqL K H1 a xs ∧ R (Itl K a) H1) ∨ (∃ xs, SqT K H1 a xs ∧ R (Itt K a) H1))
theorem pi_seq {tg l : Expr} {tl : TE} (hl : PE X l tl) : PI X tg l (iSeqR X.K tl) := by
  refine ⟨fun pins s σ H R I h => ?_⟩
  refine thn (hl.run pins s σ H _ I h) fun v s1 ⟨x, H1, I1, r1, q1⟩ => ?_
  obtain ⟨a, e, q⟩ := q1
  subst e
  cases r1
  rcases q with ⟨xs, hq, q⟩ | ⟨xs, hq, q⟩
  · obtain ⟨its, rv, p, hz⟩ := I1.list hq
    refine wpAny_pyIter_list p.isList ?_
    refine ⟨s1.heap.objs.size, [s1.heap.objs.size], _, _, H1, rfl, I1.kept (t' := s1.toks) fun b o e => Heap.get?_push_of_some _ e, turn_list a _, ⟨_, Heap.get?_push_size _ rfl, rfl, rfl⟩, fun b hb => ?_, q⟩
    have e : b = s1.heap.objs.size := by simpa using hb
    subst e
    exact I1.fpOk (Nat.le_refl _) (I1.hok.fresh (Nat.le_refl _))
  · obtain ⟨its, rv, p, hz⟩ := I1.tuple hq
    refine wpAny_pyIter_tuple (show s1.heap.IsTuple a its.toArray from p) ?_
    refine ⟨s1.heap.objs.size, [s1.heap.objs.size], _, _, H1, rfl, I1.kept (t' := s1.toks) fun b o e => Heap.get?_push_of_some _ e, turn_tuple a _, ⟨_, Heap.get?_push_size _ rfl, rfl, rfl⟩, fun b hb => ?_, q⟩
    have e : b = s1.heap.objs.size := by simpa using hb
    subst e
    exact I1.fpOk (Nat.le_refl _) (I1.hok.fresh (Nat.le_refl _))
def iSeq (f : EV) : IV := fun Γ => (f Γ).bindV fun d Γ => match d with
  | .list ds => .ok ds Γ
  | .tuple ds => .ok ds Γ
  | _ => .bad
/-- binds for what is walked -/
def GoodI (c : Ck) (M : Addr → Prop) (own : Nat → Option Addr) (H : Hp) (r : Rs (List D)) (σ : St) (R : It → Hp → Prop) : Prop := match r with
  | .ok ds Γ' => ∀ J H' M' own', Fr M own H M' own' H' → Sd c M' own' Γ' σ H' → ItS c M' own' H' J ds → R J H'
  | .exc x Γ' => ∀ H' M' own' dct, Fr M own H M' own' H' → Sd c M' own' Γ' σ H' → XOk c M' H' x dct → c.W (.ref (c.k.cA x.cls)) dct σ H'
  | .bad => False
theorem GoodI.after {M M' : Addr → Prop} {own own' : Nat → Option Addr} {H H' : Hp} {σ : St} {r : Rs (List D)} {R : It → Hp → Prop} (w : Wf M own H) (f : Fr M own H M' own' H') (g : GoodI c M own H r σ R) : GoodI c M' own' H' r σ R := by
  cases r with
  | ok ds Γ' => exact fun J H2 M2 own2 f2 sd s => g J H2 M2 own2 (f.trans w f2) sd s
  | exc x Γ' => exact fun H2 M2 own2 dct f2 sd rs => g H2 M2 own2 dct (f.trans w f2) sd rs
  | bad => exact g
theorem tE_bindI {M : Addr → Prop} {own : Nat → Option Addr} {Γ : Env} {σ : St} {H : Hp} {f : EV} {k : D → Env → Rs (List D)} {R : It → Hp → Prop} (sd : Sd c M own Γ σ H) (g : GoodI c M own H ((f Γ).bindV k) σ R) :
    tE c f σ H fun v H' => ∃ M' own' Γ' d, Fr M own H M' own' H' ∧ Sd c M' own' Γ' σ H' ∧ Rp c.k (hid M' H') v d ∧ GoodI c M' own' H' (k d Γ') σ R := by
  refine ⟨M, own, Γ, sd, ?_⟩
  cases e : f Γ with
  | ok s Γ' =>
    rw [e] at g
    intro v H' M' own' fr sd' rs
    obtain ⟨M'', own'', fr', sd'', rp⟩ := rs.freeze sd.wf fr sd'
    exact ⟨M'', own'', _, s.2, fr', sd'', rp, GoodI.after sd.wf fr' g⟩
  | exc x Γ' => rw [e] at g; exact g
  | bad => rw [e] at g; exact g
theorem tAs_bindI {M : Addr → Prop} {own : Nat → Option Addr} {Γ : Env} {σ : St} {H : Hp} {f : Env → Rs (List D)} {k : List D → Env → Rs (List D)} {R : It → Hp → Prop} (sd : Sd c M own Γ σ H) (g : GoodI c M own H ((f Γ).bind k) σ R) :
    tAs c f σ H fun vs H' => ∃ M' own' Γ' ds, Fr M own H M' own' H' ∧ Sd c M' own' Γ' σ H' ∧ RpAll c.k (hid M' H') vs ds ∧ GoodI c M' own' H' (k ds Γ') σ R := by
  refine ⟨M, own, Γ, sd, ?_⟩
  cases e : f Γ with
  | ok s Γ' =>
    rw [e] at g
    intro v H' M' own' fr sd' rs
    exact ⟨M', own', Γ', s, fr, sd', rs, GoodI.after sd.wf fr g⟩
  | exc x Γ' => rw [e] at g; exact g
  | bad => rw [e] at g; exact g
theorem d_iseq (hK : X.K = c.k.K) {tg l : Expr} {f : EV} (hl : PE X l (tE c f)) : PI X tg l (tI c (iSeq f)) := (pi_seq hl).imp fun σ H R ⟨M, own, Γ, sd, g⟩ => by
  rw [hK]
  refine tE_mono (fun x H1 ⟨M1, own1, Γ1, d, f1, sd1, r1, g1⟩ => ?_) (tE_bindI sd g)
  cases r1 with
  | lst h1 h2 => exact ⟨_, rfl, .inl ⟨_, hid_le.seq h1, g1 _ _ _ _ Fr.refl sd1 (its_list sd1.wf h1 h2)⟩⟩
  | tup h1 h2 => exact ⟨_, rfl, .inr ⟨_, Same.sqT hid_le h1, g1 _ _ _ _ Fr.refl sd1 (its_tup sd1.wf h1 h2)⟩⟩
  | _ => exact g1.elim
def iRng1 (as : Env → Rs (List D)) : IV := fun Γ => (as Γ).bind fun ds Γ => match ds with
  | [.int j] => if -1000000000 ≤ j ∧ j ≤ 1000000000 then .ok (rangeD 0 1 j.toNat) Γ else .bad
  | _ => .bad
def iRng2 (as : Env → Rs (List D)) : IV := fun Γ => (as Γ).bind fun ds Γ => match ds with
  | [.int i, .int j] => if (-1000000000 ≤ i ∧ i ≤ 1000000000) ∧ -1000000000 ≤ j ∧ j ≤ 1000000000 then .ok (rangeD i 1 (j - i).toNat) Γ else .bad
  | _ => .bad
def iRng3 (as : Env → Rs (List D)) : IV := fun Γ => (as Γ).bind fun ds Γ => match ds with
  | [.int i, .int j, .int k] => if (k ≠ 0 ∧ k.natAbs < 1073741824) ∧ Builtin.Range.small i j k = true ∧ 0 ≤ Builtin.Range.rangeSize i j k then .ok (rangeD i k (Builtin.Range.rangeSize i j k).toNat) Γ else .bad
  | _ => .bad
theorem d_irng1 {tg a : Expr} {as : Env → Rs (List D)} {p pos : Pos} (hg : Gl X "range") (hm : X.mg "range" = none) (ha : PA X [a] (tAs c as)) (hs : starEach [a] X.env = [(false, eval a X.env)] := by rfl) : PI X tg (.Call (.Name "range" p) [a] [] pos) (tI c (iRng1 as)) :=
  (pi_range1 hg hm ha hs).imp fun σ H R ⟨M, own, Γ, sd, g⟩ => by
    refine tAs_mono (fun xs H1 ⟨M1, own1, Γ1, ds, f1, sd1, r1, g1⟩ => ?_) (tAs_bindI sd g)
    split at g1
    · rename_i j
      split at g1
      · rename_i hz
        cases r1 with
        | cons r1 r2 =>
          cases r1; cases r2
          exact ⟨j, rfl, by omega, by omega, g1 _ _ _ _ Fr.refl sd1 (its_range 0 _)⟩
      · exact g1.elim
    · exact g1.elim
theorem d_irng2 {tg a b : Expr} {as : Env → Rs (List D)} {p pos : Pos} (hg : Gl X "range") (hm : X.mg "range" = none) (ha : PA X [a, b] (tAs c as)) (hs : starEach [a, b] X.env = [(false, eval a X.env), (false, eval b X.env)] := by rfl) (hs2 : starEach [b] X.env = [(false, eval b X.env)] := by rfl) : PI X tg (.Call (.Name "range" p) [a, b] [] pos) (tI c (iRng2 as)) :=
  (pi_range2 hg hm ha hs hs2).imp fun σ H R ⟨M, own, Γ, sd, g⟩ => by
    refine tAs_mono (fun xs H1 ⟨M1, own1, Γ1, ds, f1, sd1, r1, g1⟩ => ?_) (tAs_bindI sd g)
    split at g1
    · rename_i i j
      split at g1
      · rename_i hz
        cases r1 with
        | cons r1 r2 =>
          cases r1
          cases r2 with
          | cons r3 r4 =>
            cases r3; cases r4
            exact ⟨i, j, rfl, ⟨by omega, by omega, by omega, by omega⟩, g1 _ _ _ _ Fr.refl sd1 (its_range i _)⟩
      · exact g1.elim
    · exact g1.elim
theorem d_irng3 {tg a b e : Expr} {as : Env → Rs (List D)} {p pos : Pos} (hg : Gl X "range") (hm : X.mg "range" = none) (ha : PA X [a, b, e] (tAs c as)) (hs : starEach [a, b, e] X.env = (false, eval a X.env) :: starEach [b, e] X.env := by rfl) (hpl : (backTo pos (starEach [b, e] X.env)).any (·.1) = false := by rfl) : PI X tg (.Call (.Name "range" p) [a, b, e] [] pos) (tI c (iRng3 as)) :=
  (pi_range3 hg hm ha hs hpl).imp fun σ H R ⟨M, own, Γ, sd, g⟩ => by
    refine tAs_mono (fun xs H1 ⟨M1, own1, Γ1, ds, f1, sd1, r1, g1⟩ => ?_) (tAs_bindI sd g)
    split at g1
    · rename_i i j k
      split at g1
      · rename_i hz
        cases r1 with
        | cons r1 r2 =>
          cases r1
          cases r2 with
          | cons r3 r4 =>
            cases r3
            cases r4 with
            | cons r5 r6 =>
              cases r5; cases r6
              exact ⟨i, j, k, _, rfl, ⟨hz.1.1, hz.1.2, hz.2.1, by have := hz.2.2; omega⟩, g1 _ _ _ _ Fr.refl sd1 (its_rangeC i k _)⟩
      · exact g1.elim
    · exact g1.elim
def enumD (ds : List D) : List D := (List.range ds.length).map fun (i : Nat) => .tuple [.int (i : Nat), ds.getD i .none]
def iEnum (f : EV) : IV := fun Γ => (f Γ).bindV fun d Γ => match d with
  | .list ds => .ok (enumD ds) Γ
  | _ => .bad
def zipD (as bs : List D) : List D := List.zipWith (fun a b => .tuple [a, b]) as bs
def iZip (as : Env → Rs (List D)) : IV := fun Γ => (as Γ).bind fun ds Γ => match ds with
  | [.list a, .list b] => .ok (zipD a b) Γ
  | [.tuple a, .tuple b] => .ok (zipD a b) Γ
  | _ => .bad
/-- a new pair that a walk lays -/
theorem pair_new {M : Addr → Prop} {own : Nat → Option Addr} {H : Hp} {T : Addr} {xs : List V} {ds : List D} (w : Wf M own H) (hT : H T = none) (r : RpAll c.k (hid M H) xs ds) : Same H (upd H T (.tup xs)) ∧ Rp c.k (hid M (upd H T (.tup xs))) (.ref T) (.tuple ds) :=
  ⟨same_upd hT, .tup (.inl (.inl (hid_some.mpr ⟨fun z => w.dom T z hT, upd_same⟩))) (r.mono (hid_grow (same_upd hT)))⟩
theorem its_enum {M : Addr → Prop} {own : Nat → Option Addr} {H : Hp} {a : Addr} {xs : List V} {ds : List D} (w : Wf M own H) (h : SqL c.k.K (hid M H) a xs) (r : RpAll c.k (hid M H) xs ds) : ItS c M own H (Ite c.k.K a) (enumD ds) := by
  intro M' own' H' f w' i
  have h' := keepL w f h
  have r' := r.mono (f.same w)
  refine ⟨fun d e => ?_, fun e => ⟨xs, h', by rw [r.len]; simpa [enumD] using e⟩⟩
  have hi : i < ds.length := by
    have := (List.getElem?_eq_some_iff.mp e).1
    simpa [enumD] using this
  have e2 : d = .tuple [.int (i : Nat), ds.getD i .none] := by
    simp [enumD, hi] at e
    rw [← e]
    simp [hi]
  subst e2
  obtain ⟨v, q1, q2⟩ := r'.get (i := i) (d := ds[i]) (by simp [hi])
  refine ⟨⟨xs, v, h', q1⟩, fun x H2 y => ?_⟩
  obtain ⟨T, z, rfl, hT, rfl, y⟩ := y
  have e3 := y xs h'
  rw [q1] at e3
  cases e3
  refine pair_new w' hT (.cons (.int _) (.cons ?_ .nil))
  have : ds.getD i .none = ds[i] := by simp [hi]
  rw [this]
  exact q2
theorem its_zip {M : Addr → Prop} {own : Nat → Option Addr} {H : Hp} {a b : Addr} {xs ys : List V} {ds es : List D} (w : Wf M own H) (h : SqL c.k.K (hid M H) a xs) (k : SqL c.k.K (hid M H) b ys) (r : RpAll c.k (hid M H) xs ds) (q : RpAll c.k (hid M H) ys es) : ItS c M own H (Itz c.k.K a b) (zipD ds es) := by
  intro M' own' H' f w' i
  have h' := keepL w f h
  have k' := keepL w f k
  have r' := r.mono (f.same w)
  have q' := q.mono (f.same w)
  refine ⟨fun d e => ?_, fun e => ⟨xs, ys, h', k', by rw [r.len, q.len]; simp [zipD] at e; omega⟩⟩
  have hi : i < ds.length ∧ i < es.length := by
    have := (List.getElem?_eq_some_iff.mp e).1
    simp [zipD] at this
    omega
  have e2 : d = .tuple [ds[i]'hi.1, es[i]'hi.2] := by
    have := (List.getElem?_eq_some_iff.mp e).2
    rw [← this]
    simp [zipD]
  subst e2
  obtain ⟨v, q1, q2⟩ := r'.get (i := i) (d := ds[i]'hi.1) (by simp [hi.1])
  obtain ⟨u, q3, q4⟩ := q'.get (i := i) (d := es[i]'hi.2) (by simp [hi.2])
  refine ⟨⟨xs, ys, v, u, h', k', q1, q3⟩, fun x H2 y => ?_⟩
  obtain ⟨T, z1, z2, rfl, hT, rfl, y1, y2⟩ := y
  have e3 := y1 xs h'
  have e4 := y2 ys k'
  rw [q1] at e3; rw [q3] at e4
  cases e3; cases e4
  exact pair_new w' hT (.cons q2 (.cons q4 .nil))
theorem its_zipT {M : Addr → Prop} {own : Nat → Option Addr} {H : Hp} {a b : Addr} {xs ys : List V} {ds es : List D} (w : Wf M own H) (h : SqT c.k.K (hid M H) a xs) (k : SqT c.k.K (hid M H) b ys) (r : RpAll c.k (hid M H) xs ds) (q : RpAll c.k (hid M H) ys es) : ItS c M own H (RZ.ItzT c.k.K a b) (zipD ds es) := by
  intro M' own' H' f w' i
  have h' := keepT w f h
  have k' := keepT w f k
  have r' := r.mono (f.same w)
  have q' := q.mono (f.same w)
  refine ⟨fun d e => ?_, fun e => ⟨xs, ys, h', k', by rw [r.len, q.len]; simp [zipD] at e; omega⟩⟩
  have hi : i < ds.length ∧ i < es.length := by
    have := (List.getElem?_eq_some_iff.mp e).1
    simp [zipD] at this
    omega
  have e2 : d = .tuple [ds[i]'hi.1, es[i]'hi.2] := by
    have := (List.getElem?_eq_some_iff.mp e).2
    rw [← this]
    simp [zipD]
  subst e2
  obtain ⟨v, q1, q2⟩ := r'.get (i := i) (d := ds[i]'hi.1) (by simp [hi.1])
  obtain ⟨u, q3, q4⟩ := q'.get (i := i) (d := es[i]'hi.2) (by simp [hi.2])
  refine ⟨⟨xs, ys, v, u, h', k', q1, q3⟩, fun x H2 y => ?_⟩
  obtain ⟨T, z1, z2, rfl, hT, rfl, y1, y2⟩ := y
  have e3 := y1 xs h'
  have e4 := y2 ys k'
  rw [q1] at e3; rw [q3] at e4
  cases e3; cases e4
  exact pair_new w' hT (.cons q2 (.cons q4 .nil))
theorem d_ienum (hK : X.K = c.k.K) {e : Expr} {f : EV} {p pos tpos : Pos} {elts : List Expr} {kk : Nat} (hg : Gl X "enumerate") (hm : X.mg "enumerate" = none) (ha : PE X e (tE c f)) (hs : starEach [e] X.env = (false, eval e X.env) :: starEach [] X.env := by rfl) : PI X (.Tuple elts kk tpos) (.Call (.Name "enumerate" p) [e] [] pos) (tI c (iEnum f)) :=
  (pi_enum hg hm (pa_cons ha pa_nil hs) hs).imp fun σ H R ⟨M, own, Γ, sd, g⟩ => by
    rw [hK]
    refine tE_mono (fun x H1 ⟨M1, own1, Γ1, d, f1, sd1, r1, g1⟩ => ?_) (tE_bindI sd g)
    cases r1 with
    | lst h1 h2 => exact ⟨_, _, rfl, hid_le.seq h1, g1 _ _ _ _ Fr.refl sd1 (its_enum sd1.wf h1 h2)⟩
    | _ => exact g1.elim
theorem d_izip (hK : X.K = c.k.K) {e e2 : Expr} {as : Env → Rs (List D)} {p pos tpos : Pos} {elts : List Expr} {kk : Nat} (hg : Gl X "zip") (hm : X.mg "zip" = none) (ha : PA X [e, e2] (tAs c as)) (hs : starEach [e, e2] X.env = (false, eval e X.env) :: starEach [e2] X.env := by rfl) (hpl : (backTo pos (starEach [e2] X.env)).any (·.1) = false := by rfl) : PI X (.Tuple elts kk tpos) (.Call (.Name "zip" p) [e, e2] [] pos) (tI c (iZip as)) :=
  (RZ.pi_zipA hg hm ha hs hpl).imp fun σ H R ⟨M, own, Γ, sd, g⟩ => by
    rw [hK]
    refine tAs_mono (fun xs H1 ⟨M1, own1, Γ1, ds, f1, sd1, r1, g1⟩ => ?_) (tAs_bindI sd g)
    split at g1
    · cases r1 with
      | cons r1 r2 =>
        cases r2 with
        | cons r3 r4 =>
          cases r4
          cases r1 with
          | lst h1 h2 =>
            cases r3 with
            | lst h3 h4 => exact ⟨_, _, _, _, rfl, .inl ⟨hid_le.seq h1, hid_le.seq h3, g1 _ _ _ _ Fr.refl sd1 (its_zip sd1.wf h1 h3 h2 h4)⟩⟩
    · cases r1 with
      | cons r1 r2 =>
        cases r2 with
        | cons r3 r4 =>
          cases r4
          cases r1 with
          | tup h1 h2 =>
            cases r3 with
            | tup h3 h4 => exact ⟨_, _, _, _, rfl, .inr ⟨Same.sqT hid_le h1, Same.sqT hid_le h3, g1 _ _ _ _ Fr.refl sd1 (its_zipT sd1.wf h1 h3 h2 h4)⟩⟩
    · exact g1.elim
end
end DL

namespace DL
open PySem L2
/-! ### comprehensions -/
def wipeE (Γ : Env) : List Nat → Env
  | [] => Γ
  | v :: vs => (wipeE Γ vs).set v none
def keepV (o : Option (Option (Bool × D))) : Option (Bool × D) := match o with
  | some (some (false, d)) => some (false, d)
  | _ => none
def restE (Γ Γ' : Env) : List Nat → Env
  | [] => Γ'
  | v :: vs => (restE Γ Γ' vs).set v (keepV Γ[v]?)
theorem restE_get {Γ Γ' : Env} {j : Nat} {x : Option (Bool × D)} : ∀ {vs : List Nat}, (restE Γ Γ' vs)[j]? = some x → (j ∈ vs ∧ x = keepV Γ[j]?) ∨ (j ∉ vs ∧ Γ'[j]? = some x)
  | [], h => .inr ⟨by simp, h⟩
  | v :: vs, h => by
    unfold restE at h
    rcases get_set h with ⟨e1, _, e3⟩ | ⟨e1, e2⟩
    · subst e1; exact .inl ⟨by simp, e3⟩
    · rcases restE_get e2 with ⟨q1, q2⟩ | ⟨q1, q2⟩
      · exact .inl ⟨by simp [q1], q2⟩
      · exact .inr ⟨by simp [q1, e1], q2⟩
theorem restE_length (Γ Γ' : Env) : ∀ vs : List Nat, (restE Γ Γ' vs).length = Γ'.length
  | [] => rfl
  | v :: vs => by unfold restE; rw [List.length_set, restE_length Γ Γ' vs]
theorem wipe_get {σ : St} {j : Nat} : ∀ {vs : List Nat}, j ∈ vs → j < σ.length → (wipe σ vs)[j]? = some none
  | v :: vs, h, hl => by
    unfold wipe
    by_cases e : j = v
    · subst e
      exact List.getElem?_set_self (by rw [wipe_length]; exact hl)
    · rw [List.getElem?_set_ne (Ne.symm e)]
      exact wipe_get (by simpa [e] using h) hl
theorem wipe_dif {ts vs : List Nat} {σ σ' : St} (h : Dif ts σ σ') (hs : ∀ j ∈ ts, j ∈ vs) : wipe σ' vs = wipe σ vs := by
  refine List.ext_getElem? fun j => ?_
  by_cases hj : j ∈ vs
  · by_cases hl : j < σ.length
    · rw [wipe_get hj hl, wipe_get hj (by rw [h.1]; exact hl)]
    · rw [List.getElem?_eq_none (by rw [wipe_length, h.1]; omega), List.getElem?_eq_none (by rw [wipe_length]; omega)]
  · rw [wipe_out hj, wipe_out hj]
    exact h.2 j fun z => hj (hs j z)
section
variable {c : Ck} {M M' : Addr → Prop} {own own' : Nat → Option Addr} {Γ Γ' : Env} {σ : St} {H H' : Hp}
theorem Sd.wipe : ∀ {vs : List Nat} {own : Nat → Option Addr}, Sd c M own Γ σ H → (∀ v ∈ vs, c.P v = none) → ∃ own', (∀ j q, own' j = some q → own j = some q) ∧ Fr M own H M own' H ∧ Sd c M own' (wipeE Γ vs) (L2.wipe σ vs) H
  | [], own, sd, _ => ⟨own, fun _ _ h => h, Fr.refl, sd⟩
  | v :: vs, own, sd, hP => by
    obtain ⟨own1, h1, f1, s1⟩ := Sd.wipe (vs := vs) sd fun w hw => hP w (by simp [hw])
    obtain ⟨own2, h2, f2, s2⟩ := s1.forget (i := v) (hP v (by simp))
    exact ⟨own2, fun j q e => h1 j q (h2 j q e), f1.trans sd.wf f2, s2⟩
theorem Sd.restore {vs : List Nat} (sd : Sd c M own Γ σ H) (f : Fr M own H M' own' H') (sd' : Sd c M' own' Γ' (L2.wipe σ vs) H') : Sd c M' own' (restE Γ Γ' vs) σ H' := by
  refine ⟨sd'.wf, by rw [restE_length, sd'.len, wipe_length], fun j d e => ?_, fun j d e => ?_, sd.pin⟩
  · rcases restE_get e with ⟨q1, q2⟩ | ⟨q1, q2⟩
    · have : Γ[j]? = some (some (false, d)) := by
        unfold keepV at q2
        split at q2
        · rename_i d' e'
          cases q2
          exact e'
        · cases q2
      obtain ⟨v, h1, h2⟩ := sd.val j d this
      exact ⟨v, h1, h2.mono (f.same sd.wf)⟩
    · obtain ⟨v, h1, h2⟩ := sd'.val j d q2
      rw [wipe_out q1] at h1
      exact ⟨v, h1, h2⟩
  · rcases restE_get e with ⟨q1, q2⟩ | ⟨q1, q2⟩
    · unfold keepV at q2
      split at q2
      · cases q2
      · cases q2
    · obtain ⟨p, h1, h2, h3⟩ := sd'.ow j d q2
      rw [wipe_out q1] at h2
      exact ⟨p, h1, h2, h3⟩
/-- the list that is being made -/
structure Hold (c : Ck) (M : Addr → Prop) (own : Nat → Option Addr) (H : Hp) (p : Addr) (xs : List V) (ds : List D) : Prop where
  at_ : H p = some (.lst xs)
  hidd : M p
  no : ∀ j, own j ≠ some p
  all : RpAll c.k (hid M H) xs ds
theorem Hold.fr {p : Addr} {xs : List V} {ds : List D} (w : Wf M own H) (f : Fr M own H M' own' H') (h : Hold c M own H p xs ds) : Hold c M' own' H' p xs ds :=
  ⟨f.keep _ _ h.at_ h.no, f.mge _ h.hidd h.no, fun j z => (by
    rcases f.low j p z with ⟨k, q⟩ | q
    · exact h.no k q
    · rw [h.at_] at q; cases q), h.all.mono (f.same w)⟩
theorem hid_upd {p : Addr} {o : HO} (h : M p) : hid M (upd H p o) = hid M H := by
  funext a
  unfold hid
  by_cases z : M a
  · rw [if_pos z, if_pos z]
  · rw [if_neg z, if_neg z, upd_ne (show a ≠ p from fun e => z (by rw [e]; exact h))]
theorem Sd.updHid {p : Addr} {o : HO} (sd : Sd c M own Γ σ H) (h : M p) (no : ∀ j, own j ≠ some p) : Sd c M own Γ σ (upd H p o) := by
  refine ⟨⟨sd.wf.inj, sd.wf.hidn, fun a z => ?_⟩, sd.len, fun j d e => ?_, fun j d e => ?_, sd.pin⟩
  · by_cases e : a = p
    · subst e; rw [upd_same]; exact fun q => nomatch q
    · rw [upd_ne e]; exact sd.wf.dom a z
  · rw [hid_upd h]; exact sd.val j d e
  · obtain ⟨q, h1, h2, h3⟩ := sd.ow j d e
    refine ⟨q, h1, h2, ?_⟩
    rw [hid_upd h]
    exact h3.mono (Same.refl _) fun u y => by rw [upd_ne (show q ≠ p from fun z => no j (by rw [← z]; exact h1))]; exact y
theorem Fr.updNew {p : Addr} {o : HO} (f : Fr M own H M' own' H') (h : H p = none) : Fr M own H M' own' (upd H' p o) :=
  ⟨fun a u e n => by rw [upd_ne (ne_of_none e h)]; exact f.keep a u e n, f.low, f.mle, f.mge⟩
end
def compGo (vs : List Nat) (t : GV) (cd el : EV) : List D → Env → Rs (List D)
  | [], Γ => .ok [] Γ
  | d :: ds, Γ => match t d Γ with
    | .ok _ Γ1 => match cd Γ1 with
      | .ok s Γ2 => match s.2 with
        | .bool true => match el Γ2 with
          | .ok x Γ3 => match compGo vs t cd el ds (wipeE (frz x Γ3) vs) with
            | .ok r Γ4 => .ok (x.2 :: r) Γ4
            | _ => .bad
          | _ => .bad
        | .bool false => compGo vs t cd el ds (wipeE Γ2 vs)
        | _ => .bad
      | _ => .bad
    | _ => .bad
def eComp (vs : List Nat) (it : IV) (t : GV) (cd el : EV) : EV := fun Γ => (it Γ).bind fun ds Γ1 => if ds.length ≤ 1000000 then match compGo vs t cd el ds (wipeE Γ1 vs) with
    | .ok acc Γ2 => .ok (.ow, .list acc) (restE Γ1 Γ2 vs)
    | _ => .bad
  else .bad
/-- within a comprehension nothing is raised -/
abbrev Ck.in_ (c : Ck) : Ck := { c with W := fun _ _ _ _ => False }
theorem Sd.in_ {c : Ck} {M : Addr → Prop} {own : Nat → Option Addr} {Γ : Env} {σ : St} {H : Hp} (s : Sd c M own Γ σ H) : Sd c.in_ M own Γ σ H := ⟨s.wf, s.len, s.val, s.ow, s.pin⟩
theorem Sd.out {c : Ck} {M : Addr → Prop} {own : Nat → Option Addr} {Γ : Env} {σ : St} {H : Hp} (s : Sd c.in_ M own Γ σ H) : Sd c M own Γ σ H := ⟨s.wf, s.len, s.val, s.ow, s.pin⟩
theorem comp_imp {c : Ck} {ts vs : List Nat} {it : IV} {t : GV} {cd el : EV} (hts : ∀ j ∈ ts, j ∈ vs) (hP : ∀ v ∈ vs, c.P v = none) : ∀ σ H Q, tE c (eComp vs it t cd el) σ H Q → tLc (tI c it) (tG c.in_ ts t) (tT c.in_ cd) (tE c.in_ el) vs σ H Q := by
  intro σ H Q ⟨M, own, Γ, sd, g⟩
  refine ⟨M, own, Γ, sd, ?_⟩
  unfold eComp at g
  cases e : it Γ with
  | exc x Γ1 => rw [e] at g; exact g
  | bad => rw [e] at g; exact g
  | ok ds Γ1 =>
    rw [e] at g
    simp only [Rs.bind] at g
    split at g
    case isFalse => exact g.elim
    rename_i hlen
    cases e2 : compGo vs t cd el ds (wipeE Γ1 vs) with
    | exc x Γ2 => rw [e2] at g; exact g.elim
    | bad => rw [e2] at g; exact g.elim
    | ok total Γ2 =>
    rw [e2] at g
    intro J H1 M1 own1 f1 sd1 its p hp
    refine ⟨fun i m H' => m = ds.length - i ∧ i ≤ ds.length ∧ ∃ M' own' Γ' xs acc rest, Fr M1 own1 H1 M' own' H' ∧ Sd c M' own' Γ' (wipe σ vs) H' ∧ Hold c M' own' H' p xs acc ∧ acc.length ≤ i ∧ compGo vs t cd el (ds.drop i) Γ' = .ok rest Γ2 ∧ acc ++ rest = total, ⟨ds.length, by simp, Nat.zero_le _, ?_⟩, ?_⟩
    · obtain ⟨f2, sd2, no, es⟩ := sd1.new (o := .lst []) hp
      obtain ⟨own3, h3, f3, sd3⟩ := sd2.wipe (vs := vs) hP
      exact ⟨_, own3, _, [], [], total, f2.trans sd1.wf f3, sd3, ⟨upd_same, .inr rfl, fun j z => no j (h3 j _ z), .nil⟩, Nat.le_refl _, e2, rfl⟩
    · rintro i m H' ⟨rfl, hi, M', own', Γ', xs, acc, rest, f', sd', hold, hal, ego, etot⟩
      have it' := its M' own' H' f' sd'.wf i
      by_cases hlt : i < ds.length
      · obtain ⟨go, yl⟩ := it'.1 ds[i] (by simp [hlt])
        have edrop : ds.drop i = ds[i] :: ds.drop (i + 1) := by simp
        rw [edrop] at ego
        refine .inr ⟨go, _, fun H2 n => ⟨ds.length - (i + 1), by omega, n⟩, fun x H2 y => ?_⟩
        obtain ⟨sm, rp⟩ := yl x H2 y
        have sd2 := sd'.grow sm
        have hold2 := hold.fr sd'.wf (Fr.grow sm)
        have f2 := f'.trans sd1.wf (Fr.grow (M := M') (own := own') sm)
        refine ⟨M', own', Γ', ds[i], sd2.in_, rp, ?_⟩
        unfold compGo at ego
        cases e3 : t ds[i] Γ' with
        | exc x Γ3 => rw [e3] at ego; cases ego
        | bad => rw [e3] at ego; cases ego
        | ok a Γ3 =>
          rw [e3] at ego
          simp only at ego
          intro σ3 H3 M3 own3 df f3 sd3
          have hold3 := hold2.fr sd2.wf f3
          have f3' := f2.trans sd1.wf f3
          refine ⟨wipe_dif df hts ▸ ?_, M3, own3, Γ3, sd3, ?_⟩
          · have : wipe (wipe σ vs) vs = wipe σ vs := by
              refine List.ext_getElem? fun j => ?_
              by_cases hj : j ∈ vs
              · by_cases hl : j < σ.length
                · rw [wipe_get hj hl, wipe_get hj (by rw [wipe_length]; exact hl)]
                · rw [List.getElem?_eq_none (by rw [wipe_length, wipe_length]; omega), List.getElem?_eq_none (by rw [wipe_length]; omega)]
              · rw [wipe_out hj]
            rw [this]
          have ew : wipe σ3 vs = wipe σ vs := by
            rw [wipe_dif df hts]
            refine List.ext_getElem? fun j => ?_
            by_cases hj : j ∈ vs
            · by_cases hl : j < σ.length
              · rw [wipe_get hj hl, wipe_get hj (by rw [wipe_length]; exact hl)]
              · rw [List.getElem?_eq_none (by rw [wipe_length, wipe_length]; omega), List.getElem?_eq_none (by rw [wipe_length]; omega)]
            · rw [wipe_out hj]
          cases e4 : cd Γ3 with
          | exc x Γ4 => rw [e4] at ego; cases ego
          | bad => rw [e4] at ego; cases ego
          | ok s Γ4 =>
            rw [e4] at ego
            simp only at ego
            intro v H4 M4 own4 f4 sd4 rs
            have hold4 := hold3.fr sd3.wf f4
            have f4' := f3'.trans sd1.wf f4
            obtain ⟨fg, d⟩ := s
            cases d with
            | bool k =>
              refine ⟨k, rs.bool sd4, ?_⟩
              cases k with
              | false =>
                rw [if_neg Bool.false_ne_true]
                simp only at ego
                obtain ⟨own5, h5, f5, sd5⟩ := sd4.out.wipe (vs := vs) hP
                rw [ew] at sd5
                exact ⟨rfl, hlt, M4, own5, _, xs, acc, rest, f4'.trans sd1.wf f5, sd5, hold4.fr sd4.wf f5, by omega, ego, etot⟩
              | true =>
                rw [if_pos rfl]
                simp only at ego
                refine ⟨M4, own4, Γ4, sd4, ?_⟩
                cases e5 : el Γ4 with
                | exc x Γ5 => rw [e5] at ego; cases ego
                | bad => rw [e5] at ego; cases ego
                | ok s5 Γ5 =>
                  rw [e5] at ego
                  simp only at ego
                  cases e6 : compGo vs t cd el (ds.drop (i + 1)) (wipeE (frz s5 Γ5) vs) with
                  | exc x Γ6 => rw [e6] at ego; cases ego
                  | bad => rw [e6] at ego; cases ego
                  | ok r6 Γ6 =>
                    rw [e6] at ego
                    cases ego
                    intro y H5 M5 own5 f5 sd5 rs5
                    obtain ⟨M6, own6, f6, sd6, rp6⟩ := rs5.freeze sd4.wf f5 sd5
                    have hold6 := hold4.fr sd4.wf f6
                    have f6' := f4'.trans sd1.wf f6
                    refine ⟨xs, hold6.at_, ?_, ?_⟩
                    · rw [hold6.all.len, sizeLine_eq]; omega
                    · obtain ⟨own7, h7, f7, sd7⟩ := sd6.out.wipe (vs := vs) hP
                      rw [ew] at sd7
                      have hold7 := hold6.fr sd6.wf f7
                      have f7' := f6'.trans sd1.wf f7
                      refine ⟨rfl, hlt, M6, own7, _, xs ++ [y], acc ++ [s5.2], r6, f7'.updNew hp, sd7.updHid hold7.hidd hold7.no, ⟨upd_same, hold7.hidd, hold7.no, ?_⟩, by simp; omega, e6, by rw [← etot]; simp⟩
                      rw [hid_upd hold7.hidd]
                      exact hold7.all.app (.cons (rp6.mono (f7.same sd6.wf)) .nil)
            | _ => cases ego
      · have ei : i = ds.length := by omega
        subst ei
        have : compGo vs t cd el (ds.drop ds.length) Γ' = .ok [] Γ' := by rw [List.drop_length]; rfl
        rw [this] at ego
        cases ego
        rw [List.append_nil] at etot
        subst etot
        refine .inl ⟨it'.2 (Nat.le_refl _), ?_⟩
        have fresh : H p = none ∨ ∃ j, own j = some p := by
          cases q : H p with
          | none => exact .inl rfl
          | some o =>
            by_cases z : ∃ j, own j = some p
            · exact .inr z
            · have := f1.keep p o q fun j y => z ⟨j, y⟩
              rw [hp] at this; cases this
        exact g (.ref p) H' M' own' (f1.trans sd.wf f') (Sd.restore sd1 f' sd') ⟨p, rfl, hold.hidd, hold.no, fresh, xs, hold.at_, hold.all⟩
theorem _root_.L2.PTs.imp {X : Cx} {e : List Expr} {t t' : TT} (h : PTs X e t) (i : ∀ σ H Q, t' σ H Q → t σ H Q) : PTs X e t' := ⟨fun pins s σ H Q I q => h.run pins s σ H Q I (i σ H Q q)⟩
section
variable {X : Cx} {c : Ck}
theorem d_tnil : PTs X [] (tT c (eLit (.bool true))) := pts_nil.imp fun σ H Q ⟨M, own, Γ, sd, g⟩ => by
  obtain ⟨k, e, q⟩ := g _ _ _ _ Fr.refl sd (Res.val (.bl true))
  cases e
  exact q
theorem d_tone {e : Expr} {f : EV} (h : PT X e (tT c f)) : PTs X [e] (tT c f) := pts_one h
theorem d_comp {elt tg iter : Expr} {ifs : List Expr} {scope : Scope} {own : List (Str × Nat)} {pos : Pos} {ts : List Nat} {it : IV} {t : GV} {cd el : EV} (hc : X.calm = true) (hN : X.N.Nodup) (hP : ∀ v ∈ own.map (·.2), c.P v = none) (hts : ∀ j ∈ ts, j ∈ own.map (·.2))
    (hi : PI X tg iter (tI c it)) (ok : BlkOk X.N X.env.scope scope own)
    (hg : ∀ (s : Shared) (H : Hp) (C : Addr) (cl : List (Str × Addr)) (fp : List Addr), PG (X.blk s H scope (compEnvC scope cl C X.env) fp) tg (tG c.in_ ts t)) (ht : ∀ (s : Shared) (H : Hp) (C : Addr) (cl : List (Str × Addr)) (fp : List Addr), PTs (X.blk s H scope (compEnvC scope cl C X.env) fp) ifs (tT c.in_ cd))
    (he : ∀ (s : Shared) (H : Hp) (C : Addr) (cl : List (Str × Addr)) (fp : List Addr), PE (X.blk s H scope (compEnvC scope cl C X.env) fp) elt (tE c.in_ el)) (hs : ∀ x, foldedSetIterable iter X.env x = pure x := by intro _; rfl) :
    PE X (.ListComp elt [⟨tg, iter, ifs, 0⟩] scope pos) (tE c (eComp (own.map (·.2)) it t cd el)) := (pe_lc hc hN hi ok hg ht he hs).imp (comp_imp hts hP)
end
end DL

namespace DL
open PySem L2
/-! ### statements -/
inductive Fl where
  | nx | rt (s : Sl) | bk | ct
abbrev SV := Env → Rs Fl
def GoodS (c : Ck) (M : Addr → Prop) (own : Nat → Option Addr) (H : Hp) (r : Rs Fl) (Dn : Ends) : Prop := match r with
  | .ok .nx Γ' => ∀ σ' H' M' own', Fr M own H M' own' H' → Sd c M' own' Γ' σ' H' → Dn.nx σ' H'
  | .ok .bk Γ' => ∀ σ' H' M' own', Fr M own H M' own' H' → Sd c M' own' Γ' σ' H' → Dn.bk σ' H'
  | .ok .ct Γ' => ∀ σ' H' M' own', Fr M own H M' own' H' → Sd c M' own' Γ' σ' H' → Dn.ct σ' H'
  | .ok (.rt s) Γ' => ∀ v σ' H' M' own', Fr M own H M' own' H' → Sd c M' own' Γ' σ' H' → Res c M own H M' own' H' Γ' σ' s v → Dn.rt v H'
  | .exc x Γ' => ∀ σ' H' M' own' dct, Fr M own H M' own' H' → Sd c M' own' Γ' σ' H' → XOk c M' H' x dct → c.W (.ref (c.k.cA x.cls)) dct σ' H'
  | .bad => False
def tS (c : Ck) (g : SV) : TS := fun Dn σ H => ∃ M own Γ, Sd c M own Γ σ H ∧ GoodS c M own H (g Γ) Dn
section
variable {c : Ck} {M M' : Addr → Prop} {own own' : Nat → Option Addr} {Γ Γ' : Env} {σ : St} {H H' : Hp}
theorem GoodS.after {r : Rs Fl} {Dn : Ends} (w : Wf M own H) (f : Fr M own H M' own' H') (g : GoodS c M own H r Dn) : GoodS c M' own' H' r Dn := by
  cases r with
  | ok fl Γ' =>
    cases fl with
    | nx => exact fun σ2 H2 M2 own2 f2 sd => g σ2 H2 M2 own2 (f.trans w f2) sd
    | bk => exact fun σ2 H2 M2 own2 f2 sd => g σ2 H2 M2 own2 (f.trans w f2) sd
    | ct => exact fun σ2 H2 M2 own2 f2 sd => g σ2 H2 M2 own2 (f.trans w f2) sd
    | rt s => exact fun v σ2 H2 M2 own2 f2 sd rs => g v σ2 H2 M2 own2 (f.trans w f2) sd (rs.pre f)
  | exc x Γ' => exact fun σ2 H2 M2 own2 dct f2 sd rs => g σ2 H2 M2 own2 dct (f.trans w f2) sd rs
  | bad => exact g
theorem GoodS.ends {r : Rs Fl} {Dn Dm : Ends} (h1 : ∀ σ H, Dn.nx σ H → Dm.nx σ H) (h2 : ∀ v H, Dn.rt v H → Dm.rt v H) (h3 : ∀ σ H, Dn.bk σ H → Dm.bk σ H) (h4 : ∀ σ H, Dn.ct σ H → Dm.ct σ H) (g : GoodS c M own H r Dn) : GoodS c M own H r Dm := by
  cases r with
  | ok fl Γ' =>
    cases fl with
    | nx => exact fun σ2 H2 M2 own2 f2 sd => h1 _ _ (g σ2 H2 M2 own2 f2 sd)
    | bk => exact fun σ2 H2 M2 own2 f2 sd => h3 _ _ (g σ2 H2 M2 own2 f2 sd)
    | ct => exact fun σ2 H2 M2 own2 f2 sd => h4 _ _ (g σ2 H2 M2 own2 f2 sd)
    | rt s => exact fun v σ2 H2 M2 own2 f2 sd rs => h2 _ _ (g v σ2 H2 M2 own2 f2 sd rs)
  | exc x Γ' => exact g
  | bad => exact g
/-- binds into a statement -/
theorem tE_bindS {f : EV} {k : D → Env → Rs Fl} {Dn : Ends} (sd : Sd c M own Γ σ H) (g : GoodS c M own H ((f Γ).bindV k) Dn) :
    tE c f σ H fun v H' => ∃ M' own' Γ' d, Fr M own H M' own' H' ∧ Sd c M' own' Γ' σ H' ∧ Rp c.k (hid M' H') v d ∧ GoodS c M' own' H' (k d Γ') Dn := by
  refine ⟨M, own, Γ, sd, ?_⟩
  cases e : f Γ with
  | ok s Γ' =>
    rw [e] at g
    intro v H' M' own' fr sd' rs
    obtain ⟨M'', own'', fr', sd'', rp⟩ := rs.freeze sd.wf fr sd'
    exact ⟨M'', own'', _, s.2, fr', sd'', rp, GoodS.after sd.wf fr' g⟩
  | exc x Γ' => rw [e] at g; exact fun H' M' own' dct f s x => g σ H' M' own' dct f s x
  | bad => rw [e] at g; exact g
theorem tE_bindSR {f : EV} {k : Sl → Env → Rs Fl} {Dn : Ends} (sd : Sd c M own Γ σ H) (g : GoodS c M own H ((f Γ).bind k) Dn) :
    tE c f σ H fun v H' => ∃ M' own' Γ' s, Fr M own H M' own' H' ∧ Sd c M' own' Γ' σ H' ∧ Res c M own H M' own' H' Γ' σ s v ∧ GoodS c M own H (k s Γ') Dn := by
  refine ⟨M, own, Γ, sd, ?_⟩
  cases e : f Γ with
  | ok s Γ' =>
    rw [e] at g
    intro v H' M' own' fr sd' rs
    exact ⟨M', own', Γ', s, fr, sd', rs, g⟩
  | exc x Γ' => rw [e] at g; exact fun H' M' own' dct f s x => g σ H' M' own' dct f s x
  | bad => rw [e] at g; exact g
theorem tAs_bindS {f : Env → Rs (List D)} {k : List D → Env → Rs Fl} {Dn : Ends} (sd : Sd c M own Γ σ H) (g : GoodS c M own H ((f Γ).bind k) Dn) :
    tAs c f σ H fun vs H' => ∃ M' own' Γ' ds, Fr M own H M' own' H' ∧ Sd c M' own' Γ' σ H' ∧ RpAll c.k (hid M' H') vs ds ∧ GoodS c M' own' H' (k ds Γ') Dn := by
  refine ⟨M, own, Γ, sd, ?_⟩
  cases e : f Γ with
  | ok s Γ' =>
    rw [e] at g
    intro v H' M' own' fr sd' rs
    exact ⟨M', own', Γ', s, fr, sd', rs, GoodS.after sd.wf fr g⟩
  | exc x Γ' => rw [e] at g; exact fun H' M' own' dct f s x => g σ H' M' own' dct f s x
  | bad => rw [e] at g; exact g
/-- the name of a slot is forgotten (its object goes on) -/
theorem Sd.drop {i : Nat} (sd : Sd c M own Γ σ H) : ∃ own', (∀ j q, own' j = some q → own j = some q ∧ j ≠ i) ∧ Fr M own H M own' H ∧ Sd c M own' (Γ.set i none) σ H := by
  refine ⟨fun j => if j = i then none else own j, fun j q e => ?_, ⟨fun _ _ e _ => e, fun j p e => ?_, fun _ h => .inl h, fun _ h _ => h⟩, ⟨⟨fun j k p e1 e2 => ?_, fun j p e => ?_, sd.wf.dom⟩, by simpa using sd.len, fun j d' e => ?_, fun j d' e => ?_, sd.pin⟩⟩
  · dsimp only at e
    split at e
    · cases e
    · rename_i h; exact ⟨e, h⟩
  · split at e
    · cases e
    · exact .inl ⟨j, e⟩
  · split at e1
    · cases e1
    · split at e2
      · cases e2
      · exact sd.wf.inj j k p e1 e2
  · split at e
    · cases e
    · exact sd.wf.hidn j p e
  · rcases get_set e with ⟨e1, e2, e3⟩ | ⟨e1, e2⟩
    · cases e3
    · exact sd.val j d' e2
  · rcases get_set e with ⟨e1, e2, e3⟩ | ⟨e1, e2⟩
    · cases e3
    · obtain ⟨p, q1, q2, q3⟩ := sd.ow j d' e2
      exact ⟨p, by rw [if_neg e1]; exact q1, q2, q3⟩
end
def sNx : SV := fun Γ => .ok .nx Γ
def sSeq (g h : SV) : SV := fun Γ => match g Γ with
  | .ok .nx Γ' => h Γ'
  | r => r
def sIf (h : EV) (f g : SV) : SV := fun Γ => (h Γ).bind fun s Γ => match s.2 with
  | .bool true => f Γ
  | .bool false => g Γ
  | _ => .bad
def sExpr (f : EV) : SV := fun Γ => (f Γ).bindV fun _ Γ => .ok .nx Γ
def sRet (f : EV) : SV := fun Γ => (f Γ).bind fun s Γ => match s.1 with
  | .bo i => .ok (.rt (.ow, s.2)) (Γ.set i none)
  | _ => .ok (.rt s) Γ
def sAsg (i : Nat) (f : EV) : SV := fun Γ => (f Γ).bindV fun d Γ => .ok .nx (Γ.set i (some (false, d)))
/-- the new object of its own comes into the slot as an owned one -/
def sAsgO (i : Nat) (f : EV) : SV := fun Γ => (f Γ).bind fun s Γ => match s.1 with
  | .ow => .ok .nx (Γ.set i (some (true, s.2)))
  | _ => .bad
def sAsgG (t : GV) (f : EV) : SV := fun Γ => (f Γ).bindV fun d Γ => match t d Γ with
  | .ok _ Γ' => .ok .nx Γ'
  | _ => .bad
def sPar (i j : Nat) (as : Env → Rs (List D)) : SV := fun Γ => (as Γ).bind fun ds Γ => match ds with
  | [a, b] => .ok .nx ((Γ.set i (some (false, a))).set j (some (false, b)))
  | _ => .bad
section
variable {X : Cx} {c : Ck}
theorem d_nil : PSs X [] (tS c sNx) := pss_nil.imp fun Dn σ H ⟨M, own, Γ, sd, g⟩ => g σ H M own Fr.refl sd
theorem d_one' {st : Stmt} {g : SV} (h : PS X st (tS c g)) : PSs X [st] (tS c g) := pss_one h
theorem d_cons {st : Stmt} {rest : List Stmt} {g h : SV} (h1 : PS X st (tS c g)) (h2 : PSs X rest (tS c h)) : PSs X (st :: rest) (tS c (sSeq g h)) := (pss_cons h1 h2).imp fun Dn σ H ⟨M, own, Γ, sd, g0⟩ => by
  refine ⟨M, own, Γ, sd, ?_⟩
  unfold sSeq at g0
  cases e : g Γ with
  | ok fl Γ' =>
    rw [e] at g0
    cases fl with
    | nx => exact fun σ' H' M' own' f sd' => ⟨M', own', Γ', sd', GoodS.after sd.wf f g0⟩
    | bk => exact g0
    | ct => exact g0
    | rt s => exact g0
  | exc x Γ' => rw [e] at g0; exact g0
  | bad => rw [e] at g0; exact g0
theorem d_pass {pos : Pos} : PS X (.Pass pos) (tS c sNx) := ps_pass.imp fun Dn σ H ⟨M, own, Γ, sd, g⟩ => g σ H M own Fr.refl sd
theorem d_expr {e : Expr} {pos : Pos} {f : EV} (he : PE X e (tE c f)) (hs : swapsWith e none pos.line X.env = pure false := by rfl) : PS X (.Expr e pos) (tS c (sExpr f)) := (ps_expr he hs).imp fun Dn σ H ⟨M, own, Γ, sd, g⟩ => by
  refine tE_mono (fun v H1 ⟨M1, own1, Γ1, d, f1, sd1, r1, g1⟩ => ?_) (tE_bindS sd g)
  exact g1 σ H1 M1 own1 Fr.refl sd1
theorem d_ret {e : Expr} {pos : Pos} {f : EV} (he : PE X e (tE c f)) : PS X (.Return (some e) pos) (tS c (sRet f)) := (ps_ret he).imp fun Dn σ H ⟨M, own, Γ, sd, g⟩ => by
  refine tE_mono (fun v H1 ⟨M1, own1, Γ1, s, f1, sd1, r1, g1⟩ => ?_) (tE_bindSR sd g)
  obtain ⟨fg, d⟩ := s
  cases fg with
  | sh => exact g1 v σ H1 M1 own1 f1 sd1 r1
  | ow => exact g1 v σ H1 M1 own1 f1 sd1 r1
  | bo i =>
    obtain ⟨h1, h2⟩ := r1
    have h1 : Γ1[i]? = some (some (true, d)) := h1
    obtain ⟨p, q1, q2, q3⟩ := sd1.ow i d h1
    rw [h2] at q2
    cases q2
    obtain ⟨own2, h3, f2, sd2⟩ := sd1.drop (i := i)
    refine g1 _ σ H1 M1 own2 (f1.trans sd.wf f2) sd2 ⟨p, rfl, sd1.wf.hidn i p q1, fun j z => ?_, ?_, q3⟩
    · obtain ⟨z1, z2⟩ := h3 j p z
      exact z2 (sd1.wf.inj j i p z1 q1)
    · rcases f1.low i p q1 with z | z
      · exact .inr z
      · exact .inl z
theorem d_retN {pos : Pos} : PS X (.Return none pos) (tS c (sRet (eLit .none))) := ps_retN.imp fun Dn σ H ⟨M, own, Γ, sd, g⟩ => g .non σ H M own Fr.refl sd (Res.val .non)
theorem d_if {t : Expr} {a b : List Stmt} {pos : Pos} {h : EV} {f g : SV} (ht : PT X t (tT c h)) (ha : PSs X a (tS c f)) (hb : PSs X b (tS c g)) : PS X (.If t a b pos) (tS c (sIf h f g)) := (ps_if ht ha hb).imp fun Dn σ H ⟨M, own, Γ, sd, g0⟩ => by
  refine tE_mono (fun v H1 ⟨M1, own1, Γ1, s, f1, sd1, r1, g1⟩ => ?_) (tE_bindSR sd g0)
  obtain ⟨fg, d⟩ := s
  cases d with
  | bool k =>
    refine ⟨k, r1.bool sd1, ?_⟩
    cases k with
    | true => exact ⟨M1, own1, Γ1, sd1, GoodS.after sd.wf f1 g1⟩
    | false => exact ⟨M1, own1, Γ1, sd1, GoodS.after sd.wf f1 g1⟩
  | _ => exact g1.elim
theorem asg_imp {i : Nat} {f : EV} {te : TE} (hP : c.P i = none) (h : ∀ σ H Q, tE c f σ H Q → te σ H Q) : ∀ Dn σ H, tS c (sAsg i f) Dn σ H → tAsg te (gName i) Dn σ H := fun Dn σ H ⟨M, own, Γ, sd, g⟩ => by
  refine h σ H _ (tE_mono (fun v H1 ⟨M1, own1, Γ1, d, f1, sd1, r1, g1⟩ => ?_) (tE_bindS sd g))
  obtain ⟨own2, f2, sd2⟩ := sd1.assign hP r1
  exact g1 _ _ _ _ f2 sd2
theorem asgO_imp {i : Nat} {f : EV} {te : TE} (hP : c.P i = none) (h : ∀ σ H Q, tE c f σ H Q → te σ H Q) : ∀ Dn σ H, tS c (sAsgO i f) Dn σ H → tAsg te (gName i) Dn σ H := fun Dn σ H ⟨M, own, Γ, sd, g⟩ => by
  refine h σ H _ (tE_mono (fun v H1 ⟨M1, own1, Γ1, s, f1, sd1, r1, g1⟩ => ?_) (tE_bindSR sd g))
  obtain ⟨fg, d⟩ := s
  cases fg with
  | sh => exact g1.elim
  | bo j => exact g1.elim
  | ow =>
    obtain ⟨p, rfl, h1, h2, h3, h4⟩ := r1
    obtain ⟨own2, h5, sd2⟩ := sd1.adopt hP h1 h2 h4
    refine g1 _ _ _ own2 ⟨f1.keep, fun j q e => ?_, f1.mle, f1.mge⟩ sd2
    rcases h5 j q e with z | z
    · exact f1.low j q z
    · subst z
      rcases h3 with z | z
      · exact .inr z
      · exact .inl z
theorem d_asg {i : Nat} {x : Str} {e : Expr} {pos pos' : Pos} {f : EV} (hN : X.N.Nodup) (hi : X.N[i]? = some x) (hx : Loc X.env.scope x) (hP : c.P i = none) (he : PE X e (tE c f)) (hs : swapsWith e (some (.Name x pos')) pos.line X.env = pure false := by rfl) (hf : X.fn x = true ∨ X.env.scope.names.lookup x = some .local := by first | exact .inl rfl | exact .inr rfl | assumption) :
    PS X (.Assign [.Name x pos'] e pos) (tS c (sAsg i f)) := (ps_set hN hi hx he hs hf).imp (asg_imp hP fun _ _ _ h => h)
theorem d_asgO {i : Nat} {x : Str} {e : Expr} {pos pos' : Pos} {f : EV} (hN : X.N.Nodup) (hi : X.N[i]? = some x) (hx : Loc X.env.scope x) (hP : c.P i = none) (he : PE X e (tE c f)) (hs : swapsWith e (some (.Name x pos')) pos.line X.env = pure false := by rfl) (hf : X.fn x = true ∨ X.env.scope.names.lookup x = some .local := by first | exact .inl rfl | exact .inr rfl | assumption) :
    PS X (.Assign [.Name x pos'] e pos) (tS c (sAsgO i f)) := (ps_set hN hi hx he hs hf).imp (asgO_imp hP fun _ _ _ h => h)
theorem d_setLc {i : Nat} {y : Str} {py : Pos} {elt tg iter : Expr} {ifs : List Expr} {scope : Scope} {own : List (Str × Nat)} {pos spos : Pos} {ts : List Nat} {it : IV} {t : GV} {cd el : EV} (hc : X.calm = true) (hN : X.N.Nodup) (hy : X.N[i]? = some y) (hyl : X.env.scope.names.lookup y = some .local)
    (hsw : swapsWith (.ListComp elt [⟨tg, iter, ifs, 0⟩] scope pos) (some (.Name y py)) spos.line X.env = pure true) (hPi : c.P i = none) (hP : ∀ v ∈ own.map (·.2), c.P v = none) (hts : ∀ j ∈ ts, j ∈ own.map (·.2)) (hi : PI X tg iter (tI c it)) (ok : BlkOk X.N X.env.scope scope own)
    (hg : ∀ (s : Shared) (H : Hp) (C : Addr) (cl : List (Str × Addr)) (fp : List Addr), PG (X.blk s H scope (compEnvC scope cl C X.env) fp) tg (tG c.in_ ts t)) (ht : ∀ (s : Shared) (H : Hp) (C : Addr) (cl : List (Str × Addr)) (fp : List Addr), PTs (X.blk s H scope (compEnvC scope cl C X.env) fp) ifs (tT c.in_ cd))
    (he : ∀ (s : Shared) (H : Hp) (C : Addr) (cl : List (Str × Addr)) (fp : List Addr), PE (X.blk s H scope (compEnvC scope cl C X.env) fp) elt (tE c.in_ el)) (hs : ∀ x, foldedSetIterable iter X.env x = pure x := by intro _; rfl) :
    PS X (.Assign [.Name y py] (.ListComp elt [⟨tg, iter, ifs, 0⟩] scope pos) spos) (tS c (sAsg i (eComp (own.map (·.2)) it t cd el))) := (ps_setLc hc hN hy hyl hsw hi ok hg ht he hs).imp (asg_imp hPi (comp_imp hts hP))
theorem d_setLcO {i : Nat} {y : Str} {py : Pos} {elt tg iter : Expr} {ifs : List Expr} {scope : Scope} {own : List (Str × Nat)} {pos spos : Pos} {ts : List Nat} {it : IV} {t : GV} {cd el : EV} (hc : X.calm = true) (hN : X.N.Nodup) (hy : X.N[i]? = some y) (hyl : X.env.scope.names.lookup y = some .local)
    (hsw : swapsWith (.ListComp elt [⟨tg, iter, ifs, 0⟩] scope pos) (some (.Name y py)) spos.line X.env = pure true) (hPi : c.P i = none) (hP : ∀ v ∈ own.map (·.2), c.P v = none) (hts : ∀ j ∈ ts, j ∈ own.map (·.2)) (hi : PI X tg iter (tI c it)) (ok : BlkOk X.N X.env.scope scope own)
    (hg : ∀ (s : Shared) (H : Hp) (C : Addr) (cl : List (Str × Addr)) (fp : List Addr), PG (X.blk s H scope (compEnvC scope cl C X.env) fp) tg (tG c.in_ ts t)) (ht : ∀ (s : Shared) (H : Hp) (C : Addr) (cl : List (Str × Addr)) (fp : List Addr), PTs (X.blk s H scope (compEnvC scope cl C X.env) fp) ifs (tT c.in_ cd))
    (he : ∀ (s : Shared) (H : Hp) (C : Addr) (cl : List (Str × Addr)) (fp : List Addr), PE (X.blk s H scope (compEnvC scope cl C X.env) fp) elt (tE c.in_ el)) (hs : ∀ x, foldedSetIterable iter X.env x = pure x := by intro _; rfl) :
    PS X (.Assign [.Name y py] (.ListComp elt [⟨tg, iter, ifs, 0⟩] scope pos) spos) (tS c (sAsgO i (eComp (own.map (·.2)) it t cd el))) := (ps_setLc hc hN hy hyl hsw hi ok hg ht he hs).imp (asgO_imp hPi (comp_imp hts hP))
theorem d_asgG {ts : List Nat} {tg e : Expr} {pos : Pos} {f : EV} {t : GV} (he : PE X e (tE c f)) (hg : PG X tg (tG c ts t)) (hs : swapsWithSole [tg] e pos.line X.env = pure false := by rfl) (hw : swappedStores [tg] e X.env = pure none := by rfl)
    (h1 : (assignEach [tg] X.env).map (·.2) = [assign tg X.env] := by rfl) : PS X (.Assign [tg] e pos) (tS c (sAsgG t f)) := (ps_asg he hg hs hw h1).imp fun Dn σ H ⟨M, own, Γ, sd, g⟩ => by
  refine tE_mono (fun v H1 ⟨M1, own1, Γ1, d, f1, sd1, r1, g1⟩ => ?_) (tE_bindS sd g)
  refine ⟨M1, own1, Γ1, d, sd1, r1, ?_⟩
  cases e : t d Γ1 with
  | ok a Γ2 => rw [e] at g1; exact fun σ' H' M' own' _ f s => g1 σ' H' M' own' f s
  | exc x Γ2 => rw [e] at g1; exact g1.elim
  | bad => rw [e] at g1; exact g1.elim
theorem d_par {i j : Nat} {x y : Str} {a b : Expr} {as : Env → Rs (List D)} {px py pt pos : Pos} {kt k2 pt2} (hc : X.calm = true) (hN : X.N.Nodup) (hi : X.N[i]? = some x) (hj : X.N[j]? = some y) (hij : i ≠ j)
    (hx : X.env.scope.names.lookup x = some .local) (hy : X.env.scope.names.lookup y = some .local) (hPi : c.P i = none) (hPj : c.P j = none) (ha : PA X [a, b] (tAs c as))
    (hw : swappedStores [.Tuple [.Name x px, .Name y py] kt pt] (.Tuple [a, b] k2 pt2) X.env = pure (some [x, y]))
    (hs : swapsWithSole [.Tuple [.Name x px, .Name y py] kt pt] (.Tuple [a, b] k2 pt2) pos.line X.env = pure false := by rfl) :
    PS X (.Assign [.Tuple [.Name x px, .Name y py] kt pt] (.Tuple [a, b] k2 pt2) pos) (tS c (sPar i j as)) := (ps_par hc hN hi hj hij hx hy ha hw hs).imp fun Dn σ H ⟨M, own, Γ, sd, g⟩ => by
  refine tAs_mono (fun vs H1 ⟨M1, own1, Γ1, ds, f1, sd1, r1, g1⟩ => ?_) (tAs_bindS sd g)
  split at g1
  · cases r1 with
    | cons r1 r2 =>
      cases r2 with
      | cons r3 r4 =>
        cases r4
        obtain ⟨own2, f2, sd2⟩ := sd1.assign hPi r1
        obtain ⟨own3, f3, sd3⟩ := sd2.assign hPj r3
        exact ⟨_, _, rfl, g1 _ _ _ _ (f2.trans sd1.wf f3) sd3⟩
  · exact g1.elim
/-! ### loops -/
def forGo (t : GV) (body : SV) : List D → Env → Rs Fl
  | [], Γ => .ok .nx Γ
  | d :: ds, Γ => match t d Γ with
    | .ok _ Γ1 => match body Γ1 with
      | .ok .nx Γ2 => forGo t body ds Γ2
      | .ok .ct Γ2 => forGo t body ds Γ2
      | .ok .bk Γ2 => .ok .nx Γ2
      | r => r
    | _ => .bad
def sFor (it : IV) (t : GV) (body : SV) : SV := fun Γ => (it Γ).bind fun ds Γ => forGo t body ds Γ
theorem d_for {ts : List Nat} {tg iter : Expr} {body : List Stmt} {pos : Pos} {it : IV} {t : GV} {g : SV} (hp : PassesOwn (model X.prog X.w) X.A X.env X.xe) (hc : X.calm = true) (hi : PI X tg iter (tI c it)) (hg : PG X tg (tG c ts t)) (hb : PSs X body (tS c g))
    (hs : ∀ x, foldedSetIterable iter X.env x = pure x := by intro _; rfl) : PS X (.For tg iter body [] pos) (tS c (sFor it t g)) := (ps_for hp hc hi hg hb hs).imp fun Dn σ H ⟨M, own, Γ, sd, g0⟩ => by
  refine ⟨M, own, Γ, sd, ?_⟩
  unfold sFor at g0
  cases e : it Γ with
  | exc x Γ1 => rw [e] at g0; exact fun H' M' own' dct f s x => g0 σ H' M' own' dct f s x
  | bad => rw [e] at g0; exact g0
  | ok ds Γ1 =>
    rw [e] at g0
    simp only [Rs.bind] at g0
    intro J H1 M1 own1 f1 sd1 its
    have g0 := GoodS.after sd.wf f1 g0
    refine ⟨fun i m σ H => m = ds.length - i ∧ i ≤ ds.length ∧ ∃ M own Γ, Fr M1 own1 H1 M own H ∧ Sd c M own Γ σ H ∧ GoodS c M1 own1 H1 (forGo t g (ds.drop i) Γ) Dn, ⟨ds.length, by simp, Nat.zero_le _, M1, own1, Γ1, Fr.refl, sd1, g0⟩, ?_⟩
    rintro i m σ2 H2 ⟨rfl, hi, M2, own2, Γ2, f2, sd2, g2⟩
    have it' := its M2 own2 H2 f2 sd2.wf i
    by_cases hlt : i < ds.length
    · obtain ⟨go, yl⟩ := it'.1 ds[i] (by simp [hlt])
      have edrop : ds.drop i = ds[i] :: ds.drop (i + 1) := by simp
      rw [edrop] at g2
      unfold forGo at g2
      refine .inr ⟨go, _, fun σ3 H3 n => ⟨ds.length - (i + 1), by omega, n⟩, fun x H3 y => ?_⟩
      obtain ⟨sm, rp⟩ := yl x H3 y
      have sd3 := sd2.grow sm
      have f3 := f2.trans sd1.wf (Fr.grow (M := M2) (own := own2) sm)
      refine ⟨M2, own2, Γ2, ds[i], sd3, rp, ?_⟩
      cases e3 : t ds[i] Γ2 with
      | exc x Γ3 => rw [e3] at g2; exact g2
      | bad => rw [e3] at g2; exact g2
      | ok a Γ3 =>
        rw [e3] at g2
        simp only at g2
        intro σ4 H4 M4 own4 _ f4 sd4
        have f4' := f3.trans sd1.wf f4
        refine ⟨M4, own4, Γ3, sd4, ?_⟩
        cases e4 : g Γ3 with
        | exc x Γ4 => rw [e4] at g2; exact GoodS.after sd1.wf f4' g2
        | bad => rw [e4] at g2; exact g2
        | ok fl Γ4 =>
          rw [e4] at g2
          cases fl with
          | nx => exact fun σ5 H5 M5 own5 f5 sd5 => ⟨rfl, hlt, M5, own5, Γ4, f4'.trans sd1.wf f5, sd5, g2⟩
          | ct => exact fun σ5 H5 M5 own5 f5 sd5 => ⟨rfl, hlt, M5, own5, Γ4, f4'.trans sd1.wf f5, sd5, g2⟩
          | bk => exact GoodS.after sd1.wf f4' g2
          | rt s => exact GoodS.after sd1.wf f4' g2
    · have ei : i = ds.length := by omega
      subst ei
      rw [List.drop_length] at g2
      exact .inl ⟨it'.2 (Nat.le_refl _), g2 σ2 H2 M2 own2 f2 sd2⟩
def whileGo (h : EV) (body : SV) : Nat → Env → Rs Fl
  | 0, _ => .bad
  | n + 1, Γ => match h Γ with
    | .ok s Γ1 => match s.2 with
      | .bool true => match body Γ1 with
        | .ok .nx Γ2 => whileGo h body n Γ2
        | .ok .ct Γ2 => whileGo h body n Γ2
        | .ok .bk Γ2 => .ok .nx Γ2
        | r => r
      | .bool false => .ok .nx Γ1
      | _ => .bad
    | .exc x Γ1 => .exc x Γ1
    | .bad => .bad
theorem d_while (n : Nat) {t : Expr} {body : List Stmt} {pos : Pos} {h : EV} {g : SV} (hp : PassesOwn (model X.prog X.w) X.A X.env X.xe) (ht : PT X t (tT c h)) (hb : PSs X body (tS c g)) : PS X (.While t body [] pos) (tS c (whileGo h g n)) := (ps_while hp ht hb).imp fun Dn σ H ⟨M, own, Γ, sd, g0⟩ => by
  refine ⟨fun m σ' H' => ∃ M' own' Γ', Fr M own H M' own' H' ∧ Sd c M' own' Γ' σ' H' ∧ GoodS c M own H (whileGo h g m Γ') Dn, ⟨n, M, own, Γ, Fr.refl, sd, g0⟩, ?_⟩
  rintro m σ1 H1 ⟨M1, own1, Γ1, f1, sd1, g1⟩
  refine ⟨M1, own1, Γ1, sd1, ?_⟩
  cases m with
  | zero => exact g1.elim
  | succ m =>
    unfold whileGo at g1
    cases e : h Γ1 with
    | exc x Γ2 => rw [e] at g1; exact fun H' M' own' dct f s x => g1 σ1 H' M' own' dct (f1.trans sd.wf f) s x
    | bad => rw [e] at g1; exact g1
    | ok s Γ2 =>
      rw [e] at g1
      simp only at g1
      intro v H2 M2 own2 f2 sd2 rs
      have f2' := f1.trans sd.wf f2
      obtain ⟨fg, d⟩ := s
      cases d with
      | bool k =>
        refine ⟨k, rs.bool sd2, ?_⟩
        cases k with
        | false =>
          rw [if_neg Bool.false_ne_true]
          exact g1 σ1 H2 M2 own2 f2' sd2
        | true =>
          rw [if_pos rfl]
          simp only at g1
          refine ⟨_, fun σ3 H3 n => ⟨m, Nat.lt_succ_self m, n⟩, M2, own2, Γ2, sd2, ?_⟩
          cases e4 : g Γ2 with
          | exc x Γ4 => rw [e4] at g1; exact GoodS.after sd.wf f2' g1
          | bad => rw [e4] at g1; exact g1
          | ok fl Γ4 =>
            rw [e4] at g1
            cases fl with
            | nx => exact fun σ5 H5 M5 own5 f5 sd5 => ⟨M5, own5, Γ4, f2'.trans sd.wf f5, sd5, g1⟩
            | ct => exact fun σ5 H5 M5 own5 f5 sd5 => ⟨M5, own5, Γ4, f2'.trans sd.wf f5, sd5, g1⟩
            | bk => exact GoodS.after sd.wf f2' g1
            | rt s => exact GoodS.after sd.wf f2' g1
      | _ => exact g1.elim
end
end DL

namespace DL
open PySem L2
/-! ### defs: plain data in, plain data out -/
inductive R0 where
  | ok (s : Sl) | exc (x : Exn) | bad
abbrev own0 : Nat → Option Addr := fun _ => none
def XOk0 (k : Kc) (M : Addr → Prop) (H : Hp) (x : Exn) (dct : Option Addr) : Prop := match x.fs with
  | [] => dct = none
  | fs => ∃ dd vs, dct = some dd ∧ H dd = some (.xd ((fs.map (·.1)).zip vs)) ∧ RpAll k (hid M H) vs (fs.map (·.2))
/-- a result that leaves a def -/
def Res0 (k : Kc) (H : Hp) (M' : Addr → Prop) (H' : Hp) (s : Sl) (v : V) : Prop := match s.1 with
  | .sh => Rp k (hid M' H') v s.2
  | .ow => ∃ p, v = .ref p ∧ M' p ∧ H p = none ∧ RpO k (hid M' H') H' p s.2
  | .bo _ => False
def spV (k : Kc) (n : Nat) (F : List D → R0) : Sp := fun vs H Q E => vs.length = n ∧ ∃ M ds, (∀ a, M a → H a ≠ none) ∧ RpAll k (hid M H) vs ds ∧ match F ds with
  | .ok s => ∀ v H' M', Fr M own0 H M' own0 H' → (∀ a, M' a → H' a ≠ none) → Res0 k H M' H' s v → Q v H'
  | .exc x => ∀ H' M' dct, Fr M own0 H M' own0 H' → (∀ a, M' a → H' a ≠ none) → XOk0 k M' H' x dct → E (.ref (k.cA x.cls)) dct H'
  | .bad => False
def startE (n : Nat) (ds : List D) : Env := ds.map (fun d => some (false, d)) ++ List.replicate (n - ds.length) none
def finF (n : Nat) (g : SV) : List D → R0 := fun ds => match g (startE n ds) with
  | .ok .nx _ => .ok (.sh, .none)
  | .ok (.rt s) _ => match s.1 with
    | .bo _ => .bad
    | _ => .ok s
  | .exc x _ => .exc x
  | _ => .bad
theorem wf0 {M : Addr → Prop} {H : Hp} (h : ∀ a, M a → H a ≠ none) : Wf M own0 H := ⟨fun _ _ _ z => (nomatch z), fun _ _ z => (nomatch z), h⟩
theorem sd_start {c : Ck} {M : Addr → Prop} {H : Hp} {N : List Str} {vs : List V} {ds : List D} (hP : c.P = fun _ => none) (hd : ∀ a, M a → H a ≠ none) (r : RpAll c.k (hid M H) vs ds) : Sd c M own0 (startE N.length ds) (L2.start N vs) H := by
  have hl := r.len
  refine ⟨wf0 hd, by simp [startE, L2.start, hl], fun i d e => ?_, fun i d e => ?_, fun i v e => by rw [hP] at e; cases e⟩
  · unfold startE at e
    by_cases hi : i < ds.length
    · rw [List.getElem?_append_left (by simpa using hi)] at e
      simp only [List.getElem?_map] at e
      cases q : ds[i]? with
      | none => rw [q] at e; cases e
      | some d' =>
        rw [q] at e
        have e' : d' = d := by simpa using e
        subst e'
        obtain ⟨v, q1, q2⟩ := r.get q
        refine ⟨v, ?_, q2⟩
        unfold L2.start
        rw [List.getElem?_append_left (by simpa [hl] using hi), List.getElem?_map, q1]
        rfl
    · rw [List.getElem?_append_right (by simpa using Nat.le_of_not_lt hi)] at e
      rw [List.getElem?_replicate] at e
      split at e <;> cases e
  · unfold startE at e
    by_cases hi : i < ds.length
    · rw [List.getElem?_append_left (by simpa using hi)] at e
      simp only [List.getElem?_map] at e
      cases q : ds[i]? with
      | none => rw [q] at e; cases e
      | some d' => rw [q] at e; simp at e
    · rw [List.getElem?_append_right (by simpa using Nat.le_of_not_lt hi)] at e
      rw [List.getElem?_replicate] at e
      split at e <;> cases e
/-- the fixed things of a def's body -/
abbrev ckOf (k : Kc) (E : XK) : Ck := ⟨k, fun cls d _ H => E cls d H, fun _ => none⟩
section
variable {P : Program} {w : World} {mg : Str → Option Value} {base : Heap}
theorem fnV {kc : Kc} {x qual : Str} {st : Stmt} {f : Addr} {fd : FuncData} {N ps : List Str} {k : Nat} {g : SV} (F : Fun kc.K x qual st f fd) (S : FnScope N ps (defScope st))
    (hb : ∀ (cdv : Value) (A : Around) (outer : List PySem.Env) (s : Shared) (H : Hp) (E : XK), Room k (A.deeper (PyProof.Rows.envOfC qual (defScope st) s.heap.objs.size f cdv)) →
      PSs (cxOf (L2.CX P w) P w kc.K mg base N qual (defScope st) f cdv A outer s H E) (defBody st) (tS (ckOf kc E) g)) : FnOk P w kc.K mg base (L2.CX P w) (k + 1) f fd ps (spV kc ps.length (finF N.length g)) := by
  refine F.okX S (fun vs H Q E h => h.1) fun cdv A outer s H vs Q E hr h => ?_
  obtain ⟨hl, M, ds, hd, r, hF⟩ := h
  refine ⟨_, hb cdv A outer s H E hr, M, own0, startE N.length ds, sd_start (c := ckOf kc E) rfl hd r, ?_⟩
  unfold finF at hF
  have toF : ∀ {M' own' H'}, Fr M own0 H M' own' H' → Fr M own0 H M' own0 H' := fun f => ⟨f.keep, fun _ _ z => (nomatch z), f.mle, f.mge⟩
  cases e : g (startE N.length ds) with
  | exc x Γ' => rw [e] at hF; exact fun σ' H' M' own' dct f s xo => hF H' M' dct (toF f) s.wf.dom xo
  | bad => rw [e] at hF; exact hF
  | ok fl Γ' =>
    rw [e] at hF
    cases fl with
    | nx => exact fun σ' H' M' own' f s => hF .non H' M' (toF f) s.wf.dom .non
    | bk => exact hF.elim
    | ct => exact hF.elim
    | rt sl =>
      obtain ⟨fg, d⟩ := sl
      cases fg with
      | bo i => exact hF.elim
      | sh => exact fun v σ' H' M' own' f s rs => hF v H' M' (toF f) s.wf.dom rs
      | ow =>
        intro v σ' H' M' own' f s rs
        obtain ⟨p, h0, h1, h2, h3, h4⟩ := rs
        refine hF v H' M' (toF f) s.wf.dom ⟨p, h0, h1, ?_, h4⟩
        rcases h3 with z | ⟨_, z⟩
        · exact z
        · cases z
end
/-! ### calls -/
def R0.at_ (r : R0) (Γ : Env) : Rs Sl := match r with
  | .ok s => .ok s Γ
  | .exc x => .exc x Γ
  | .bad => .bad
@[simp] theorem at_ok (s : Sl) (Γ : Env) : (R0.ok s).at_ Γ = .ok s Γ := rfl
@[simp] theorem at_exc (x : Exn) (Γ : Env) : (R0.exc x).at_ Γ = .exc x Γ := rfl
@[simp] theorem at_bad (Γ : Env) : R0.bad.at_ Γ = .bad := rfl
def eCall (F : List D → R0) (as : Env → Rs (List D)) : EV := fun Γ => (as Γ).bind fun ds Γ => (F ds).at_ Γ
section
variable {X : Cx} {c : Ck}
/-- behind a call of plain data -/
theorem after0 {M M' : Addr → Prop} {own : Nat → Option Addr} {Γ : Env} {σ : St} {H H' : Hp} (sd : Sd c M own Γ σ H) (f : Fr M own0 H M' own0 H') (dm : ∀ a, M' a → H' a ≠ none) : Fr M own H M' own H' ∧ Sd c M' own Γ σ H' := by
  have kp : Same H H' := fun a o h => f.keep a o h fun _ z => nomatch z
  have f' : Fr M own H M' own H' := ⟨fun a o h _ => kp a o h, fun i p h => .inl ⟨i, h⟩, f.mle, fun a h _ => f.mge a h fun _ z => nomatch z⟩
  have es := f'.same sd.wf
  exact ⟨f', ⟨sd.wf.inj, fun i p h => f.mge p (sd.wf.hidn i p h) (fun _ z => (nomatch z)), dm⟩, sd.len, fun i d h => let ⟨v, h1, h2⟩ := sd.val i d h; ⟨v, h1, h2.mono es⟩,
    fun i d h => let ⟨p, h1, h2, h3⟩ := sd.ow i d h; ⟨p, h1, h2, h3.mono es fun o q => kp p o q⟩, sd.pin⟩
theorem call_imp {F : List D → R0} {as : Env → Rs (List D)} {n : Nat} {dvs : List V} {dds : List D} (hn : ∀ Γ ds Γ', as Γ = .ok ds Γ' → (ds ++ dds).length = n) (hdv : ∀ H, RpAll c.k H dvs dds) :
    ∀ σ H Q, tE c (eCall (fun ds => F (ds ++ dds)) as) σ H Q → tCallSD (spV c.k n F) dvs (WE c.W) (tAs c as) σ H Q := fun σ H Q ⟨M, own, Γ, sd, g⟩ => by
  refine ⟨M, own, Γ, sd, ?_⟩
  unfold eCall at g
  cases e : as Γ with
  | exc x Γ1 => rw [e] at g; exact g
  | bad => rw [e] at g; exact g
  | ok ds Γ1 =>
    rw [e] at g
    simp only [Rs.bind] at g
    intro vs H1 M1 own1 f1 sd1 r1
    have r2 : RpAll c.k (hid M1 H1) (vs ++ dvs) (ds ++ dds) := r1.app (hdv _)
    refine ⟨by rw [r2.len]; exact hn _ _ _ e, M1, ds ++ dds, sd1.wf.dom, r2, ?_⟩
    cases e2 : F (ds ++ dds) with
    | bad => rw [e2] at g; exact g
    | exc x =>
      rw [e2] at g
      intro H2 M2 dct f2 dm xo
      obtain ⟨f2', sd2⟩ := after0 sd1 f2 dm
      exact g H2 M2 own1 dct (f1.trans sd.wf f2') sd2 xo
    | ok s =>
      rw [e2] at g
      intro v H2 M2 f2 dm rs
      obtain ⟨f2', sd2⟩ := after0 sd1 f2 dm
      refine Good.after sd.wf f1 g v H2 M2 own1 f2' sd2 ?_
      obtain ⟨fg, d⟩ := s
      cases fg with
      | sh => exact rs
      | bo i => exact (show False from rs).elim
      | ow =>
        obtain ⟨p, h0, h1, h2, h3⟩ := rs
        exact ⟨p, h0, h1, fun i z => sd1.wf.dom p (sd1.wf.hidn i p z) h2, .inl h2, h3⟩
/-- f(e, ..); dds: the defaults that fill up -/
theorem d_call {k n : Nat} {f : Addr} {fd : FuncData} {ps : List Str} {F : List D → R0} {x : Str} {p pos : Pos} {e : Expr} {es : List Expr} {as : Env → Rs (List D)} {dvs : List V} {dvals : List Value} {dds : List D} (hK : X.K = c.k.K) (G : FnOk X.prog X.w X.K X.mg X.base (L2.CX X.prog X.w) k f fd ps (spV c.k n F)) (hr : Room k X.A) (tk : Takes X c.W) (hg : Gl X x) (hm : X.mg x = some (.ref f)) (hk : PySem.W.keepIn X.K (.ref f) = true)
    (hb : Binds X.K fd ps dvals) (hd : Vals dvs dvals) (hdv : ∀ H, RpAll c.k H dvs dds) (ha : PA X (e :: es) (tAs c as)) (hn : ∀ Γ ds Γ', as Γ = .ok ds Γ' → (ds ++ dds).length = n)
    (hdb : (x == ("__debug__" : Str)) = false := by decide) (he : starEach (e :: es) X.env = (false, eval e X.env) :: starEach es X.env := by rfl) (hpl : (backTo pos (starEach es X.env)).any (·.1) = false := by rfl) :
    PE X (.Call (.Name x p) (e :: es) [] pos) (tE c (eCall (fun ds => F (ds ++ dds)) as)) :=
  (pe_callSD G hr hg hm hk hb hd (fun σ => passAt tk σ) ha hdb he hpl).imp (call_imp hn hdv)
theorem len_nil {dds : List D} : ∀ Γ ds Γ', aNil Γ = .ok ds Γ' → (ds ++ dds).length = dds.length := fun Γ ds Γ' e => by cases e; simp
theorem len_cons {f : EV} {g : Env → Rs (List D)} {dds : List D} {n : Nat} (h : ∀ Γ ds Γ', g Γ = .ok ds Γ' → (ds ++ dds).length = n) : ∀ Γ ds Γ', aCons f g Γ = .ok ds Γ' → (ds ++ dds).length = n + 1 := fun Γ ds Γ' e => by
  unfold aCons at e
  cases q : f Γ with
  | ok s Γ1 =>
    rw [q] at e
    simp only [Rs.bindV] at e
    cases q2 : g (frz s Γ1) with
    | ok r Γ2 =>
      rw [q2] at e
      simp only [Rs.bind] at e
      cases e
      have := h _ _ _ q2
      simp at this ⊢
      omega
    | exc x Γ2 => rw [q2] at e; cases e
    | bad => rw [q2] at e; cases e
  | exc x Γ1 => rw [q] at e; cases e
  | bad => rw [q] at e; cases e
/-! ### raise of a class without fields -/
def sRaise (k : Nat) : SV := fun Γ => .exc ⟨k, []⟩ Γ
theorem d_raise {k : Nat} {e : Expr} {pos : Pos} (hc : X.calm = true) (tk : Takes X c.W) (he : PMk X e (fun _ H Q => Q (.ref (c.k.cA k)) none H)) : PS X (.Raise (some e) none pos) (tS c (sRaise k)) := (ps_raise hc tk he).imp fun Dn σ H ⟨M, own, Γ, sd, g⟩ => g σ H M own none Fr.refl sd rfl
/-! ### try: .. except C as n: .. -/
/-- suite: by the exception -/
def sTry (i : Nat) (sub : Nat → Bool) (body : SV) (suite : Exn → SV) : SV := fun Γ => match body Γ with
  | .exc x Γ1 => if sub x.cls = true then (if i < Γ1.length then match suite x (Γ1.set i none) with
      | .ok .nx Γ2 => .ok .nx (Γ2.set i none)
      | .ok .bk Γ2 => .ok .bk (Γ2.set i none)
      | .ok .ct Γ2 => .ok .ct (Γ2.set i none)
      | .ok (.rt (.bo _, _)) _ => .bad
      | .ok (.rt s) Γ2 => .ok (.rt s) Γ2
      | _ => .bad
      else .bad)
    else .exc x Γ1
  | r => r
/-- the context of the suite: slot i holds the exception's object -/
abbrev Ck.su (c : Ck) (i : Nat) (a : Addr) : Ck := { c with W := fun _ _ _ _ => False, P := fun j => if j = i then some (.ref a) else c.P j }
theorem _root_.L2.PSs.ex {ι : Type} {X : Cx} {st : List Stmt} {t : ι → TS} {p : ι → Prop} (h : ∀ i, p i → PSs X st (t i)) : PSs X st (fun D σ H => ∃ i, p i ∧ t i D σ H) := ⟨fun pins s σ H D I ⟨i, hp, q⟩ => (h i hp).run pins s σ H D I q⟩
theorem Sd.enter {M : Addr → Prop} {own : Nat → Option Addr} {Γ : Env} {σ : St} {H : Hp} {i : Nat} {a : Addr} (sd : Sd c M own Γ σ H) (hP : c.P i = none) (hi : i < σ.length) : ∃ own', Fr M own H M own' H ∧ Sd (c.su i a) M own' (Γ.set i none) (σ.set i (some (.ref a))) H := by
  obtain ⟨own', h1, f, s⟩ := sd.forget (i := i) hP
  refine ⟨own', f, s.wf, by simpa using s.len, fun j d e => ?_, fun j d e => ?_, fun j v e => ?_⟩
  · obtain ⟨v, q1, q2⟩ := s.val j d e
    rcases get_set e with ⟨_, _, e3⟩ | ⟨e1, _⟩
    · cases e3
    · rw [List.getElem?_set_ne (Ne.symm e1)] at q1
      exact ⟨v, by rw [List.getElem?_set_ne (Ne.symm e1)]; exact q1, q2⟩
  · obtain ⟨p, q1, q2, q3⟩ := s.ow j d e
    rcases get_set e with ⟨_, _, e3⟩ | ⟨e1, _⟩
    · cases e3
    · rw [List.getElem?_set_ne (Ne.symm e1)] at q2
      exact ⟨p, q1, by rw [List.getElem?_set_ne (Ne.symm e1)]; exact q2, q3⟩
  · dsimp only at e
    split at e
    · rename_i hj
      subst hj
      cases e
      exact List.getElem?_set_self hi
    · rename_i hj
      rw [List.getElem?_set_ne (Ne.symm hj)]
      exact sd.pin j v e
theorem Sd.leave {M : Addr → Prop} {own : Nat → Option Addr} {Γ : Env} {σ : St} {H : Hp} {i : Nat} {a : Addr} (sd : Sd (c.su i a) M own Γ σ H) (hP : c.P i = none) : ∃ own', Fr M own H M own' H ∧ Sd c M own' (Γ.set i none) (σ.set i none) H := by
  obtain ⟨own', h1, f, s⟩ := sd.drop (i := i)
  refine ⟨own', f, s.wf, by simpa using s.len, fun j d e => ?_, fun j d e => ?_, fun j v e => ?_⟩
  · obtain ⟨v, q1, q2⟩ := s.val j d e
    rcases get_set e with ⟨_, _, e3⟩ | ⟨e1, _⟩
    · cases e3
    · exact ⟨v, by rw [List.getElem?_set_ne (Ne.symm e1)]; exact q1, q2⟩
  · obtain ⟨p, q1, q2, q3⟩ := s.ow j d e
    rcases get_set e with ⟨_, _, e3⟩ | ⟨e1, _⟩
    · cases e3
    · exact ⟨p, q1, by rw [List.getElem?_set_ne (Ne.symm e1)]; exact q2, q3⟩
  · have ne : j ≠ i := fun z => by subst z; rw [hP] at e; cases e
    rw [List.getElem?_set_ne (Ne.symm ne)]
    exact sd.pin j v (by show (if j = i then some (V.ref a) else c.P j) = some v; rw [if_neg ne]; exact e)
/-- an except clause: the exception x, its own dict at d -/
def tXs (c : Ck) (i : Nat) (suite : Exn → SV) (a : Addr) (cls : Value) (d : Option Addr) : TS := fun Dn σ H => ∃ x : Exn, (cls = .ref (c.k.cA x.cls) ∧ (x.fs = [] → d = none)) ∧ tS (c.su i a) (suite x) Dn σ H
theorem d_tryAs {x n : Str} {i : Nat} {C : Addr} {body suite : List Stmt} {b₀ : Stmt} {np pos pos' : Pos} {sub : Nat → Bool} {g : SV} {su : Exn → SV} (hs : X.stack = X.env :: X.outer) (hf : X.env.frame = some X.env.locals) (hN : X.N.Nodup) (hi : X.N[i]? = some n) (hln : X.env.kindOf n = some .local) (hP : c.P i = none) (hc : Names X x (.ref C)) (hK : X.K = c.k.K) (tk : Takes X c.W)
    (hsub : ∀ k, PySem.W.exmOne c.k.K (.ref (c.k.cA k)) (.ref C) = some (sub k)) (hlen : X.N.length = X.N.length)
    (hb : ∀ (W : WX) (pn : List (Addr × Obj)) (xe : Value → Shared → Prop), Takes (X.tr pn xe) W → PassesOwn (model X.prog X.w) X.A X.env xe → PSs (X.tr pn xe) body (tS { c with W := W } g))
    (hsu : ∀ (a : Addr) (oe : Obj) (x : Exn) (d : Option Addr) (pn : List (Addr × Obj)), (x.fs = [] → d = none) → Zc (.ref (c.k.cA x.cls)) d oe → (∃ vs, oe.data = .fields vs) → PSs (X.suite a ((a, oe) :: pn)) (b₀ :: suite) (tS (c.su i a) (su x))) :
    PS X (.Try body [.ExceptHandler (some (.Name x np)) (some n) (b₀ :: suite) pos'] [] [] pos) (tS c (sTry i sub g su)) := by
  refine ⟨fun pins s σ H D I h => ?_⟩
  have hiσ : i < X.N.length := (List.getElem?_eq_some_iff.mp hi).1
  have base := ps_try_as (X := X) (i := i) (c := .ref C) (x := x) (n := n) (np := np) (pos := pos) (pos' := pos') (b₀ := b₀) (suite := suite) (body := body) (tb := fun W => tS { c with W := W } g) (ts := fun a cls d => tXs c i su a cls d) (Wout := c.W) hs hf hN hi hln hc tk hb
    (fun a oe cls d pn hz hfl => L2.PSs.ex fun x ⟨e, hd⟩ => by subst e; exact hsu a oe x d pn hd hz hfl)
  refine base.run pins s σ H D I ?_
  have hσl : σ.length = X.N.length := I.len
  obtain ⟨M, own, Γ, sd, g0⟩ := h
  refine ⟨M, own, Γ, ⟨sd.wf, sd.len, sd.val, sd.ow, sd.pin⟩, ?_⟩
  unfold sTry at g0
  cases e : g Γ with
  | bad => rw [e] at g0; exact g0
  | ok fl Γ1 =>
    rw [e] at g0
    cases fl with
    | nx => exact fun σ' H' M' own' f s => g0 σ' H' M' own' f ⟨s.wf, s.len, s.val, s.ow, s.pin⟩
    | bk => exact fun σ' H' M' own' f s => g0 σ' H' M' own' f ⟨s.wf, s.len, s.val, s.ow, s.pin⟩
    | ct => exact fun σ' H' M' own' f s => g0 σ' H' M' own' f ⟨s.wf, s.len, s.val, s.ow, s.pin⟩
    | rt sl => exact fun v σ' H' M' own' f s rs => g0 v σ' H' M' own' f ⟨s.wf, s.len, s.val, s.ow, s.pin⟩ rs
  | exc x Γ1 =>
    rw [e] at g0
    simp only at g0
    intro σ1 H1 M1 own1 dct f1 sd1' xo
    have sd1 : Sd c M1 own1 Γ1 σ1 H1 := ⟨sd1'.wf, sd1'.len, sd1'.val, sd1'.ow, sd1'.pin⟩
    show ∃ b, PySem.W.exmOne X.K _ _ = some b ∧ _
    rw [hK]
    refine ⟨sub x.cls, hsub x.cls, fun hb1 a ha => ?_, fun hb1 => ?_⟩
    · rw [if_pos hb1] at g0
      refine ⟨x, ⟨rfl, fun z => ?_⟩, ?_⟩
      · unfold XOk at xo
        rw [z] at xo
        exact xo
      split at g0
      case isFalse => exact g0.elim
      rename_i hl1
      obtain ⟨own2, f2, sd2⟩ := sd1.enter (a := a) hP (by rw [← sd1.len]; exact hl1)
      refine ⟨M1, own2, _, sd2, ?_⟩
      have f2' := f1.trans sd.wf f2
      cases e2 : su x (Γ1.set i none) with
      | bad => rw [e2] at g0; exact g0
      | exc y Γ2 => rw [e2] at g0; exact g0.elim
      | ok fl Γ2 =>
        rw [e2] at g0
        cases fl with
        | nx =>
          intro σ' H' M' own' f s
          obtain ⟨own3, f3, sd3⟩ := s.leave hP
          exact g0 _ _ _ _ ((f2'.trans sd.wf f).trans sd.wf f3) sd3
        | bk =>
          intro σ' H' M' own' f s
          obtain ⟨own3, f3, sd3⟩ := s.leave hP
          exact g0 _ _ _ _ ((f2'.trans sd.wf f).trans sd.wf f3) sd3
        | ct =>
          intro σ' H' M' own' f s
          obtain ⟨own3, f3, sd3⟩ := s.leave hP
          exact g0 _ _ _ _ ((f2'.trans sd.wf f).trans sd.wf f3) sd3
        | rt sl =>
          obtain ⟨fg, d⟩ := sl
          have pn : ∀ {M' own' Γ2 σ' H'}, Sd (c.su i a) M' own' Γ2 σ' H' → Sd c M' own' Γ2 σ' H' := fun s => ⟨s.wf, s.len, s.val, s.ow, fun j v e => s.pin j v (by
            have ne : j ≠ i := fun z => by subst z; rw [hP] at e; cases e
            show (if j = i then some (V.ref a) else c.P j) = some v; rw [if_neg ne]; exact e)⟩
          cases fg with
          | bo k => exact g0.elim
          | sh => exact fun v σ' H' M' own' f s rs => g0 v σ' H' M' own' (f2'.trans sd.wf f) (pn s) rs
          | ow => exact fun v σ' H' M' own' f s rs => g0 v σ' H' M' own' (f2'.trans sd.wf f) (pn s) (Res.pre (c := c) (s := (.ow, d)) f2' rs)
    · rw [if_neg (by rw [hb1]; exact Bool.false_ne_true)] at g0
      exact g0 σ1 H1 M1 own1 dct f1 sd1 xo
end
end DL

namespace DL
open PySem L2
section
variable {X : Cx} {c : Ck}
/-! ### is, is not: None, bools -/
def isNF : D → D → Option Sl
  | .none, .none => some (.sh, .bool true)
  | .bool _, .none => some (.sh, .bool false)
  | .int _, .none => some (.sh, .bool false)
  | .str _, .none => some (.sh, .bool false)
  | .list _, .none => some (.sh, .bool false)
  | .tuple _, .none => some (.sh, .bool false)
  | _, _ => none
def notNF : D → D → Option Sl
  | .none, .none => some (.sh, .bool false)
  | .bool _, .none => some (.sh, .bool true)
  | .int _, .none => some (.sh, .bool true)
  | .str _, .none => some (.sh, .bool true)
  | .list _, .none => some (.sh, .bool true)
  | .tuple _, .none => some (.sh, .bool true)
  | _, _ => none
theorem isNF_ok : OpF c (fun x y H Q => y = .non ∧ Q (.bl (decide (x = .non))) H) isNF := by
  intro x y a b M own Γ σ H Q s sd rx ry e k
  unfold isNF at e
  split at e
  · cases e; cases rx.eqN; exact ⟨ry.eqN, k.bl sd⟩
  · cases e; cases rx.eqB; exact ⟨ry.eqN, k.bl sd⟩
  · cases e; cases rx.eqI; exact ⟨ry.eqN, k.bl sd⟩
  · cases e; cases rx.eqS; exact ⟨ry.eqN, k.bl sd⟩
  · cases e; obtain ⟨_, _, rfl, _⟩ := rx.list; exact ⟨ry.eqN, k.bl sd⟩
  · cases e; obtain ⟨_, _, rfl, _⟩ := rx.tuple; exact ⟨ry.eqN, k.bl sd⟩
  · cases e
theorem notNF_ok : OpF c (fun x y H Q => y = .non ∧ Q (.bl (!decide (x = .non))) H) notNF := by
  intro x y a b M own Γ σ H Q s sd rx ry e k
  unfold notNF at e
  split at e
  · cases e; cases rx.eqN; exact ⟨ry.eqN, k.bl sd⟩
  · cases e; cases rx.eqB; exact ⟨ry.eqN, k.bl sd⟩
  · cases e; cases rx.eqI; exact ⟨ry.eqN, k.bl sd⟩
  · cases e; cases rx.eqS; exact ⟨ry.eqN, k.bl sd⟩
  · cases e; obtain ⟨_, _, rfl, _⟩ := rx.list; exact ⟨ry.eqN, k.bl sd⟩
  · cases e; obtain ⟨_, _, rfl, _⟩ := rx.tuple; exact ⟨ry.eqN, k.bl sd⟩
  · cases e
def isBF : D → D → Option Sl
  | .bool a, .bool b => some (.sh, .bool (decide (a = b)))
  | _, _ => none
def notBF : D → D → Option Sl
  | .bool a, .bool b => some (.sh, .bool (!decide (a = b)))
  | _, _ => none
theorem isBF_ok : OpF c rIsB isBF := by
  intro x y a b M own Γ σ H Q s sd rx ry e k
  unfold isBF at e
  split at e
  · cases e; cases rx.eqB; cases ry.eqB; exact ⟨_, _, rfl, rfl, k.bl sd⟩
  · cases e
theorem notBF_ok : OpF c rNotB notBF := by
  intro x y a b M own Γ σ H Q s sd rx ry e k
  unfold notBF at e
  split at e
  · cases e; cases rx.eqB; cases ry.eqB; exact ⟨_, _, rfl, rfl, k.bl sd⟩
  · cases e
/-! ### a call without defaults -/
theorem d_call0 {k n : Nat} {f : Addr} {fd : FuncData} {ps : List Str} {F : List D → R0} {x : Str} {p pos : Pos} {e : Expr} {es : List Expr} {as : Env → Rs (List D)} (G : FnOk X.prog X.w X.K X.mg X.base (L2.CX X.prog X.w) k f fd ps (spV c.k n F)) (hr : Room k X.A) (tk : Takes X c.W) (hg : Gl X x) (hm : X.mg x = some (.ref f)) (hk : PySem.W.keepIn X.K (.ref f) = true)
    (hb : Binds X.K fd ps []) (ha : PA X (e :: es) (tAs c as)) (hn : ∀ Γ ds Γ', as Γ = .ok ds Γ' → (ds ++ []).length = n)
    (hdb : (x == ("__debug__" : Str)) = false := by decide) (he : starEach (e :: es) X.env = (false, eval e X.env) :: starEach es X.env := by rfl) (hpl : (backTo pos (starEach es X.env)).any (·.1) = false := by rfl) :
    PE X (.Call (.Name x p) (e :: es) [] pos) (tE c (eCall F as)) := by
  have h := (pe_callSD (p := p) (pos := pos) G hr hg hm hk hb .nil (fun σ => passAt tk σ) ha hdb he hpl).imp (call_imp (F := F) (dds := []) hn fun _ => .nil)
  have e0 : (fun ds => F (ds ++ [])) = F := by funext ds; rw [List.append_nil]
  rw [e0] at h
  exact h
/-! ### isinstance(e, C) of the exception that a suite holds -/
theorem d_isE {i : Nat} {a C : Addr} {oe : Obj} {pn : List (Addr × Obj)} {b : Bool} {x y : Str} {k : Nat} {p p1 p2 pos : Pos} (hE : ExcC X.K (c.k.cA k)) (hz : Zc (.ref (c.k.cA k)) none oe) (hf : ∃ vs, oe.data = .fields vs) (hN : X.N[i]? = some x) (hv : Vis X.env.scope x) (hP : c.P i = some (.ref a)) (hg : Gl X "isinstance") (hm : X.mg "isinstance" = none) (hg2 : Gl X y) (hm2 : X.mg y = some (.ref C))
    (hb : PySem.W.kitOne X.K (.ref (c.k.cA k)) (.ref C) = some b) (hd : (x == ("__debug__" : Str)) = false := by decide) (hcd : (x == ("__classdict__" : Str)) = false := by decide) (hdy : (y == ("__debug__" : Str)) = false := by decide)
    (he : starEach [.Name x p1, .Name y p2] X.env = (false, eval (.Name x p1) X.env) :: starEach [.Name y p2] X.env := by rfl) (he2 : starEach [.Name y p2] X.env = (false, eval (.Name y p2) X.env) :: starEach [] X.env := by rfl) :
    PE (X.suite a ((a, oe) :: pn)) (.Call (.Name "isinstance" p) [.Name x p1, .Name y p2] [] pos) (tE c (eLit (.bool b))) :=
  (pe_callB (X := X.suite a ((a, oe) :: pn)) (call_isE (X := X) hE hz hf) hg hm (by decide +kernel) (pa_cons (pe_var (X := X.suite a ((a, oe) :: pn)) hN hv hd hcd) (pa_cons (pe_glob (X := X.suite a ((a, oe) :: pn)) (v := .ref C) hg2 hm2 rfl hdy) pa_nil he2) he) (by decide) (by decide) he (by rw [show starEach [Expr.Name y p2] (X.suite a ((a, oe) :: pn)).env = _ from he2]; rfl)).imp fun σ H Q ⟨M, own, Γ, sd, g⟩ =>
    ⟨.ref a, sd.pin i _ hP, .ref C, .ref C, b, rfl, fun u r => r, hb, g _ _ _ _ Fr.refl sd (Res.val (.bl b))⟩
theorem d_isET {i : Nat} {a : Addr} {T : String} {oe : Obj} {pn : List (Addr × Obj)} {b : Bool} {x y : Str} {k : Nat} {p p1 p2 pos : Pos} (hE : ExcC X.K (c.k.cA k)) (hz : Zc (.ref (c.k.cA k)) none oe) (hf : ∃ vs, oe.data = .fields vs) (hN : X.N[i]? = some x) (hv : Vis X.env.scope x) (hP : c.P i = some (.ref a)) (hg : Gl X "isinstance") (hm : X.mg "isinstance" = none) (hg2 : Gl X y) (hm2 : X.mg y = none) (hv2 : bootBuiltins y = some (.type T))
    (hb : PySem.W.kitOne X.K (.ref (c.k.cA k)) (.type T) = some b) (hn : y ≠ "__name__" := by decide) (hd : (x == ("__debug__" : Str)) = false := by decide) (hcd : (x == ("__classdict__" : Str)) = false := by decide) (hdy : (y == ("__debug__" : Str)) = false := by decide)
    (he : starEach [.Name x p1, .Name y p2] X.env = (false, eval (.Name x p1) X.env) :: starEach [.Name y p2] X.env := by rfl) (he2 : starEach [.Name y p2] X.env = (false, eval (.Name y p2) X.env) :: starEach [] X.env := by rfl) :
    PE (X.suite a ((a, oe) :: pn)) (.Call (.Name "isinstance" p) [.Name x p1, .Name y p2] [] pos) (tE c (eLit (.bool b))) :=
  (pe_callB (X := X.suite a ((a, oe) :: pn)) (call_isE (X := X) hE hz hf) hg hm (by decide +kernel) (pa_cons (pe_var (X := X.suite a ((a, oe) :: pn)) hN hv hd hcd) (pa_cons (pe_bltn (X := X.suite a ((a, oe) :: pn)) (v := .ty T) hg2 hm2 hv2 rfl hn hdy) pa_nil he2) he) (by decide) (by decide) he (by rw [show starEach [Expr.Name y p2] (X.suite a ((a, oe) :: pn)).env = _ from he2]; rfl)).imp fun σ H Q ⟨M, own, Γ, sd, g⟩ =>
    ⟨.ref a, sd.pin i _ hP, .ty T, .type T, b, rfl, fun u r => r, hb, g _ _ _ _ Fr.refl sd (Res.val (.bl b))⟩
/-! ### a module's constant -/
def GlobOk (k : Kc) (mg : Str → Option Value) (x : Str) (d : D) : Prop := ∃ (v : V) (u : Value), mg x = some u ∧ RelV v u ∧ ∀ H, Rp k H v d
theorem d_glob {x : Str} {d : D} {pos : Pos} (h : GlobOk c.k X.mg x d) (hg : Gl X x) (hd : (x == ("__debug__" : Str)) = false := by decide) : PE X (.Name x pos) (tE c (eLit d)) := by
  obtain ⟨v, u, h1, h2, h3⟩ := h
  exact d_lit (pe_glob hg h1 h2 hd) h3
theorem glob_int {k : Kc} {mg : Str → Option Value} {x : Str} {i : Int} {t : Tok} (h : mg x = some (.int i t)) : GlobOk k mg x (.int i) := ⟨.int i, _, h, ⟨t, rfl⟩, fun _ => .int i⟩
theorem glob_str {k : Kc} {mg : Str → Option Value} {x : Str} {i : Str} {t : Tok} (h : mg x = some (.str i t)) : GlobOk k mg x (.str i) := ⟨.str i, _, h, ⟨t, rfl⟩, fun _ => .str i⟩
/-! ### a suite of exceptions without fields -/
def su0 (su : Nat → SV) (x : Exn) : SV := match x.fs with
  | [] => su x.cls
  | _ => fun _ => .bad
theorem d_tryAs0 {x n : Str} {i : Nat} {C : Addr} {body suite : List Stmt} {b₀ : Stmt} {np pos pos' : Pos} {sub : Nat → Bool} {g : SV} {su : Nat → SV} (hs : X.stack = X.env :: X.outer) (hf : X.env.frame = some X.env.locals) (hN : X.N.Nodup) (hi : X.N[i]? = some n) (hln : X.env.kindOf n = some .local) (hP : c.P i = none) (hc : Names X x (.ref C)) (hK : X.K = c.k.K) (tk : Takes X c.W)
    (hsub : ∀ k, PySem.W.exmOne c.k.K (.ref (c.k.cA k)) (.ref C) = some (sub k))
    (hb : ∀ (W : WX) (pn : List (Addr × Obj)) (xe : Value → Shared → Prop), Takes (X.tr pn xe) W → PassesOwn (model X.prog X.w) X.A X.env xe → PSs (X.tr pn xe) body (tS { c with W := W } g))
    (hsu : ∀ (a : Addr) (oe : Obj) (k : Nat) (pn : List (Addr × Obj)), Zc (.ref (c.k.cA k)) none oe → (∃ vs, oe.data = .fields vs) → PSs (X.suite a ((a, oe) :: pn)) (b₀ :: suite) (tS (c.su i a) (su k))) :
    PS X (.Try body [.ExceptHandler (some (.Name x np)) (some n) (b₀ :: suite) pos'] [] [] pos) (tS c (sTry i sub g (su0 su))) :=
  d_tryAs hs hf hN hi hln hP hc hK tk hsub rfl hb fun a oe x d pn hd hz hfl => by
    obtain ⟨k, fs⟩ := x
    cases fs with
    | nil => have e := hd rfl; subst e; exact hsu a oe k pn hz hfl
    | cons p r => exact ⟨fun pins s σ H D I ⟨M, own, Γ, sd, q⟩ => (show False from q).elim⟩
/-! ### facts of classes -/
theorem kit_mk {K : PySem.W.Frag} {D C : Addr} {b : Bool} (hd : PySem.W.hasDictIn K C = true) (ht : PySem.W.typeIn K (.ref C) = some (.type "type")) (hss : PySem.W.subIn K (.ref C) (.ref C) = some true) (hs : PySem.W.subIn K (.ref D) (.ref C) = some b) : PySem.W.kitOne K (.ref D) (.ref C) = some b := by
  obtain ⟨cd, hc, _⟩ := PySem.W.any_some hd
  unfold PySem.W.kitOne
  split
  · rename_i h
    have e : (Value.ref D) = Value.ref C := by simpa using h
    cases e
    rw [hss] at hs
    exact hs
  · show (if ((PySem.W.clsIn K C).isSome && PySem.W.typeIn K (.ref C) == some (.type "type")) = true then PySem.W.subIn K (.ref D) (.ref C) else none) = some b
    rw [hc, ht]
    exact hs
theorem kit_VE {K : PySem.W.Frag} {D : Addr} (hs : PySem.W.subIn K (.ref D) (.type "ValueError") = some true) : PySem.W.kitOne K (.ref D) (.type "ValueError") = some true := by
  have e : PySem.W.kitMeta "ValueError" = true := by decide +kernel
  show (if (Value.ref D == Value.type "ValueError") = true then some true else if PySem.W.kitMeta "ValueError" = true then PySem.W.subIn K (.ref D) (.type "ValueError") else none) = some true
  rw [if_neg (show ¬ (Value.ref D == Value.type "ValueError") = true by intro z; cases z), if_pos e]
  exact hs
theorem hu5 {A : Around} {k : Nat} (hr : Room k A) : A.units + 65 < cLine := by have := hr.un; omega
end
end DL

namespace DL
open PySem L2
/-! ### running the mirrors: equations for simp -/
def seqR (r : Rs Fl) (h : SV) : Rs Fl := match r with
  | .ok .nx Γ' => h Γ'
  | r => r
@[simp] theorem seqR_nx (Γ : Env) (h : SV) : seqR (.ok .nx Γ) h = h Γ := rfl
@[simp] theorem seqR_rt (s : Sl) (Γ : Env) (h : SV) : seqR (.ok (.rt s) Γ) h = .ok (.rt s) Γ := rfl
@[simp] theorem seqR_bk (Γ : Env) (h : SV) : seqR (.ok .bk Γ) h = .ok .bk Γ := rfl
@[simp] theorem seqR_ct (Γ : Env) (h : SV) : seqR (.ok .ct Γ) h = .ok .ct Γ := rfl
@[simp] theorem seqR_exc (x : Exn) (Γ : Env) (h : SV) : seqR (.exc x Γ) h = .exc x Γ := rfl
@[simp] theorem seqR_bad (h : SV) : seqR .bad h = .bad := rfl
@[simp] theorem sSeq_app (g h : SV) (Γ : Env) : sSeq g h Γ = seqR (g Γ) h := by unfold sSeq seqR; rfl
@[simp] theorem sNx_app (Γ : Env) : sNx Γ = .ok .nx Γ := rfl
def ifR {α : Type} (r : Rs Sl) (f g : Env → Rs α) : Rs α := r.bind fun s Γ => match s.2 with
  | .bool true => f Γ
  | .bool false => g Γ
  | _ => .bad
@[simp] theorem ifR_t {α : Type} (fg : Fg) (Γ : Env) (f g : Env → Rs α) : ifR (.ok (fg, .bool true) Γ) f g = f Γ := rfl
@[simp] theorem ifR_f {α : Type} (fg : Fg) (Γ : Env) (f g : Env → Rs α) : ifR (.ok (fg, .bool false) Γ) f g = g Γ := rfl
@[simp] theorem ifR_exc {α : Type} (x : Exn) (Γ : Env) (f g : Env → Rs α) : ifR (.exc x Γ) f g = .exc x Γ := rfl
theorem ifR_dec {α : Type} {p : Prop} [Decidable p] (fg : Fg) (Γ : Env) (f g : Env → Rs α) : ifR (.ok (fg, .bool (decide p)) Γ) f g = if p then f Γ else g Γ := by
  by_cases h : p
  · simp [h]
  · simp [h]
theorem ifR_bool {α : Type} (b : Bool) (fg : Fg) (Γ : Env) (f g : Env → Rs α) : ifR (.ok (fg, .bool b) Γ) f g = if b = true then f Γ else g Γ := by cases b <;> rfl
@[simp] theorem sIf_app (h : EV) (f g : SV) (Γ : Env) : sIf h f g Γ = ifR (h Γ) f g := rfl
@[simp] theorem eIf_app (h f g : EV) (Γ : Env) : eIf h f g Γ = ifR (h Γ) f g := rfl
@[simp] theorem eAnd_app (f g : EV) (Γ : Env) : eAnd f g Γ = ifR (f Γ) g (fun Γ => .ok (.sh, .bool false) Γ) := by
  unfold eAnd ifR; rfl
@[simp] theorem eOr_app (f g : EV) (Γ : Env) : eOr f g Γ = ifR (f Γ) (fun Γ => .ok (.sh, .bool true) Γ) g := by
  unfold eOr ifR; rfl
def notR (r : Rs Sl) : Rs Sl := r.bind fun s Γ => match s.2 with
  | .bool b => .ok (.sh, .bool (!b)) Γ
  | _ => .bad
@[simp] theorem notR_b (fg : Fg) (b : Bool) (Γ : Env) : notR (.ok (fg, .bool b) Γ) = .ok (.sh, .bool (!b)) Γ := rfl
@[simp] theorem notR_exc (x : Exn) (Γ : Env) : notR (.exc x Γ) = .exc x Γ := rfl
@[simp] theorem eNot_app (f : EV) (Γ : Env) : eNot f Γ = notR (f Γ) := rfl
@[simp] theorem sExpr_app (f : EV) (Γ : Env) : sExpr f Γ = (f Γ).bindV fun _ Γ => .ok .nx Γ := rfl
def retR (s : Sl) (Γ : Env) : Rs Fl := match s.1 with
  | .bo i => .ok (.rt (.ow, s.2)) (Γ.set i none)
  | _ => .ok (.rt s) Γ
@[simp] theorem retR_sh (d : D) (Γ : Env) : retR (.sh, d) Γ = .ok (.rt (.sh, d)) Γ := rfl
@[simp] theorem retR_ow (d : D) (Γ : Env) : retR (.ow, d) Γ = .ok (.rt (.ow, d)) Γ := rfl
@[simp] theorem retR_bo (i : Nat) (d : D) (Γ : Env) : retR (.bo i, d) Γ = .ok (.rt (.ow, d)) (Γ.set i none) := rfl
@[simp] theorem sRet_app (f : EV) (Γ : Env) : sRet f Γ = (f Γ).bind retR := rfl
@[simp] theorem sAsg_app (i : Nat) (f : EV) (Γ : Env) : sAsg i f Γ = (f Γ).bindV fun d Γ => .ok .nx (Γ.set i (some (false, d))) := rfl
def asgO (i : Nat) (s : Sl) (Γ : Env) : Rs Fl := match s.1 with
  | .ow => .ok .nx (Γ.set i (some (true, s.2)))
  | _ => .bad
@[simp] theorem asgO_ow (i : Nat) (d : D) (Γ : Env) : asgO i (.ow, d) Γ = .ok .nx (Γ.set i (some (true, d))) := rfl
@[simp] theorem sAsgO_app (i : Nat) (f : EV) (Γ : Env) : sAsgO i f Γ = (f Γ).bind (asgO i) := rfl
def asgG (t : GV) (d : D) (Γ : Env) : Rs Fl := match t d Γ with
  | .ok _ Γ' => .ok .nx Γ'
  | _ => .bad
@[simp] theorem sAsgG_app (t : GV) (f : EV) (Γ : Env) : sAsgG t f Γ = (f Γ).bindV (asgG t) := rfl
theorem asgG_ok {t : GV} {d : D} {Γ Γ' : Env} {u : Unit} (h : t d Γ = .ok u Γ') : asgG t d Γ = .ok .nx Γ' := by unfold asgG; rw [h]
@[simp] theorem asgG_gT2 (i j : Nat) (a b : D) (Γ : Env) : asgG (gT 2 (gsCons (gV i) (gsCons (gV j) gsNil))) (.tuple [a, b]) Γ = .ok .nx ((Γ.set i (some (false, a))).set j (some (false, b))) := rfl
@[simp] theorem asgG_gT3 (i j k : Nat) (a b c : D) (Γ : Env) : asgG (gT 3 (gsCons (gV i) (gsCons (gV j) (gsCons (gV k) gsNil)))) (.tuple [a, b, c]) Γ = .ok .nx (((Γ.set i (some (false, a))).set j (some (false, b))).set k (some (false, c))) := rfl
def parR (i j : Nat) (ds : List D) (Γ : Env) : Rs Fl := match ds with
  | [a, b] => .ok .nx ((Γ.set i (some (false, a))).set j (some (false, b)))
  | _ => .bad
@[simp] theorem parR_2 (i j : Nat) (a b : D) (Γ : Env) : parR i j [a, b] Γ = .ok .nx ((Γ.set i (some (false, a))).set j (some (false, b))) := rfl
@[simp] theorem sPar_app (i j : Nat) (as : Env → Rs (List D)) (Γ : Env) : sPar i j as Γ = (as Γ).bind (parR i j) := by
  unfold sPar parR; rfl
@[simp] theorem sRaise_app (k : Nat) (Γ : Env) : sRaise k Γ = .exc ⟨k, []⟩ Γ := rfl
/-! expressions -/
def varR (i : Nat) (o : Option (Option (Bool × D))) (Γ : Env) : Rs Sl := match o with
  | some (some (false, d)) => .ok (.sh, d) Γ
  | some (some (true, d)) => .ok (.bo i, d) Γ
  | _ => .bad
@[simp] theorem varR_v (i : Nat) (d : D) (Γ : Env) : varR i (some (some (false, d))) Γ = .ok (.sh, d) Γ := rfl
@[simp] theorem varR_o (i : Nat) (d : D) (Γ : Env) : varR i (some (some (true, d))) Γ = .ok (.bo i, d) Γ := rfl
@[simp] theorem eVar_app (i : Nat) (Γ : Env) : eVar i Γ = varR i Γ[i]? Γ := rfl
@[simp] theorem eLit_app (d : D) (Γ : Env) : eLit d Γ = .ok (.sh, d) Γ := rfl
def bin2 (F : D → D → Option Sl) (a b : Option D) (Γ : Env) : Rs Sl := match a, b with
  | some a, some b => lift (F a b) Γ
  | _, _ => .bad
@[simp] theorem bin2_s (F : D → D → Option Sl) (a b : D) (Γ : Env) : bin2 F (some a) (some b) Γ = lift (F a b) Γ := rfl
@[simp] theorem eBin_app (F : D → D → Option Sl) (f g : EV) (Γ : Env) : eBin F f g Γ = (f Γ).bind fun r Γ => (g Γ).bind fun s Γ => bin2 F (cur r Γ) (cur s Γ) Γ := by
  unfold eBin bin2; rfl
def un1 (F : D → Option Sl) (a : Option D) (Γ : Env) : Rs Sl := match a with
  | some a => lift (F a) Γ
  | none => .bad
@[simp] theorem un1_s (F : D → Option Sl) (a : D) (Γ : Env) : un1 F (some a) Γ = lift (F a) Γ := rfl
@[simp] theorem eUn_app (F : D → Option Sl) (f : EV) (Γ : Env) : eUn F f Γ = (f Γ).bind fun r Γ => un1 F (cur r Γ) Γ := by
  unfold eUn un1; rfl
@[simp] theorem aNil_app (Γ : Env) : aNil Γ = .ok [] Γ := rfl
@[simp] theorem aCons_app (f : EV) (g : Env → Rs (List D)) (Γ : Env) : aCons f g Γ = (f Γ).bindV fun d Γ => (g Γ).bind fun ds Γ => .ok (d :: ds) Γ := rfl
@[simp] theorem eTup_app (as : Env → Rs (List D)) (Γ : Env) : eTup as Γ = (as Γ).bind fun ds Γ => if ds.length ≤ 1000000 then .ok (.sh, .tuple ds) Γ else .bad := rfl
@[simp] theorem eLst_app (as : Env → Rs (List D)) (Γ : Env) : eLst as Γ = (as Γ).bind fun ds Γ => if ds.length ≤ 1000000 then .ok (.ow, .list ds) Γ else .bad := rfl
@[simp] theorem eCall_app (F : List D → R0) (as : Env → Rs (List D)) (Γ : Env) : eCall F as Γ = (as Γ).bind fun ds Γ => (F ds).at_ Γ := rfl
def sl3 (a : Option D) (l h : Option Int) (Γ : Env) : Rs Sl := match a with
  | some d => lift (slF l h d) Γ
  | none => .bad
@[simp] theorem sl3_s (d : D) (l h : Option Int) (Γ : Env) : sl3 (some d) l h Γ = lift (slF l h d) Γ := rfl
@[simp] theorem eSl_app (f : EV) (lo hi : OV) (Γ : Env) : eSl f lo hi Γ = (f Γ).bind fun s Γ => (lo Γ).bind fun l Γ => (hi Γ).bind fun h Γ => sl3 (cur s Γ) l h Γ := by
  unfold eSl sl3; rfl
@[simp] theorem oNone_app (Γ : Env) : oNone Γ = .ok none Γ := rfl
def oR (s : Sl) (Γ : Env) : Rs (Option Int) := match s with
  | (.sh, .int i) => .ok (some i) Γ
  | _ => .bad
@[simp] theorem oR_i (i : Int) (Γ : Env) : oR (.sh, .int i) Γ = .ok (some i) Γ := rfl
@[simp] theorem oSome_app (f : EV) (Γ : Env) : oSome f Γ = (f Γ).bind oR := by
  unfold oSome oR; rfl
/-! walks -/
def seqI (d : D) (Γ : Env) : Rs (List D) := match d with
  | .list ds => .ok ds Γ
  | .tuple ds => .ok ds Γ
  | _ => .bad
@[simp] theorem seqI_l (ds : List D) (Γ : Env) : seqI (.list ds) Γ = .ok ds Γ := rfl
@[simp] theorem seqI_t (ds : List D) (Γ : Env) : seqI (.tuple ds) Γ = .ok ds Γ := rfl
@[simp] theorem iSeq_app (f : EV) (Γ : Env) : iSeq f Γ = (f Γ).bindV seqI := by
  unfold iSeq seqI; rfl
def enumI (d : D) (Γ : Env) : Rs (List D) := match d with
  | .list ds => .ok (enumD ds) Γ
  | _ => .bad
@[simp] theorem enumI_l (ds : List D) (Γ : Env) : enumI (.list ds) Γ = .ok (enumD ds) Γ := rfl
@[simp] theorem iEnum_app (f : EV) (Γ : Env) : iEnum f Γ = (f Γ).bindV enumI := by
  unfold iEnum enumI; rfl
def rng1 (ds : List D) (Γ : Env) : Rs (List D) := match ds with
  | [.int j] => if -1000000000 ≤ j ∧ j ≤ 1000000000 then .ok (rangeD 0 1 j.toNat) Γ else .bad
  | _ => .bad
theorem rng1_i {j : Int} (h : -1000000000 ≤ j ∧ j ≤ 1000000000) (Γ : Env) : rng1 [.int j] Γ = .ok (rangeD 0 1 j.toNat) Γ := by simp only [rng1]; rw [if_pos h]
@[simp] theorem iRng1_app (as : Env → Rs (List D)) (Γ : Env) : iRng1 as Γ = (as Γ).bind rng1 := by
  unfold iRng1 rng1; rfl
def rng2 (ds : List D) (Γ : Env) : Rs (List D) := match ds with
  | [.int i, .int j] => if (-1000000000 ≤ i ∧ i ≤ 1000000000) ∧ -1000000000 ≤ j ∧ j ≤ 1000000000 then .ok (rangeD i 1 (j - i).toNat) Γ else .bad
  | _ => .bad
theorem rng2_i {i j : Int} (h : (-1000000000 ≤ i ∧ i ≤ 1000000000) ∧ -1000000000 ≤ j ∧ j ≤ 1000000000) (Γ : Env) : rng2 [.int i, .int j] Γ = .ok (rangeD i 1 (j - i).toNat) Γ := by simp only [rng2]; rw [if_pos h]
@[simp] theorem iRng2_app (as : Env → Rs (List D)) (Γ : Env) : iRng2 as Γ = (as Γ).bind rng2 := by
  unfold iRng2 rng2; rfl
def zipI (ds : List D) (Γ : Env) : Rs (List D) := match ds with
  | [.list a, .list b] => .ok (zipD a b) Γ
  | [.tuple a, .tuple b] => .ok (zipD a b) Γ
  | _ => .bad
@[simp] theorem zipI_l (a b : List D) (Γ : Env) : zipI [.list a, .list b] Γ = .ok (zipD a b) Γ := rfl
@[simp] theorem zipI_t (a b : List D) (Γ : Env) : zipI [.tuple a, .tuple b] Γ = .ok (zipD a b) Γ := rfl
@[simp] theorem iZip_app (as : Env → Rs (List D)) (Γ : Env) : iZip as Γ = (as Γ).bind zipI := by
  unfold iZip zipI; rfl
@[simp] theorem gV_app (i : Nat) (d : D) (Γ : Env) : gV i d Γ = .ok () (Γ.set i (some (false, d))) := rfl
@[simp] theorem gT2_app (i j : Nat) (a b : D) (Γ : Env) : gT 2 (gsCons (gV i) (gsCons (gV j) gsNil)) (.tuple [a, b]) Γ = .ok () ((Γ.set i (some (false, a))).set j (some (false, b))) := rfl
@[simp] theorem gT3_app (i j k : Nat) (a b c : D) (Γ : Env) : gT 3 (gsCons (gV i) (gsCons (gV j) (gsCons (gV k) gsNil))) (.tuple [a, b, c]) Γ = .ok () (((Γ.set i (some (false, a))).set j (some (false, b))).set k (some (false, c))) := rfl
@[simp] theorem sFor_app (it : IV) (t : GV) (body : SV) (Γ : Env) : sFor it t body Γ = (it Γ).bind fun ds Γ => forGo t body ds Γ := rfl
/-! comprehensions whose turns leave all as it is -/
def comp1 (t : GV) (cd el : EV) (d : D) (Γ : Env) : Rs (Option D) := (t d Γ).bind fun _ Γ => ifR (cd Γ) (fun Γ => (el Γ).bindV fun x Γ => .ok (some x) Γ) (fun Γ => .ok none Γ)
theorem compGo_pure {vs : List Nat} {t : GV} {cd el : EV} {Γ0 : Env} {r : D → Option D} : ∀ {ds : List D}, (∀ d ∈ ds, ∃ Γ', comp1 t cd el d Γ0 = .ok (r d) Γ' ∧ wipeE Γ' vs = Γ0) → compGo vs t cd el ds Γ0 = .ok (ds.filterMap r) Γ0
  | [], _ => rfl
  | d :: ds, h => by
    obtain ⟨Γ', h1, h2⟩ := h d (by simp)
    have ih := compGo_pure (vs := vs) (t := t) (cd := cd) (el := el) (Γ0 := Γ0) (r := r) (ds := ds) fun x hx => h x (by simp [hx])
    unfold comp1 at h1
    unfold compGo
    cases e1 : t d Γ0 with
    | exc x Γ1 => rw [e1] at h1; cases h1
    | bad => rw [e1] at h1; cases h1
    | ok u Γ1 =>
      rw [e1] at h1
      simp only [Rs.bind] at h1 ⊢
      cases e2 : cd Γ1 with
      | exc x Γ2 => rw [e2] at h1; cases h1
      | bad => rw [e2] at h1; cases h1
      | ok s Γ2 =>
        rw [e2] at h1
        obtain ⟨fg, x⟩ := s
        cases x with
        | bool b =>
          cases b with
          | true =>
            simp only [ifR_t] at h1 ⊢
            cases e3 : el Γ2 with
            | exc x Γ3 => rw [e3] at h1; cases h1
            | bad => rw [e3] at h1; cases h1
            | ok x Γ3 =>
              rw [e3] at h1
              simp only [Rs.bindV] at h1
              injection h1 with q1 q2
              subst q2
              simp only [h2, ih]
              rw [List.filterMap_cons, ← q1]
          | false =>
            simp only [ifR_f] at h1 ⊢
            injection h1 with q1 q2
            subst q2
            simp only [h2, ih]
            rw [List.filterMap_cons, ← q1]
        | _ => cases h1
theorem eComp_pure {vs : List Nat} {it : IV} {t : GV} {cd el : EV} {Γ Γ1 : Env} {ds : List D} (r : D → Option D) (hi : it Γ = .ok ds Γ1) (hl : ds.length ≤ 1000000) (h : ∀ d ∈ ds, ∃ Γ', comp1 t cd el d (wipeE Γ1 vs) = .ok (r d) Γ' ∧ wipeE Γ' vs = wipeE Γ1 vs) :
    eComp vs it t cd el Γ = .ok (.ow, .list (ds.filterMap r)) (restE Γ1 (wipeE Γ1 vs) vs) := by
  unfold eComp
  rw [hi]
  simp only [Rs.bind]
  rw [if_pos hl, compGo_pure h]
/-! a for whose turns are a fold over the environment -/
theorem forGo_fold {t : GV} {body : SV} {α : Type} (st : α → Env) (f : α → D → α) : ∀ {ds : List D} {a : α}, (∀ a, ∀ d ∈ ds, ∃ u Γ', t d (st a) = .ok u Γ' ∧ body Γ' = .ok .nx (st (f a d))) → forGo t body ds (st a) = .ok .nx (st (ds.foldl f a))
  | [], _, _ => rfl
  | d :: ds, a, h => by
    obtain ⟨u, Γ', h1, h2⟩ := h a d (by simp)
    unfold forGo
    simp only [h1, h2]
    exact forGo_fold st f fun a x hx => h a x (by simp [hx])
@[simp] theorem startE_app (n : Nat) (ds : List D) : startE n ds = ds.map (fun d => some (false, d)) ++ List.replicate (n - ds.length) none := rfl
def finR (r : Rs Fl) : R0 := match r with
  | .ok .nx _ => .ok (.sh, .none)
  | .ok (.rt s) _ => match s.1 with
    | .bo _ => .bad
    | _ => .ok s
  | .exc x _ => .exc x
  | _ => .bad
@[simp] theorem finR_nx (Γ : Env) : finR (.ok .nx Γ) = .ok (.sh, .none) := rfl
@[simp] theorem finR_sh (d : D) (Γ : Env) : finR (.ok (.rt (.sh, d)) Γ) = .ok (.sh, d) := rfl
@[simp] theorem finR_ow (d : D) (Γ : Env) : finR (.ok (.rt (.ow, d)) Γ) = .ok (.ow, d) := rfl
@[simp] theorem finR_exc (x : Exn) (Γ : Env) : finR (.exc x Γ) = .exc x := rfl
theorem finF_app (n : Nat) (g : SV) (ds : List D) : finF n g ds = finR (g (startE n ds)) := rfl
end DL

namespace DL
open PySem L2
/-! ### sameness of data, asked of the kernel -/
mutual
def deq : D → D → Bool
  | .none, .none => true
  | .bool a, .bool b => a == b
  | .int a, .int b => decide (a = b)
  | .str a, .str b => a == b
  | .list a, .list b => deqL a b
  | .tuple a, .tuple b => deqL a b
  | _, _ => false
def deqL : List D → List D → Bool
  | [], [] => true
  | a :: r, b :: s => deq a b && deqL r s
  | _, _ => false
end
mutual
theorem deq_ok : ∀ {a b : D}, deq a b = true → a = b
  | .none, b, h => by cases b <;> simp_all [deq]
  | .bool a, b, h => by cases b <;> simp_all [deq]
  | .int a, b, h => by cases b <;> simp_all [deq]
  | .str a, b, h => by cases b <;> simp_all [deq]
  | .list a, b, h => by
    cases b with
    | list b => simp only [deq] at h; rw [deqL_ok h]
    | _ => simp [deq] at h
  | .tuple a, b, h => by
    cases b with
    | tuple b => simp only [deq] at h; rw [deqL_ok h]
    | _ => simp [deq] at h
  | .dict a, b, h => by cases b <;> simp_all [deq]
theorem deqL_ok : ∀ {a b : List D}, deqL a b = true → a = b
  | [], b, h => by cases b <;> simp_all [deqL]
  | a :: r, b, h => by
    cases b with
    | nil => simp [deqL] at h
    | cons c s =>
      simp only [deqL, Bool.and_eq_true] at h
      rw [deq_ok h.1, deqL_ok h.2]
end
def r0eq : R0 → R0 → Bool
  | .ok (.sh, a), .ok (.sh, b) => deq a b
  | .ok (.ow, a), .ok (.ow, b) => deq a b
  | .exc ⟨k, []⟩, .exc ⟨l, []⟩ => k == l
  | _, _ => false
theorem of_r0 {a b : R0} (h : r0eq a b = true) : a = b := by
  unfold r0eq at h
  split at h
  · rw [deq_ok h]
  · rw [deq_ok h]
  · simp only [beq_iff_eq] at h; rw [h]
  · cases h
/-- what a def gave, without its flag -/
def R0.dat : R0 → Option D
  | .ok s => some s.2
  | _ => none
theorem shaped_nil' : SeqAt.shaped (.list []) = true := by decide +kernel
theorem fm_none (l : List D) : l.filterMap (fun _ => (none : Option D)) = [] := by induction l <;> simp_all
theorem if_same {f g : EV} {t : SV} {Γ Γ2 : Env} {L : D} (h1 : f Γ = .ok (.sh, L) Γ) (h2 : g Γ = .ok (.sh, L) Γ2) (h3 : SeqAt.shaped L = true) (h4 : PyData.eqv L L = true) : sIf (eBin neF f g) t sNx Γ = .ok .nx Γ2 := by
  simp [h1, h2, neF, h3, h4]
theorem call_v {F : List D → R0} {i : Nat} {d r : D} {Γ : Env} (h : Γ[i]? = some (some (false, d))) (e : F [d] = .ok (.sh, r)) : eCall F (aCons (eVar i) aNil) Γ = .ok (.sh, r) Γ := by
  simp [h, e]
theorem if_none {f : EV} {t : SV} {Γ Γ1 : Env} (h1 : f Γ = .ok (.ow, .list []) Γ1) : sIf (eBin neF f (eLst aNil)) t sNx Γ = .ok .nx Γ1 := by
  simp [h1, neF, shaped_nil', PyData.eqv, PyData.eqvAll]
theorem comp_none {vs : List Nat} {it : IV} {t : GV} {cd el : EV} {Γ Γ1 : Env} {ds : List D} (hi : it Γ = .ok ds Γ1) (hl : ds.length ≤ 1000000) (h : ∀ d ∈ ds, ∃ Γ', comp1 t cd el d (wipeE Γ1 vs) = .ok none Γ' ∧ wipeE Γ' vs = wipeE Γ1 vs) :
    eComp vs it t cd el Γ = .ok (.ow, .list []) (restE Γ1 (wipeE Γ1 vs) vs) := by
  rw [eComp_pure (fun _ => none) hi hl h, fm_none]
end DL

namespace DL
open PySem L2
open PySem.W (EachIs TotalLe sameRank dataLe alike AllAlike)
/-! ### sorted(xs): by insertion, equal ones in their order -/
def dle : D → D → Bool := dataLe false (fun d : D => d)
def insD (x : D) : List D → List D
  | [] => [x]
  | y :: l => if dle x y = true then x :: y :: l else y :: insD x l
def sortD : List D → List D
  | [] => []
  | x :: l => insD x (sortD l)
theorem dle_total : TotalLe dle := PySem.W.sortLe_total (PyProof.Rows.listOrd PyProof.Rows.itemOrd) false (fun d : D => PySem.W.keyToks d)
theorem insD_mem {x z : D} : ∀ {l : List D}, z ∈ insD x l → z = x ∨ z ∈ l
  | [], h => by simp [insD] at h; exact .inl h
  | y :: l, h => by
    unfold insD at h
    split at h
    · rcases List.mem_cons.mp h with h | h
      · exact .inl h
      · exact .inr h
    · rcases List.mem_cons.mp h with h | h
      · exact .inr (by simp [h])
      · rcases insD_mem h with h | h
        · exact .inl h
        · exact .inr (by simp [h])
theorem insD_sorted {x : D} : ∀ {l : List D}, l.Pairwise (fun a b => dle a b = true) → (insD x l).Pairwise (fun a b => dle a b = true)
  | [], _ => by simp [insD]
  | y :: l, h => by
    obtain ⟨h1, h2⟩ := List.pairwise_cons.mp h
    unfold insD
    split
    · rename_i q
      refine List.pairwise_cons.mpr ⟨fun z hz => ?_, h⟩
      rcases List.mem_cons.mp hz with e | e
      · rw [e]; exact q
      · exact dle_total.trans _ _ _ q (h1 z e)
    · rename_i q
      refine List.pairwise_cons.mpr ⟨fun z hz => ?_, insD_sorted h2⟩
      rcases insD_mem hz with e | e
      · rw [e]; exact (dle_total.total y x).resolve_right q
      · exact h1 z e
theorem insD_filter {x c : D} : ∀ {l : List D}, (insD x l).filter (sameRank dle c) = (x :: l).filter (sameRank dle c)
  | [] => rfl
  | y :: l => by
    unfold insD
    split
    · rfl
    · rename_i q
      rw [List.filter_cons, insD_filter (l := l), List.filter_cons (x := x) (xs := y :: l), List.filter_cons (x := y) (xs := l), List.filter_cons (x := x) (xs := l)]
      by_cases hx : sameRank dle c x = true
      · by_cases hy : sameRank dle c y = true
        · unfold sameRank at hx hy
          rw [Bool.and_eq_true] at hx hy
          exact absurd (dle_total.trans _ _ _ hx.2 hy.1) q
        · rw [if_neg hy, if_pos hx, if_neg hy, if_pos hx]
      · rw [if_neg hx, if_neg hx]
theorem sortD_sorted : ∀ l : List D, (sortD l).Pairwise (fun a b => dle a b = true)
  | [] => .nil
  | x :: l => insD_sorted (sortD_sorted l)
theorem sortD_filter (c : D) : ∀ l : List D, (sortD l).filter (sameRank dle c) = l.filter (sameRank dle c)
  | [] => rfl
  | x :: l => by
    show (insD x (sortD l)).filter _ = _
    rw [insD_filter, List.filter_cons, List.filter_cons, sortD_filter c l]
theorem sortD_eq (l : List D) : sortD l = l.mergeSort (dataLe false fun d : D => d) := PySem.W.sort_unique dle_total (sortD_sorted l) fun c => sortD_filter c l
theorem insD_perm (x : D) : ∀ l : List D, (insD x l).Perm (x :: l)
  | [] => .refl _
  | y :: l => by
    unfold insD
    split
    · exact .refl _
    · exact ((insD_perm x l).cons y).trans (.swap x y l)
theorem sortD_perm : ∀ l : List D, (sortD l).Perm l
  | [] => .refl _
  | x :: l => (insD_perm x (sortD l)).trans ((sortD_perm l).cons x)
/-- the data can be sorted -/
def sortOk (ds : List D) : Bool := (ds.all fun d => ds.all fun e => alike d e) && ((ds.all fun d => match d with | .tuple (_ :: _) => true | _ => false) || (ds.all fun d => match d with | .none => false | .tuple _ => false | _ => true)) && (ds.all fun d => decide (PyData.depth d ≤ 40))
theorem sortOk.al {ds : List D} (h : sortOk ds = true) : AllAlike ds := by
  unfold sortOk at h
  simp only [Bool.and_eq_true] at h
  intro d hd e he
  exact List.all_eq_true.mp (List.all_eq_true.mp h.1.1 d hd) e he
theorem sortOk.st {ds : List D} (h : sortOk ds = true) : PySem.W.Sortable ds := by
  unfold sortOk at h
  simp only [Bool.and_eq_true, Bool.or_eq_true] at h
  rcases h.1.2 with h | h
  · refine .inl fun d hd => ?_
    have q := List.all_eq_true.mp h d hd
    split at q
    · exact ⟨_, _, rfl⟩
    · cases q
  · refine .inr fun d hd => ?_
    have q := List.all_eq_true.mp h d hd
    refine ⟨fun e => ?_, fun xs e => ?_⟩ <;> (subst e; simp at q)
theorem sortOk.dp {ds : List D} (h : sortOk ds = true) {d : D} (hd : d ∈ ds) : PyData.depth d ≤ 40 := by
  unfold sortOk at h
  simp only [Bool.and_eq_true] at h
  exact of_decide_eq_true (List.all_eq_true.mp h.2 d hd)
section
variable {X : Cx} {c : Ck}
def rSortD (K : PySem.W.Frag) : List V → Hp → VK → Prop := fun vs H Q => ∃ (a : Addr) (xs : List V) (ds : List D) (S : V → D → Prop), vs = [V.ref a] ∧ SqL K H a xs ∧ EachIs S xs ds ∧ (∀ v d, S v d → Dp K H v d) ∧ sortOk ds = true ∧
  ∀ ys p, EachIs S ys (sortD ds) → H p = none → Q (.ref p) (upd H p (.lst ys))
theorem each_rel {S : V → D → Prop} : ∀ {xs : List V} {ds : List D} {us : List Value}, EachIs S xs ds → Vals xs us → EachIs (fun u d => ∃ v, RelV v u ∧ S v d) us ds
  | _, _, _, .nil, .nil => .nil
  | _, _, _, .cons h t, .cons r u => .cons ⟨_, r, h⟩ (each_rel t u)
theorem each_out {S : V → D → Prop} : ∀ {us : List Value} {ds : List D}, EachIs (fun u d => ∃ v, RelV v u ∧ S v d) us ds → ∃ ys, Vals ys us ∧ EachIs S ys ds
  | _, _, .nil => ⟨[], .nil, .nil⟩
  | _, _, .cons ⟨v, r, h⟩ t => by
    obtain ⟨ys, h1, h2⟩ := each_out t
    exact ⟨v :: ys, .cons r h1, .cons h h2⟩
theorem cr_sortD (hu : X.A.units + 64 < cLine) : CallR X (.builtin "sorted") (rSortD X.K) := by
  intro pins s σ H vs us Q I r h
  obtain ⟨a, xs, ds, S, rfl, hs, he, hS, hok, q⟩ := h
  obtain ⟨its, rv, hl, hz⟩ := I.list hs
  rw [Vals.ref1 r]
  have e := each_rel he rv
  have hal : AllAlike (ds.map fun d : D => d) := by rw [List.map_id']; exact sortOk.al hok
  have hk : PySem.W.Sortable (ds.map fun d : D => d) := by rw [List.map_id']; exact sortOk.st hok
  have hn : ds.length = xs.length := he.length.symm
  refine PySem.W.sorted_data (enc := fun d : D => d) hl.isList e (e.mono fun u d ⟨v, r, h⟩ => Dp.reads I d v u (hS v d h) r) hal hk (by rw [hn]; exact hz) (fun d hd => by have := sortOk.dp hok hd; omega) fun out h1 h2 => ?_
  rw [← sortD_eq] at h2
  obtain ⟨ys, y1, y2⟩ := each_out h2
  obtain ⟨ep, he'⟩ := PyProof.Rows.sortedAll_at s.heap its out.toArray
  have hlen : ys.length ≤ sizeLine := by rw [y1.length, h1, hn]; exact hz
  exact ⟨.ref _, upd H (s.heap.objs.size + 1) (.lst ys), I.laid (t' := s.toks) (fun _ _ => PyProof.Rows.sortedAll_old) (Nat.le_succ _) ⟨hlen, out, ep, y1, he'⟩, rfl, q ys _ y2 (I.hok.fresh (Nat.le_succ _))⟩
def sortF : D → Option Sl
  | .list ds => if sortOk ds = true then some (.ow, .list (sortD ds)) else none
  | _ => none
theorem rp_each {k : Kc} {H : Hp} : ∀ {xs : List V} {ds : List D}, RpAll k H xs ds → EachIs (fun v d => Rp k H v d) xs ds
  | _, _, .nil => .nil
  | _, _, .cons h t => .cons h (rp_each t)
theorem each_rp {k : Kc} {H : Hp} : ∀ {xs : List V} {ds : List D}, EachIs (fun v d => Rp k H v d) xs ds → RpAll k H xs ds
  | _, _, .nil => .nil
  | _, _, .cons h t => .cons h (each_rp t)
theorem sortF_ok : UnF c (fun x H Q => rSortD c.k.K [x] H Q) sortF := by
  intro x a M own Γ σ H Q s sd rx e k
  unfold sortF at e
  split at e
  · split at e
    · rename_i ok
      cases e
      obtain ⟨p, xs, rfl, h1, h2⟩ := rx.list
      exact ⟨p, xs, _, _, rfl, h1, rp_each h2, fun v d h => (Bw.full (M := M) (.inl h)).dp, ok, fun ys p h hp => k.lst sd hp (each_rp h)⟩
    · cases e
  · cases e
theorem d_sorted (hK : X.K = c.k.K) (hu : X.A.units + 64 < cLine) {f : EV} {e : Expr} {p pos : Pos} (hg : Gl X "sorted") (hm : X.mg "sorted" = none) (ha : PE X e (tE c f)) (he : starEach [e] X.env = (false, eval e X.env) :: starEach [] X.env := by rfl) : PE X (.Call (.Name "sorted" p) [e] [] pos) (tE c (eUn sortF f)) :=
  d_b1 (cr_sortD (X := X) hu) (by rw [hK]; exact sortF_ok) hg hm (by decide +kernel) ha (he := he)
/-! ### what is never reached -/
theorem d_badS {st : Stmt} : PS X st (tS c fun _ => .bad) := ⟨fun _ _ _ _ _ _ ⟨_, _, _, _, h⟩ => h.elim⟩
theorem d_badSs {st : List Stmt} : PSs X st (tS c fun _ => .bad) := ⟨fun _ _ _ _ _ _ ⟨_, _, _, _, h⟩ => h.elim⟩
end
end DL

namespace DL
open PySem PySem.Spec PyProof.Rows L2
/-! ### len(set(xs)), xs a list of tuples of ints -/
def cntL : List (List Int) → Nat
  | [] => 0
  | x :: r => if r.contains x = true then cntL r else cntL r + 1
def dupL : List (List Int) → List (List Int)
  | [] => []
  | x :: r => if r.contains x = true then dupL r else x :: dupL r
theorem dupL_len : ∀ l, (dupL l).length = cntL l
  | [] => rfl
  | x :: r => by unfold dupL cntL; split <;> simp [dupL_len r]
theorem dupL_mem {z : List Int} : ∀ {l}, z ∈ dupL l ↔ z ∈ l
  | [] => by simp [dupL]
  | x :: r => by
    unfold dupL
    split
    · rename_i q
      rw [dupL_mem (l := r), List.mem_cons]
      exact ⟨.inr, fun h => h.elim (fun e => by rw [e]; simpa using q) id⟩
    · rw [List.mem_cons, dupL_mem (l := r), List.mem_cons]
theorem dupL_nd : ∀ l, (dupL l).Nodup
  | [] => .nil
  | x :: r => by
    unfold dupL
    split
    · exact dupL_nd r
    · rename_i q
      refine List.nodup_cons.mpr ⟨fun h => q ?_, dupL_nd r⟩
      simpa using dupL_mem.mp h
theorem nd_len {α : Type} [DecidableEq α] : ∀ {l m : List α}, l.Nodup → (∀ x ∈ l, x ∈ m) → l.length ≤ m.length
  | [], _, _, _ => by simp
  | x :: l, m, h, k => by
    obtain ⟨h1, h2⟩ := List.nodup_cons.mp h
    have hx := k x (by simp)
    have := nd_len (l := l) (m := m.erase x) h2 fun y hy => (List.mem_erase_of_ne (fun e => h1 (by rw [← e]; exact hy))).mpr (k y (by simp [hy]))
    rw [List.length_erase_of_mem hx] at this
    have : 0 < m.length := List.length_pos_of_mem hx
    simp only [List.length_cons]
    omega
theorem cnt_of {l m : List (List Int)} (h : l.Nodup) (k : ∀ x, x ∈ l ↔ x ∈ m) : l.length = cntL m := by
  rw [← dupL_len]
  exact Nat.le_antisymm (nd_len h fun x hx => dupL_mem.mpr ((k x).mp hx)) (nd_len (dupL_nd m) fun x hx => (k x).mpr (dupL_mem.mp hx))
/-- cntL of unlike things -/
theorem cntL_nd : ∀ {l : List (List Int)}, l.Nodup → cntL l = l.length
  | [], _ => rfl
  | x :: r, h => by
    obtain ⟨h1, h2⟩ := List.nodup_cons.mp h
    unfold cntL
    rw [if_neg (by simpa using h1), cntL_nd h2, List.length_cons]
theorem cntL_le : ∀ l : List (List Int), cntL l ≤ l.length
  | [] => Nat.le_refl _
  | x :: r => by unfold cntL; split <;> simp <;> have := cntL_le r <;> omega
section
variable {X : Cx} {c : Ck}
def tLenSetT (K : PySem.W.Frag) (ta : TE) : TE := fun σ H Q => ta σ H fun x H1 => ∃ (l : Addr) (ks : List (Addr × List Int)), x = V.ref l ∧ SqL K H1 l (ks.map fun p => V.ref p.1) ∧ (∀ p ∈ ks, SqT K H1 p.1 (p.2.map V.int)) ∧ ks.length < 64 ∧ Q (.int (cntL (ks.map (·.2)))) H1
theorem pe_lenSetT {a : Expr} {ta : TE} {p p2 q pos : Pos} (hc : X.calm = true) (hu : X.A.units + 64 < cLine) (hg : Gl X "len") (hm : X.mg "len" = none) (hg2 : Gl X "set") (hm2 : X.mg "set" = none) (ha : PE X a ta)
    (na : starEach [a] X.env = (false, eval a X.env) :: starEach [] X.env := by rfl) : PE X (.Call (.Name "len" p) [.Call (.Name "set" p2) [a] [] q] [] pos) (tLenSetT X.K ta) := by
  refine ⟨fun pins s σ H Q I h => ?_⟩
  refine Call_ (ld_blt I hg hm PySem.boot_len ?_)
  refine PyProof.Rows.callWith_builtin1 (PyProof.Rows.args_cons ?_ rfl) rfl rfl
  refine Call_ (ld_blt I hg2 hm2 PyProof.Rows.boot_set ?_)
  refine PyProof.Rows.callWith_type1 (PyProof.Rows.args_cons (thn (ha.run pins s σ H _ I h) fun v s1 ⟨x, H1, I1, r1, q1⟩ => PyProof.Rows.args_nil ?_) na) na rfl
  obtain ⟨l, ks, rfl, hq, hk, hf, q1⟩ := q1
  cases r1
  obtain ⟨its, rv, pl, hz⟩ := I1.list hq
  refine call_set_tups (P := X.prog) (w := X.w) ks (I1.ok.hd hc) pl.isList (by simpa using refs_of_vals rv) (fun p hp => I1.isT (hk p hp)) hf (by omega) fun h' tk L es ep t R g k => ?_
  refine PyProof.Rows.args_nil ?_
  have I2 : Inv X pins σ H1 { s1 with heap := h', toks := tk } := I1.kept k
  obtain ⟨o, ho, hex, hd⟩ := R.ob
  have R' : SetTR X.prog X.w ({ s1 with heap := h', toks := tk } : Shared).heap s1.heap.objs.size L es ep t := R
  have hn := R'.size
  have hL : L.length = cntL (ks.map (·.2)) := by
    rw [← List.length_map (f := fun p : Addr × List Int => p.2)]
    refine cnt_of R.nd fun x => ⟨fun hx => ?_, fun hx => ?_⟩
    · obtain ⟨p, hp, rfl⟩ := List.mem_map.mp hx
      exact List.mem_map.mpr ⟨p, List.mem_of_mem_take (g.sub p hp), rfl⟩
    · obtain ⟨p, hp, rfl⟩ := List.mem_map.mp hx
      exact g.all p (by rw [List.take_length]; exact hp)
  have hfew := R.few
  refine call_len_set ho hex hd R'.fits (by rw [hn] <;> omega) ⟨.int (cntL (ks.map (·.2))), H1, I2.tok _, ⟨_, by rw [hn, hL]⟩, q1⟩
def tupsOf : List D → Option (List (List Int))
  | [] => some []
  | .tuple xs :: r => match intsOf xs, tupsOf r with
    | some ns, some k => some (ns :: k)
    | _, _ => none
  | _ => none
def lenSetF : D → Option Sl
  | .list ds => match tupsOf ds with
    | some ks => if ks.length < 64 then some (.sh, .int (cntL ks)) else none
    | none => none
  | _ => none
theorem tups_all {H : Hp} : ∀ {ds : List D} {xs : List V} {ks : List (List Int)}, RpAll c.k H xs ds → tupsOf ds = some ks → ∃ ps : List (Addr × List Int), ps.map (·.2) = ks ∧ xs = ps.map (fun p => V.ref p.1) ∧ ∀ p ∈ ps, SqT c.k.K H p.1 (p.2.map V.int)
  | [], _, _, h, e => by cases h; cases e; exact ⟨[], rfl, rfl, by simp⟩
  | .tuple ys :: r, _, _, h, e => by
    cases h with
    | cons h1 h2 =>
      unfold tupsOf at e
      split at e
      · rename_i ns kk q1 q2
        cases e
        obtain ⟨ps, p1, p2, p3⟩ := tups_all h2 q2
        cases h1 with
        | @tup ad _ _ hs ha =>
          cases ints_all ha q1
          exact ⟨(ad, ns) :: ps, by simp [p1], by simp [p2], fun p hp => by
            rcases List.mem_cons.mp hp with e | e
            · rw [e]; exact hs
            · exact p3 p e⟩
      · cases e
  | .none :: _, _, _, _, e => by cases e
  | .bool _ :: _, _, _, _, e => by cases e
  | .int _ :: _, _, _, _, e => by cases e
  | .str _ :: _, _, _, _, e => by cases e
  | .list _ :: _, _, _, _, e => by cases e
  | .dict _ :: _, _, _, _, e => by cases e
theorem lenSetF_ok : UnF c (fun x H Q => ∃ (l : Addr) (ks : List (Addr × List Int)), x = V.ref l ∧ SqL c.k.K H l (ks.map fun p => V.ref p.1) ∧ (∀ p ∈ ks, SqT c.k.K H p.1 (p.2.map V.int)) ∧ ks.length < 64 ∧ Q (.int (cntL (ks.map (·.2)))) H) lenSetF := by
  intro x a M own Γ σ H Q s sd rx e k
  unfold lenSetF at e
  split at e
  · split at e
    · split at e
      · rename_i ks q hl
        cases e
        obtain ⟨p, xs, rfl, h1, h2⟩ := rx.list
        obtain ⟨ps, rfl, rfl, p3⟩ := tups_all h2 q
        refine ⟨p, ps, rfl, h1, fun z hz => Same.sqT hid_le (p3 z hz), by simpa using hl, k.int sd⟩
      · cases e
    · cases e
  · cases e
theorem d_lenSet (hK : X.K = c.k.K) (hc : X.calm = true) (hu : X.A.units + 64 < cLine) {f : EV} {a : Expr} {p p2 q pos : Pos} (hg : Gl X "len") (hm : X.mg "len" = none) (hg2 : Gl X "set") (hm2 : X.mg "set" = none) (ha : PE X a (tE c f))
    (na : starEach [a] X.env = (false, eval a X.env) :: starEach [] X.env := by rfl) : PE X (.Call (.Name "len" p) [.Call (.Name "set" p2) [a] [] q] [] pos) (tE c (eUn lenSetF f)) :=
  (pe_lenSetT hc hu hg hm hg2 hm2 ha na).imp fun σ H Q h => by
    rw [hK]
    exact unF_imp lenSetF_ok σ H Q h
end
end DL

namespace DL
open PySem L2
/-! ### plain lemmas about data -/
def Nice (n : Nat) (d : D) : Prop := d.canLay0 = true ∧ PyData.depth d ≤ n
theorem Nice.shaped {n : Nat} {d : D} (h : Nice n d) (hn : n ≤ 64 := by decide) : SeqAt.shaped d = true := by
  unfold SeqAt.shaped
  rw [h.1, Bool.true_and, decide_eq_true_eq]
  exact Nat.le_trans h.2 hn
theorem Nice.up {n m : Nat} {d : D} (h : Nice n d) (hn : n ≤ m) : Nice m d := ⟨h.1, Nat.le_trans h.2 hn⟩
theorem nice_int (i : Int) : Nice 0 (.int i) := ⟨by simp [PyData.canLay0], by simp [PyData.depth]⟩
theorem nice_bool (i : Bool) : Nice 0 (.bool i) := ⟨by simp [PyData.canLay0], by simp [PyData.depth]⟩
theorem nice_none : Nice 0 .none := ⟨by simp [PyData.canLay0], by simp [PyData.depth]⟩
theorem nice_all {n : Nat} : ∀ {xs : List D}, (∀ x ∈ xs, Nice n x) → PyData.canLayAll0 xs = true ∧ PyData.depthAll xs ≤ n
  | [], _ => ⟨by simp [PyData.canLayAll0], by simp [PyData.depthAll]⟩
  | x :: xs, h => by
    obtain ⟨h1, h2⟩ := nice_all (xs := xs) fun y hy => h y (by simp [hy])
    obtain ⟨h3, h4⟩ := h x (by simp)
    refine ⟨by rw [PyData.canLayAll0, h1, h3]; rfl, ?_⟩
    rw [PyData.depthAll]
    exact Nat.max_le.mpr ⟨h4, h2⟩
theorem nice_list {n : Nat} {xs : List D} (h : ∀ x ∈ xs, Nice n x) : Nice (n + 1) (.list xs) := by
  obtain ⟨h1, h2⟩ := nice_all h
  exact ⟨by rw [PyData.canLay0]; exact h1, by rw [PyData.depth]; omega⟩
theorem nice_tuple {n : Nat} {xs : List D} (h : ∀ x ∈ xs, Nice n x) : Nice (n + 1) (.tuple xs) := by
  obtain ⟨h1, h2⟩ := nice_all h
  exact ⟨by rw [PyData.canLay0]; exact h1, by rw [PyData.depth]; omega⟩
theorem nice_pair {n : Nat} {a b : D} (h : Nice n a) (k : Nice n b) : Nice (n + 1) (.tuple [a, b]) := nice_tuple fun x hx => by
  rcases List.mem_cons.mp hx with e | e
  · rw [e]; exact h
  · rw [List.mem_singleton.mp e]; exact k
theorem nice_map {α : Type} {n : Nat} {enc : α → D} {xs : List α} (h : ∀ x ∈ xs, Nice n (enc x)) : Nice (n + 1) (.list (xs.map enc)) := nice_list fun d hd => by
  obtain ⟨x, hx, rfl⟩ := List.mem_map.mp hd
  exact h x hx
mutual
theorem eqv_self : ∀ {d : D}, d.canLay0 = true → PyData.eqv d d = true
  | .none, _ => by simp [PyData.eqv]
  | .bool _, _ => by simp [PyData.eqv]
  | .int _, _ => by simp [PyData.eqv]
  | .str _, _ => by simp [PyData.eqv]
  | .list xs, h => by rw [PyData.eqv]; exact eqvAll_self (by rw [PyData.canLay0] at h; exact h)
  | .tuple xs, h => by rw [PyData.eqv]; exact eqvAll_self (by rw [PyData.canLay0] at h; exact h)
  | .dict _, h => by simp [PyData.canLay0] at h
theorem eqvAll_self : ∀ {ds : List D}, PyData.canLayAll0 ds = true → PyData.eqvAll ds ds = true
  | [], _ => by simp [PyData.eqvAll]
  | d :: ds, h => by
    rw [PyData.canLayAll0, Bool.and_eq_true] at h
    rw [PyData.eqvAll, eqv_self h.1, eqvAll_self h.2]
    rfl
end
theorem ne_self {n : Nat} {d : D} (h : Nice n d) (hn : n ≤ 64 := by decide) : neF d d = some (.sh, .bool false) := by
  unfold neF
  rw [if_pos ⟨h.shaped hn, h.shaped hn⟩, eqv_self h.1]
  rfl
theorem eqF_self {n : Nat} {d : D} (h : Nice n d) (hn : n ≤ 64 := by decide) : eqF d d = some (.sh, .bool true) := by
  unfold eqF
  rw [if_pos ⟨h.shaped hn, h.shaped hn⟩, eqv_self h.1]
theorem eq_int (i j : Int) : eqF (.int i) (.int j) = some (.sh, .bool (decide (i = j))) := by
  unfold eqF
  rw [if_pos ⟨(nice_int i).shaped, (nice_int j).shaped⟩]
  simp [PyData.eqv]
  rfl
theorem ne_int (i j : Int) : neF (.int i) (.int j) = some (.sh, .bool (!decide (i = j))) := by
  unfold neF
  rw [if_pos ⟨(nice_int i).shaped, (nice_int j).shaped⟩]
  simp [PyData.eqv]
  rfl
/-! pairs of ints -/
def tl (p : Int × Int) : D := .tuple [.int p.1, .int p.2]
theorem nice_tl (p : Int × Int) : Nice 1 (tl p) := nice_pair (nice_int _) (nice_int _)
theorem nice_tls (ps : List (Int × Int)) : Nice 2 (.list (ps.map tl)) := nice_map fun p _ => nice_tl p
theorem eqv_tl (p q : Int × Int) : PyData.eqv (tl p) (tl q) = decide (p = q) := by
  obtain ⟨a, b⟩ := p
  obtain ⟨c, d⟩ := q
  simp [tl, PyData.eqv, PyData.eqvAll, Prod.mk.injEq, Bool.decide_and]
  rfl
theorem tl_inj {p q : Int × Int} (h : tl p = tl q) : p = q := by
  obtain ⟨a, b⟩ := p
  obtain ⟨c, d⟩ := q
  simp [tl] at h
  simp [h.1, h.2]
theorem tupsOf_tl : ∀ ps : List (Int × Int), tupsOf (ps.map tl) = some (ps.map fun p => [p.1, p.2])
  | [] => rfl
  | p :: ps => by
    rw [List.map_cons, tl, tupsOf, tupsOf_tl ps]
    rfl
theorem lenSet_tl {ps : List (Int × Int)} (h : ps.length < 64) : lenSetF (.list (ps.map tl)) = some (.sh, .int (cntL (ps.map fun p => [p.1, p.2]))) := by
  simp only [lenSetF, tupsOf_tl]
  rw [if_pos (by simpa using h)]
theorem cnt_tl {ps : List (Int × Int)} (h : ps.Nodup) : cntL (ps.map fun p => [p.1, p.2]) = ps.length := by
  rw [cntL_nd, List.length_map]
  refine List.pairwise_map.mpr (h.imp fun {p q} e z => e ?_)
  obtain ⟨a, b⟩ := p
  obtain ⟨c, d⟩ := q
  simp at z
  simp [z.1, z.2]
theorem intsOf_mp {α : Type} (g : α → Int) : ∀ xs : List α, intsOf (xs.map fun x => .int (g x)) = some (xs.map g)
  | [] => rfl
  | x :: xs => by rw [List.map_cons, intsOf, intsOf_mp g xs]; rfl
theorem boolsOf_mp {α : Type} (g : α → Bool) : ∀ xs : List α, boolsOf (xs.map fun x => .bool (g x)) = some (xs.map g)
  | [] => rfl
  | x :: xs => by rw [List.map_cons, boolsOf, boolsOf_mp g xs]; rfl
theorem sum_map {α : Type} (g : α → Int) (xs : List α) : sumF (.list (xs.map fun x => .int (g x))) = some (.sh, .int (xs.map g).sum) := by rw [sumF, intsOf_mp]; rfl
theorem all_map {α : Type} (g : α → Bool) (xs : List α) : allF (.list (xs.map fun x => .bool (g x))) = some (.sh, .bool (xs.all g)) := by
  rw [allF, boolsOf_mp, Option.map_some, List.all_map]; rfl
/-! sorting by a typed order -/
def insG {α : Type} (le : α → α → Bool) (x : α) : List α → List α
  | [] => [x]
  | y :: l => if le x y = true then x :: y :: l else y :: insG le x l
def sortG {α : Type} (le : α → α → Bool) : List α → List α
  | [] => []
  | x :: l => insG le x (sortG le l)
theorem insD_map {α : Type} {le : α → α → Bool} {enc : α → D} (h : ∀ a b, dle (enc a) (enc b) = le a b) (x : α) : ∀ l : List α, insD (enc x) (l.map enc) = (insG le x l).map enc
  | [] => rfl
  | y :: l => by
    rw [List.map_cons, insD, insG, h]
    split
    · rfl
    · rw [List.map_cons, insD_map h x l]
theorem sortD_map {α : Type} {le : α → α → Bool} {enc : α → D} (h : ∀ a b, dle (enc a) (enc b) = le a b) : ∀ l : List α, sortD (l.map enc) = (sortG le l).map enc
  | [] => rfl
  | x :: l => by
    rw [List.map_cons, sortD, sortG, sortD_map h l, insD_map h]
theorem insG_perm {α : Type} (le : α → α → Bool) (x : α) : ∀ l : List α, (insG le x l).Perm (x :: l)
  | [] => .refl _
  | y :: l => by
    unfold insG
    split
    · exact .refl _
    · exact ((insG_perm le x l).cons y).trans (.swap x y l)
theorem sortG_perm {α : Type} (le : α → α → Bool) : ∀ l : List α, (sortG le l).Perm l
  | [] => .refl _
  | x :: l => (insG_perm le x (sortG le l)).trans ((sortG_perm le l).cons x)
def ple (p q : Int × Int) : Bool := decide (p.1 < q.1 ∨ (p.1 = q.1 ∧ p.2 ≤ q.2))
theorem dle_tl (p q : Int × Int) : dle (tl p) (tl q) = ple p q := congrFun (congrFun (PySem.W.dataLe_ii (fun p : Int × Int => p.1) (fun p => p.2)) p) q
theorem insG_sorted {α : Type} {le : α → α → Bool} (tr : ∀ a b c, le a b = true → le b c = true → le a c = true) (to : ∀ a b, le a b = true ∨ le b a = true) {x : α} : ∀ {l : List α}, l.Pairwise (fun a b => le a b = true) → (insG le x l).Pairwise (fun a b => le a b = true)
  | [], _ => by simp [insG]
  | y :: l, h => by
    obtain ⟨h1, h2⟩ := List.pairwise_cons.mp h
    unfold insG
    split
    · rename_i q
      refine List.pairwise_cons.mpr ⟨fun z hz => ?_, h⟩
      rcases List.mem_cons.mp hz with e | e
      · rw [e]; exact q
      · exact tr _ _ _ q (h1 z e)
    · rename_i q
      refine List.pairwise_cons.mpr ⟨fun z hz => ?_, insG_sorted tr to h2⟩
      rcases List.mem_cons.mp ((insG_perm le x l).mem_iff.mp hz) with e | e
      · rw [e]; exact (to y x).resolve_right q
      · exact h1 z e
theorem sortG_sorted {α : Type} {le : α → α → Bool} (tr : ∀ a b c, le a b = true → le b c = true → le a c = true) (to : ∀ a b, le a b = true ∨ le b a = true) : ∀ l : List α, (sortG le l).Pairwise (fun a b => le a b = true)
  | [] => .nil
  | x :: l => insG_sorted tr to (sortG_sorted tr to l)
/-- two sorted lists of the same things are one -/
theorem sorted_uniq {α : Type} {le : α → α → Bool} (an : ∀ a b, le a b = true → le b a = true → a = b) : ∀ {l m : List α}, l.Pairwise (fun a b => le a b = true) → m.Pairwise (fun a b => le a b = true) → l.Perm m → l = m
  | [], m, _, _, h => (List.Perm.eq_nil h.symm).symm
  | x :: l, [], _, _, h => absurd h.length_eq (by simp)
  | x :: l, y :: m, hl, hm, h => by
    obtain ⟨l1, l2⟩ := List.pairwise_cons.mp hl
    obtain ⟨m1, m2⟩ := List.pairwise_cons.mp hm
    have e : x = y := by
      rcases List.mem_cons.mp (h.mem_iff.mp (List.mem_cons_self (a := x) (l := l))) with e | hx
      · exact e
      · rcases List.mem_cons.mp (h.mem_iff.mpr (List.mem_cons_self (a := y) (l := m))) with e | hy
        · exact e.symm
        · exact an _ _ (l1 y hy) (m1 x hx)
    subst e
    rw [sorted_uniq an l2 m2 h.cons_inv]
theorem ple_tr (a b c : Int × Int) (h : ple a b = true) (k : ple b c = true) : ple a c = true := by
  unfold ple at *
  rw [decide_eq_true_eq] at *
  omega
theorem ple_to (a b : Int × Int) : ple a b = true ∨ ple b a = true := by
  unfold ple
  rw [decide_eq_true_eq, decide_eq_true_eq]
  omega
theorem ple_an (a b : Int × Int) (h : ple a b = true) (k : ple b a = true) : a = b := by
  unfold ple at *
  rw [decide_eq_true_eq] at *
  obtain ⟨a1, a2⟩ := a
  obtain ⟨b1, b2⟩ := b
  simp only [Prod.mk.injEq] at *
  omega
theorem sortOk_of {ds : List D} (h1 : ∀ d ∈ ds, ∀ e ∈ ds, PySem.W.alike d e = true) (h2 : ∀ d ∈ ds, ∃ x r, d = .tuple (x :: r)) (h3 : ∀ d ∈ ds, Nice 40 d) : sortOk ds = true := by
  unfold sortOk
  rw [Bool.and_eq_true, Bool.and_eq_true]
  refine ⟨⟨List.all_eq_true.mpr fun d hd => List.all_eq_true.mpr fun e he => h1 d hd e he, ?_⟩, List.all_eq_true.mpr fun d hd => decide_eq_true (h3 d hd).2⟩
  rw [Bool.or_eq_true]
  refine .inl (List.all_eq_true.mpr fun d hd => ?_)
  obtain ⟨x, r, rfl⟩ := h2 d hd
  rfl
theorem sortOk_tl (ps : List (Int × Int)) : sortOk (ps.map tl) = true := by
  refine sortOk_of (fun d hd e he => ?_) (fun d hd => ?_) fun d hd => ?_
  · obtain ⟨p, _, rfl⟩ := List.mem_map.mp hd
    obtain ⟨q, _, rfl⟩ := List.mem_map.mp he
    simp [tl, PySem.W.alike, PySem.W.alikeAll]
  · obtain ⟨p, _, rfl⟩ := List.mem_map.mp hd
    exact ⟨_, _, rfl⟩
  · obtain ⟨p, _, rfl⟩ := List.mem_map.mp hd
    exact (nice_tl p).up (by decide)
theorem sort_tl (ps : List (Int × Int)) : sortF (.list (ps.map tl)) = some (.ow, .list ((sortG ple ps).map tl)) := by
  rw [sortF, if_pos (sortOk_tl ps), sortD_map dle_tl]
/-! comprehensions over typed lists -/
theorem compGo_map {α : Type} {vs : List Nat} {t : GV} {cd el : EV} {Γ0 : Env} (enc : α → D) (r : α → Option D) : ∀ {xs : List α}, (∀ x ∈ xs, ∃ Γ', comp1 t cd el (enc x) Γ0 = .ok (r x) Γ' ∧ wipeE Γ' vs = Γ0) → compGo vs t cd el (xs.map enc) Γ0 = .ok (xs.filterMap r) Γ0
  | [], _ => rfl
  | x :: xs, h => by
    have ih := compGo_map enc r (xs := xs) fun y hy => h y (by simp [hy])
    have h1 := compGo_pure (vs := vs) (t := t) (cd := cd) (el := el) (Γ0 := Γ0) (r := fun _ => r x) (ds := [enc x]) fun d hd => by
      rw [List.mem_singleton.mp hd]
      exact h x (by simp)
    rw [List.map_cons]
    have key : ∀ (d : D) (ds : List D) (o : Option D) (rs : List D), compGo vs t cd el [d] Γ0 = .ok (o.toList) Γ0 → compGo vs t cd el ds Γ0 = .ok rs Γ0 → compGo vs t cd el (d :: ds) Γ0 = .ok (o.toList ++ rs) Γ0 := by
      intro d ds o rs q1 q2
      unfold compGo at q1 ⊢
      cases e1 : t d Γ0 with
      | exc x Γ1 => rw [e1] at q1; cases q1
      | bad => rw [e1] at q1; cases q1
      | ok u Γ1 =>
        rw [e1] at q1
        simp only at q1 ⊢
        cases e2 : cd Γ1 with
        | exc x Γ2 => rw [e2] at q1; cases q1
        | bad => rw [e2] at q1; cases q1
        | ok s Γ2 =>
          rw [e2] at q1
          obtain ⟨fg, x⟩ := s
          cases x with
          | bool b =>
            cases b with
            | true =>
              simp only at q1 ⊢
              cases e3 : el Γ2 with
              | exc x Γ3 => rw [e3] at q1; cases q1
              | bad => rw [e3] at q1; cases q1
              | ok x Γ3 =>
                rw [e3] at q1
                simp only [compGo] at q1 ⊢
                injection q1 with w1 w2
                rw [w2, q2]
                simp only
                rw [← w1]
                rfl
            | false =>
              simp only [compGo] at q1 ⊢
              injection q1 with w1 w2
              rw [w2, q2, ← w1]
              rfl
          | _ => cases q1
    have := key (enc x) (xs.map enc) (r x) (xs.filterMap r) (by rw [h1]; cases r x <;> rfl) ih
    rw [this]
    cases q : r x <;> simp [q]
theorem eComp_map {α : Type} {vs : List Nat} {it : IV} {t : GV} {cd el : EV} {Γ Γ1 : Env} {xs : List α} (enc : α → D) (r : α → Option D) (hi : it Γ = .ok (xs.map enc) Γ1) (hl : xs.length ≤ 1000000) (h : ∀ x ∈ xs, ∃ Γ', comp1 t cd el (enc x) (wipeE Γ1 vs) = .ok (r x) Γ' ∧ wipeE Γ' vs = wipeE Γ1 vs) :
    eComp vs it t cd el Γ = .ok (.ow, .list (xs.filterMap r)) (restE Γ1 (wipeE Γ1 vs) vs) := by
  unfold eComp
  rw [hi]
  simp only [Rs.bind]
  rw [if_pos (by simpa using hl), compGo_map enc r h]
/-- each gives one -/
theorem eComp_each {α : Type} {vs : List Nat} {it : IV} {t : GV} {cd el : EV} {Γ Γ1 Γ2 : Env} {xs : List α} (enc : α → D) (g : α → D) (hi : it Γ = .ok (xs.map enc) Γ1) (hl : xs.length ≤ 1000000) (hr : restE Γ1 (wipeE Γ1 vs) vs = Γ2) (h : ∀ x ∈ xs, ∃ Γ', comp1 t cd el (enc x) (wipeE Γ1 vs) = .ok (some (g x)) Γ' ∧ wipeE Γ' vs = wipeE Γ1 vs) :
    eComp vs it t cd el Γ = .ok (.ow, .list (xs.map g)) Γ2 := by
  rw [eComp_map enc (fun x => some (g x)) hi hl h, hr, ← List.filterMap_eq_map]
  rfl
theorem fm_if {α β : Type} (p : α → Bool) (g : α → β) : ∀ xs : List α, (xs.filterMap fun x => if p x = true then some (g x) else none) = (xs.filter p).map g
  | [] => rfl
  | x :: xs => by
    rw [List.filterMap_cons, List.filter_cons, fm_if p g xs]
    cases q : p x <;> simp
/-- some stay -/
theorem eComp_some {α : Type} {vs : List Nat} {it : IV} {t : GV} {cd el : EV} {Γ Γ1 Γ2 : Env} {xs : List α} (enc : α → D) (p : α → Bool) (g : α → D) (hi : it Γ = .ok (xs.map enc) Γ1) (hl : xs.length ≤ 1000000) (hr : restE Γ1 (wipeE Γ1 vs) vs = Γ2) (h : ∀ x ∈ xs, ∃ Γ', comp1 t cd el (enc x) (wipeE Γ1 vs) = .ok (if p x = true then some (g x) else none) Γ' ∧ wipeE Γ' vs = wipeE Γ1 vs) :
    eComp vs it t cd el Γ = .ok (.ow, .list ((xs.filter p).map g)) Γ2 := by
  rw [eComp_map enc _ hi hl h, hr, fm_if]
theorem enumD_zip (ds : List D) : enumD ds = ds.zipIdx.map fun p => .tuple [.int (p.2 : Nat), p.1] := by
  unfold enumD
  apply List.ext_getElem
  · simp
  · intro i h1 h2
    simp at h1
    simp [h1]
end DL

namespace DL
open PySem L2
/-! ### methods that change an owned list -/
section
variable {c : Ck} {M M' : Addr → Prop} {own own' : Nat → Option Addr} {Γ Γ' : Env} {σ : St} {H H' : Hp}
/-- an owned list is rewritten -/
theorem Sd.rewrite {i : Nat} {p : Addr} {d : D} {ys : List V} {ds' : List D} (sd : Sd c M own Γ σ H) (h : Γ[i]? = some (some (true, d))) (hp : own i = some p) (hσ : σ[i]? = some (some (.ref p))) (r : RpAll c.k (hid M H) ys ds') :
    Fr M own H M own (upd H p (.lst ys)) ∧ Sd c M own (Γ.set i (some (true, .list ds'))) σ (upd H p (.lst ys)) := by
  have hM := sd.wf.hidn i p hp
  have eh : hid M (upd H p (.lst ys)) = hid M H := hid_upd hM
  refine ⟨⟨fun a o e n => ?_, fun j q e => .inl ⟨j, e⟩, fun a e => .inl e, fun a e _ => e⟩, ⟨⟨sd.wf.inj, sd.wf.hidn, fun a e => ?_⟩, by simpa using sd.len, fun j d' e => ?_, fun j d' e => ?_, sd.pin⟩⟩
  · rw [upd_ne (show a ≠ p from fun z => n i (z ▸ hp))]; exact e
  · by_cases z : a = p
    · subst z; rw [upd_same]; exact fun z => nomatch z
    · rw [upd_ne z]; exact sd.wf.dom a e
  · rcases get_set e with ⟨e1, e2, e3⟩ | ⟨e1, e2⟩
    · cases e3
    · rw [eh]; exact sd.val j d' e2
  · rw [eh]
    rcases get_set e with ⟨e1, e2, e3⟩ | ⟨e1, e2⟩
    · cases e3; subst e1
      exact ⟨p, hp, hσ, ys, by rw [upd_same], r⟩
    · obtain ⟨q, q1, q2, q3⟩ := sd.ow j d' e2
      refine ⟨q, q1, q2, q3.mono (Same.refl _) fun o y => ?_⟩
      rw [upd_ne (show q ≠ p from fun z => e1 (sd.wf.inj j i p (z ▸ q1) hp))]; exact y
end
def upR (i : Nat) (U : List D → List D → Option (D × List D)) (xs : List D) (Γ : Env) : Rs Sl := match Γ[i]? with
  | some (some (true, .list ds)) => match U ds xs with
    | some (d, ds') => .ok (.sh, d) (Γ.set i (some (true, .list ds')))
    | none => .bad
  | _ => .bad
def eUp (i : Nat) (U : List D → List D → Option (D × List D)) (as : Env → Rs (List D)) : EV := fun Γ => match Γ[i]? with
  | some (some (true, .list _)) => (as Γ).bind (upR i U)
  | _ => .bad
def UpOk (c : Ck) (r : V → List V → Hp → VK → Prop) (U : List D → List D → Option (D × List D)) : Prop := ∀ (M : Addr → Prop) (H : Hp) (Q : VK) (p : Addr) (xs vs : List V) (ds as ds' : List D) (d : D), H p = some (.lst xs) → RpAll c.k (hid M H) xs ds → RpAll c.k (hid M H) vs as → U ds as = some (d, ds') →
  (∀ y ys, Rp c.k (hid M H) y d → RpAll c.k (hid M H) ys ds' → Q y (upd H p (.lst ys))) → r (.ref p) vs H Q
section
variable {X : Cx} {c : Ck}
theorem up_imp {i : Nat} {U : List D → List D → Option (D × List D)} {r : V → List V → Hp → VK → Prop} {as : Env → Rs (List D)} (hr : UpOk c r U) : ∀ σ H Q, tE c (eUp i U as) σ H Q → tBM c.k.K "list" r (tE c (eVar i)) (tAs c as) σ H Q := by
  intro σ H Q ⟨M, own, Γ, sd, g⟩
  unfold eUp at g
  split at g
  · rename_i ds0 e0
    refine ⟨M, own, Γ, sd, ?_⟩
    have ev : eVar i Γ = .ok (.bo i, .list ds0) Γ := by unfold eVar; rw [e0]
    rw [ev]
    intro v H1 M1 own1 f1 sd1 rs
    obtain ⟨p, o1, o2, xs, o3, o4⟩ := sd1.ow i _ e0
    have hv : v = .ref p := by
      have := rs.2
      rw [o2] at this
      exact (Option.some.inj (Option.some.inj this)).symm
    subst hv
    refine ⟨.inl ⟨rfl, xs, SqL.of o3⟩, ?_⟩
    refine tAs_mono (fun vs H2 ⟨M2, own2, Γ2, args, f2, sd2, r2, g2⟩ => ?_) (tAs_bind sd1 (Good.after sd.wf f1 g))
    unfold upR at g2
    split at g2
    · rename_i ds e2
      split at g2
      · rename_i d ds' eU
        obtain ⟨p2, q1, q2, xs2, q3, q4⟩ := sd2.ow i _ e2
        have hp : p2 = p := by
          rw [o2] at q2
          injection q2 with q2
          injection q2 with q2
          injection q2 with q2
          exact q2.symm
        subst hp
        refine hr M2 H2 Q p2 xs2 vs ds args ds' d q3 q4 r2 eU fun y ys ry rys => ?_
        obtain ⟨f3, sd3⟩ := sd2.rewrite e2 q1 q2 rys
        exact g2 y _ M2 own2 f3 sd3 (Res.val (by rw [hid_upd (sd2.wf.hidn i _ q1)]; exact ry))
      · exact g2.elim
    · exact g2.elim
  · exact g.elim
def apU (ds as : List D) : Option (D × List D) := match as with
  | [x] => if ds.length < 1000000 then some (.none, ds ++ [x]) else none
  | _ => none
theorem ap_ok : UpOk c rAppend apU := by
  intro M H Q p xs vs ds as ds' d h1 h2 h3 e k
  unfold apU at e
  split at e
  · split at e
    · rename_i x hl
      cases e
      cases h3 with
      | cons h4 h5 =>
        cases h5
        refine ⟨p, xs, _, rfl, rfl, h1, ?_, k _ _ .non (h2.app (.cons h4 .nil))⟩
        rw [h2.len, sizeLine_eq]
        omega
    · cases e
  · cases e
theorem d_append {i : Nat} {x : Expr} {e : Expr} {f : EV} {apos cpos : Pos} (hK : X.K = c.k.K) (ho : PE X x (tE c (eVar i))) (ha : PE X e (tE c f))
    (hbase : attributeBase x "append" X.env (eval x X.env) = eval x X.env := by rfl)
    (hfew : ((backTo cpos (starEach [e] X.env)).all (fun x => !x.1) && (backToKw cpos (keywordEach [] X.env)).all (fun x => x.1.isSome) && decide ([e].length + ([] : List Keyword).length + (if ([] : List Keyword).isEmpty then 0 else 1) < 30)) = true := by rfl)
    (hline : (apos.endLine == cpos.line) = true := by rfl) (hs : starEach [e] X.env = (false, eval e X.env) :: starEach [] X.env := by rfl) (hplain : (backTo cpos (starEach [] X.env)).any (·.1) = false := by rfl) :
    PE X (.Call (.Attribute x "append" apos) [e] [] cpos) (tE c (eUp i apU (aCons f aNil))) :=
  (pe_bm F.plainAttrs_list F.slot_list_append rfl (r := rAppend) (fun pins s σ H x xs v us Q a b d e => mt_append pins s σ H x xs v us Q a b d e) ho (d_acons ha d_anil hs) hbase hfew hline hs hplain).imp fun σ H Q h => by
    rw [hK]
    exact up_imp ap_ok σ H Q h
def popU (ds as : List D) : Option (D × List D) := match as with
  | [] => match ds[ds.length - 1]? with
    | some d => some (d, ds.dropLast)
    | none => none
  | _ => none
theorem RpAll.dropLast {k : Kc} {H : Hp} : ∀ {vs : List V} {ds : List D}, RpAll k H vs ds → RpAll k H vs.dropLast ds.dropLast
  | _, _, .nil => .nil
  | _, _, .cons h .nil => .nil
  | _, _, .cons h (.cons h1 h2) => .cons h (RpAll.dropLast (.cons h1 h2))
theorem pop_ok : UpOk c rPop popU := by
  intro M H Q p xs vs ds as ds' d h1 h2 h3 e k
  unfold popU at e
  split at e
  · split at e
    · rename_i d0 hd
      cases e
      cases h3
      obtain ⟨v, hv, rv⟩ := h2.get hd
      exact ⟨p, xs, v, rfl, rfl, h1, by rw [h2.len]; exact hv, k _ _ rv h2.dropLast⟩
    · cases e
  · cases e
theorem d_pop {i : Nat} {x : Expr} {apos cpos : Pos} (hK : X.K = c.k.K) (ho : PE X x (tE c (eVar i)))
    (hbase : attributeBase x "pop" X.env (eval x X.env) = eval x X.env := by rfl) (hline : (apos.endLine == cpos.line) = true := by rfl) :
    PE X (.Call (.Attribute x "pop" apos) [] [] cpos) (tE c (eUp i popU aNil)) :=
  (pe_bm0 F.plainAttrs_list F.slot_list_pop rfl (r := rPop) (fun pins s σ H x xs v us Q a b d e => mt_pop pins s σ H x xs v us Q a b d e) ho hbase hline).imp fun σ H Q h => by
    rw [hK]
    exact tE_mono (fun v H1 ⟨a, M, own, Γ, sd, g⟩ => ⟨a, g [] H1 M own Fr.refl sd .nil⟩) (up_imp pop_ok σ H Q h)
/-! ### list(range(..)) -/
def eLRg1 (f : EV) : EV := fun Γ => (f Γ).bindV fun d Γ => match d with
  | .int j => if 0 ≤ j ∧ j ≤ 1000000 then .ok (.ow, .list (rangeD 0 1 j.toNat)) Γ else .bad
  | _ => .bad
theorem rg_all {k : Kc} {H : Hp} (j : Int) : RpAll k H (rgV 0 j) (rangeD 0 1 j.toNat) := by
  unfold rgV rangeD
  rw [Int.sub_zero]
  generalize List.range j.toNat = l
  induction l with
  | nil => exact .nil
  | cons x l ih =>
    refine .cons ?_ ih
    show Rp k H (V.int (0 + (x : Int))) (PyData.int (0 + (x : Int) * 1))
    rw [Int.mul_one]
    exact .int _
theorem d_listRg1 {e : Expr} {f : EV} {p p2 pos2 pos : Pos} (hc : X.calm = true) (hg : Gl X "list") (hm : X.mg "list" = none) (hg2 : Gl X "range") (hm2 : X.mg "range" = none) (ha : PE X e (tE c f)) (na : starEach [e] X.env = (false, eval e X.env) :: starEach [] X.env := by rfl)
    (nb : starEach [.Call (.Name "range" p2) [e] [] pos2] X.env = (false, eval (.Call (.Name "range" p2) [e] [] pos2) X.env) :: starEach [] X.env := by rfl) : PE X (.Call (.Name "list" p) [.Call (.Name "range" p2) [e] [] pos2] [] pos) (tE c (eLRg1 f)) :=
  (pe_listRg hc hg hm (prg_1 hg2 hm2 ha na) nb).imp fun σ H Q ⟨M, own, Γ, sd, g⟩ => by
    refine tE_mono (fun v H1 ⟨M1, own1, Γ1, d, f1, sd1, r1, g1⟩ => ?_) (tE_bind sd g)
    split at g1
    · split at g1
      · rename_i j hj
        cases r1
        refine ⟨j, rfl, ⟨by decide, by decide, by omega, by omega, by omega⟩, fun q hq => ?_⟩
        have k : Kont c M1 own1 H1 (.ow, .list (rangeD 0 1 j.toNat)) Γ1 σ Q := g1
        exact k.lst sd1 hq (rg_all j)
      · exact g1.elim
    · exact g1.elim
end
/-! equations -/
@[simp] theorem upR_app (i : Nat) (x : D) (ds : List D) (Γ : Env) (h : Γ[i]? = some (some (true, .list ds))) (hl : ds.length < 1000000) : upR i apU [x] Γ = .ok (.sh, .none) (Γ.set i (some (true, .list (ds ++ [x])))) := by
  simp [upR, h, apU, hl]
end DL

namespace HT
open PySem PySem.Spec PyProof.Rows
section
variable {prog : Program} {w : World} {A : Around} {E : Value → Shared → Prop} {s : Shared}
theorem adjust_rev (n : Nat) : Builtin.Slice.sliceAdjust none none (-1) (n : Int) = ((n : Int) - 1, -1) := by
  unfold Builtin.Slice.sliceAdjust
  simp
theorem places_rev (n : Nat) : Builtin.Slice.slicePlaces ((n : Int) - 1) (-1) (-1) = n := by
  unfold Builtin.Slice.slicePlaces
  simp
  omega
theorem sliceApplied_rev {sl : Addr} {vl vu vs : Value} {n : Nat} {Q : Int × Int × Nat → Shared → Prop} (hs : s.heap.IsSliceOf sl vl vu vs) (pl : IsPart vl none) (pu : IsPart vu none) (ps : IsPart vs (some (-1)))
    (h : Q ((n : Int) - 1, -1, n) s) : wpAny (model prog w) A (Builtin.Slice.sliceApplied (.ref sl) (pure (n : Int))) Q E s := by
  obtain ⟨os, hos, hcs, hds⟩ := id hs
  unfold Builtin.Slice.sliceApplied Builtin.Slice.sliceFields
  refine wpAny_bind (wpAny_bind (wpAny_field hos hds (x := vl) rfl (wpAny_bind (wpAny_field hos hds (x := vu) rfl (wpAny_bind (wpAny_field hos hds (x := vs) rfl (wpAny_pure ?_)))))))
  refine wpAny_bind (slicePart_ ps ?_)
  show wpAny _ _ (if ((-1 : Int) == 0) = true then _ else _) _ _ s
  rw [if_neg (by decide)]
  refine wpAny_bind (slicePart_ pl (wpAny_bind (slicePart_ pu (wpAny_bind (wpAny_pure ?_)))))
  show wpAny _ _ (match Builtin.Slice.sliceAdjust none none (-1) (n : Int) with | (lo, hi) => pure (lo, (-1 : Int), Builtin.Slice.slicePlaces lo hi (-1))) _ _ s
  rw [adjust_rev n]
  show wpAny _ _ (pure ((n : Int) - 1, (-1 : Int), Builtin.Slice.slicePlaces ((n : Int) - 1) (-1) (-1))) _ _ s
  rw [places_rev]
  exact wpAny_pure h
theorem pick_rev (xs : Array Value) : ((List.range xs.size).filterMap fun (m : Nat) => xs[(((xs.size : Int) - 1) + (m : Int) * (-1)).toNat]?).toArray = xs.toList.reverse.toArray := by
  congr 1
  have e : ((List.range xs.size).filterMap fun (m : Nat) => xs[(((xs.size : Int) - 1) + (m : Int) * (-1)).toNat]?) = ((List.range xs.size).map fun k => xs.size - 1 - k).filterMap (xs[·]?) := by
    rw [List.filterMap_map]
    congr 1
    funext m
    simp only [Function.comp]
    congr 1
    omega
  rw [e, PySem.W.krv_range, List.filterMap_reverse, PySem.W.krv_all]
theorem getItem_tuple_rev {t sl : Addr} {items : Array Value} {vl vu vs : Value} {Q : Value → Shared → Prop} (ht : IsTup s.heap t items) (hs : s.heap.IsSliceOf sl vl vu vs) (pl : IsPart vl none) (pu : IsPart vu none) (ps : IsPart vs (some (-1)))
    (h : Q (.ref s.heap.objs.size) { s with heap := s.heap.push { cls := .type "tuple", data := .seq items.toList.reverse.toArray } })
    (hsz : items.size ≤ sizeLine) : wpAny (model prog w) A (getItem (.ref t) (.ref sl)) Q E s := by
  have htake : sizeOk (.seq items.toList.reverse.toArray) := by
    show items.toList.reverse.toArray.size ≤ sizeLine
    rw [List.size_toArray, List.length_reverse, Array.length_toList]
    exact hsz
  obtain ⟨os, hos, hcs, hds⟩ := id hs
  have hTs : s.TypeIs (.ref sl) "slice" := ⟨os, hos, hcs⟩
  unfold getItem
  try with_reducible refine wpAny_holding ?_
  first | refine wpAny_bind (wpAny_pure ?_) | skip
  refine wpAny_bind (wpAny_sequenceKey ht.typeIs (by decide) ?_)
  refine wpAny_bind (wpAny_callSpecial?_slot (name := Str.ofString "__getitem__") ht.typeIs PyProof.Rows.slot_tuple_getitem
    (wpAny_call_entry PyProof.Rows.slot_tuple_getitem ht.typeIs entry_tuple_getitem ?_ (args_tuple_getitem _ _)))
  show wpAny _ _ (Builtin.Tuple.tupleItemsOf (.ref t) >>= _) _ _ s
  refine wpAny_bind (tupleItemsOf_ ht ?_)
  refine wpAny_bind (wpAny_typeOf hTs ?_)
  rw [if_pos (by decide)]
  refine wpAny_bind (sliceApplied_rev hs pl pu ps ?_)
  show wpAny _ _ (if (((items.size : Int) - 1) == 0 && (-1 : Int) == 1 && items.size == items.size) = true then _ else _) _ _ s
  rw [if_neg (by simp), pick_rev]
  first
    | exact wpAny_bind (m := Builtin.Tuple.tupleExact _) (wpAny_newObj_type (wpAny_pure ⟨_, rfl, wpAny_pure h⟩) htake)
    | exact wpAny_bind (m := Builtin.Tuple.tupleExact _) (wpAny_newObj_type (wpAny_bind (wpAny_pure (wpAny_pure ⟨_, rfl, wpAny_pure h⟩))) htake)
    | exact wpAny_bind (wpAny_bind (m := Builtin.Tuple.tupleExact _) (wpAny_newObj_type (wpAny_pure (wpAny_pure ⟨_, rfl, wpAny_pure h⟩)) htake))
    | exact wpAny_bind (wpAny_bind (m := Builtin.Tuple.tupleExact _) (wpAny_newObj_type (wpAny_pure ⟨_, rfl, wpAny_pure h⟩) htake))
end
end HT
namespace DL
open PySem PySem.Spec PyProof.Rows L2
/-! ### xs[::-1] of lists and tuples -/
section
variable {X : Cx} {c : Ck}
def tRevA (K : PySem.W.Frag) (te : TE) : TE := fun σ H Q => te σ H fun x H1 => ∃ a xs, x = .ref a ∧ ((SqL K H1 a xs ∧ ∀ p, H1 p = none → Q (.ref p) (upd H1 p (.lst xs.reverse))) ∨ (SqT K H1 a xs ∧ ∀ p, H1 p = none → Q (.ref p) (upd H1 p (.tup xs.reverse))))
theorem pe_revA {e : Expr} {te : TE} {k : Nat} {p1 p2 p3 pos : Pos} (he : PE X e te) : PE X (.Subscript e (.Slice none none (some (.UnaryOp .USub (.Constant (.int 1) k p1) p2)) p3) pos) (tRevA X.K te) := by
  refine ⟨fun pins s σ H Q I h => ?_⟩
  refine Subscript_ (thn (he.run pins s σ H _ I h) fun v s1 ⟨x, H1, I1, r1, q1⟩ => ?_)
  obtain ⟨a, xs, ex, hx⟩ := q1
  subst ex
  cases r1
  have hst : PO X (some (.UnaryOp .USub (.Constant (.int 1) k p1) p2)) (tPart (tUn (rU fun i => .int (-i)) (tC (.int 1)))) := po_some (pe_un un_neg pe_int)
  refine wpAny_Slice (thn (po_none.run pins s1 σ H1 (fun o H2 => o = none ∧ H2 = H1) I1 ⟨rfl, rfl⟩) fun vl s2 ⟨l, H2, I2, pl, el, e2⟩ => ?_)
  subst el e2
  refine thn (po_none.run pins s2 σ H2 (fun o H3 => o = none ∧ H3 = H2) I2 ⟨rfl, rfl⟩) fun vu s3 ⟨u, H3, I3, pu, eu, e3⟩ => ?_
  subst eu e3
  refine thn (hst.run pins s3 σ H3 (fun o H4 => o = some (-1) ∧ H4 = H3) I3 ⟨1, rfl, -1, rfl, rfl, rfl⟩) fun vs s4 ⟨o, H4, I4, ps, eo, e4⟩ => ?_
  subst eo e4
  have I5 : Inv X pins σ H4 { s4 with heap := s4.heap.push { cls := .type "slice", data := .fields #[vl, vu, vs] } } := I4.kept (t' := s4.toks) fun b ob q => Heap.get?_push_of_some _ q
  rcases hx with ⟨hx, q⟩ | ⟨hx, q⟩
  · obtain ⟨its, r, ht, hz⟩ := I5.list hx
    have hlen := r.length
    show wpAny (model X.prog X.w) X.A (subscriptTail e (.Slice none none (some (.UnaryOp .USub (.Constant (.int 1) k p1) p2)) p3) (.ref a) (.ref s4.heap.objs.size)) (EP X pins σ Q) X.xe { s4 with heap := s4.heap.push { cls := .type "slice", data := .fields #[vl, vu, vs] } }
    refine tail_any (ops := [.ref a, .ref s4.heap.objs.size]) ht.isList.typeIs (PySem.slot_list_getitem.lookup) ?_ (by with_unfolding_all rfl)
    refine wpAny_getItem_list_slice ht.isList (Heap.IsSliceOf.new _ vl vu vs) pl pu ps (by decide) ?_ (by rw [List.size_toArray]; omega)
    rw [PySem.W.krv_pick]
    refine ⟨.ref _, _, I5.laid (t' := s4.toks) (o := .lst xs.reverse) (fun b ob q => Heap.get?_push_of_some _ q) (Nat.le_refl _) ?_, rfl, q _ (I5.hok.fresh (Nat.le_refl _))⟩
    exact ⟨by rw [List.length_reverse]; exact hz, _, 0, r.reverse, Heap.get?_push_size _ rfl⟩
  · obtain ⟨its, r, ht, hz⟩ := I5.tuple hx
    have hlen := r.length
    show wpAny (model X.prog X.w) X.A (subscriptTail e (.Slice none none (some (.UnaryOp .USub (.Constant (.int 1) k p1) p2)) p3) (.ref a) (.ref s4.heap.objs.size)) (EP X pins σ Q) X.xe { s4 with heap := s4.heap.push { cls := .type "slice", data := .fields #[vl, vu, vs] } }
    refine tail_any (ops := [.ref a, .ref s4.heap.objs.size]) ht.typeIs (PyProof.Rows.slot_tuple_getitem.lookup) ?_ (by with_unfolding_all rfl)
    refine HT.getItem_tuple_rev ht (Heap.IsSliceOf.new _ vl vu vs) pl pu ps ?_ (by rw [List.size_toArray]; omega)
    refine ⟨.ref _, _, I5.laid (t' := s4.toks) (o := .tup xs.reverse) (fun b ob q => Heap.get?_push_of_some _ q) (Nat.le_refl _) ?_, rfl, q _ (I5.hok.fresh (Nat.le_refl _))⟩
    exact ⟨by rw [List.length_reverse]; exact hz, _, r.reverse, IsTup.new _ _⟩
def revF : D → Option Sl
  | .list ds => some (.ow, .list ds.reverse)
  | .tuple ds => some (.sh, .tuple ds.reverse)
  | _ => none
theorem revF_ok : UnF c (fun x H Q => ∃ a xs, x = .ref a ∧ ((SqL c.k.K H a xs ∧ ∀ p, H p = none → Q (.ref p) (upd H p (.lst xs.reverse))) ∨ (SqT c.k.K H a xs ∧ ∀ p, H p = none → Q (.ref p) (upd H p (.tup xs.reverse))))) revF := by
  intro x a M own Γ σ H Q s sd rx e k
  unfold revF at e
  split at e
  · cases e
    obtain ⟨p, xs, rfl, h1, h2⟩ := rx.list
    exact ⟨p, xs, rfl, .inl ⟨h1, fun l hl => k.lst sd hl h2.rev⟩⟩
  · cases e
    obtain ⟨p, xs, rfl, h1, h2, h3⟩ := rx.tuple
    exact ⟨p, xs, rfl, .inr ⟨h1, fun l hl => k.tup sd hl h2.rev⟩⟩
  · cases e
theorem d_rev (hK : X.K = c.k.K) {f : EV} {e : Expr} {k : Nat} {p1 p2 p3 pos : Pos} (ha : PE X e (tE c f)) : PE X (.Subscript e (.Slice none none (some (.UnaryOp .USub (.Constant (.int 1) k p1) p2)) p3) pos) (tE c (eUn revF f)) :=
  (pe_revA ha).imp fun σ H Q h => by
    rw [hK]
    exact unF_imp revF_ok σ H Q h
end
end DL

namespace DL
open PySem PySem.Spec PyProof.Rows L2
/-! ### defs with defaults -/
section
variable {P : Program} {w : World} {mg : Str → Option Value} {base : Heap}
theorem fnVD {kc : Kc} {x qual : Str} {st : Stmt} {f : Addr} {fd : FuncData} {dvs : List V} {N ps : List Str} {k : Nat} {g : SV} (F : FunD kc.K x qual (defArgs st) (defBody st) (defScope st) dvs [] f fd) (S : FnScope N ps (defScope st))
    (hb : ∀ (cdv : Value) (A : Around) (outer : List PySem.Env) (s : Shared) (H : Hp) (E : XK), Room k (A.deeper (PyProof.Rows.envOfC qual (defScope st) s.heap.objs.size f cdv)) →
      PSs (cxOf (L2.CX P w) P w kc.K mg base N qual (defScope st) f cdv A outer s H E) (defBody st) (tS (ckOf kc E) g)) : FnOk P w kc.K mg base (L2.CX P w) (k + 1) f fd ps (spV kc ps.length (finF N.length g)) := by
  refine F.ok S (fun vs H Q E h => h.1) fun cdv A outer s H vs Q E hr h => ?_
  obtain ⟨hl, M, ds, hd, r, hF⟩ := h
  refine ⟨_, hb cdv A outer s H E hr, M, own0, startE N.length ds, sd_start (c := ckOf kc E) rfl hd r, ?_⟩
  unfold finF at hF
  have toF : ∀ {M' own' H'}, Fr M own0 H M' own' H' → Fr M own0 H M' own0 H' := fun f => ⟨f.keep, fun _ _ z => (nomatch z), f.mle, f.mge⟩
  cases e : g (startE N.length ds) with
  | exc x Γ' => rw [e] at hF; exact fun σ' H' M' own' dct f s xo => hF H' M' dct (toF f) s.wf.dom xo
  | bad => rw [e] at hF; exact hF
  | ok fl Γ' =>
    rw [e] at hF
    cases fl with
    | nx => exact fun σ' H' M' own' f s => hF .non H' M' (toF f) s.wf.dom .non
    | bk => exact hF.elim
    | ct => exact hF.elim
    | rt sl =>
      obtain ⟨fg, d⟩ := sl
      cases fg with
      | bo i => exact hF.elim
      | sh => exact fun v σ' H' M' own' f s rs => hF v H' M' (toF f) s.wf.dom rs
      | ow =>
        intro v σ' H' M' own' f s rs
        obtain ⟨p, h0, h1, h2, h3, h4⟩ := rs
        refine hF v H' M' (toF f) s.wf.dom ⟨p, h0, h1, ?_, h4⟩
        rcases h3 with z | ⟨_, z⟩
        · exact z
        · cases z
end
theorem funD_mk {K : PySem.W.Frag} {x qual : Str} {st : Stmt} {f T : Addr} {oc : Value} {od an : Option Addr} {osl : Array (Option Value)} {kV doc pm cdv ct : Value} {o : Obj} {its : List Value} {n : Nat} {dvs : List V}
    (l : K.lookup f = some ⟨oc, od, .func (PySem.W.fnOf x qual (defArgs st) (defBody st) (defScope st) (.ref T) kV doc pm an cdv ct), osl⟩) (c : PySem.W.codeIn K cdv qual = true) (k : PySem.W.keepIn K (.ref f) = true)
    (lT : K.lookup T = some o) (hd : o.data = .seq its.toArray n) (hv : Vals dvs its) (hne : dvs ≠ []) : FunD K x qual (defArgs st) (defBody st) (defScope st) dvs [] f (PySem.W.fnOf x qual (defArgs st) (defBody st) (defScope st) (.ref T) kV doc pm an cdv ct) :=
  ⟨⟨oc, od, _, kV, doc, pm, an, cdv, ct, osl, rfl, l, c, .inr ⟨hne, T, o, its, n, rfl, lT, hd, hv⟩, .inl rfl⟩, k⟩
/-- all parameters are written -/
theorem bindsFull {K : PySem.W.Frag} {x qual : Str} {st : Stmt} {f : Addr} {fd : FuncData} {dvs : List V} {ps : List Str} (F : FunD K x qual (defArgs st) (defBody st) (defScope st) dvs [] f fd) (hd : dvs ≠ [])
    (h : ∀ (T : Addr) (kV doc pm : Value) (an : Option Addr) (cdv ct : Value) (us its : List Value), us.length = ps.length → its.length = dvs.length →
      ∃ k, bindArgs (PySem.W.fnOf x qual (defArgs st) (defBody st) (defScope st) (.ref T) kV doc pm an cdv ct) ⟨us, []⟩ = seqItems? (.ref T) >>= k ∧ k (some its.toArray) = pure (ps.zip (us ++ its.drop dvs.length))) : Binds K fd ps [] := by
  obtain ⟨ds, h1, h2⟩ := F.binds1 ps.length dvs.length hd (by omega) h
  have e : ds = [] := by
    rw [List.drop_length] at h1
    cases h1
    rfl
  rw [e] at h2
  exact h2
/-! ### sum of a list or a tuple of ints -/
section
variable {X : Cx} {c : Ck}
def rSumT (K : PySem.W.Frag) : List V → Hp → VK → Prop := fun vs H Q => ∃ (a : Addr) (ns : List Int), vs = [V.ref a] ∧ SqT K H a (ns.map V.int) ∧ Q (.int ns.sum) H
theorem cr_sumT (hc : X.calm = true) : CallR X (.builtin "sum") (rSumT X.K) := by
  intro pins s σ H vs us Q I r h
  obtain ⟨a, ns, rfl, hs, q⟩ := h
  obtain ⟨its, rv, hl, _⟩ := I.tuple hs
  rw [Vals.ref1 r]
  have hi := rv.ints
  obtain ⟨xs, e⟩ := hi.allInts.items
  have hn : numsOf (intItems xs).toList = ns := by rw [← e]; exact hi.numsOf
  rw [nums_intItems] at hn
  have hl' : s.heap.IsTuple a (intItems xs) := by rw [← e]; exact hl
  refine PySem.W.ktm_sumG (I.ok.hd hc) hl' fun h' tk t' hk => ?_
  rw [preSum_eq, List.take_of_length_le (by simp), hn]
  exact ⟨.int _, H, I.kept hk, ⟨_, rfl⟩, q⟩
def sumAF : D → Option Sl
  | .list ds => (intsOf ds).map fun bs => (.sh, .int bs.sum)
  | .tuple ds => (intsOf ds).map fun bs => (.sh, .int bs.sum)
  | _ => none
theorem sumAF_ok : UnF c (fun x H Q => rSum c.k.K [x] H Q ∨ rSumT c.k.K [x] H Q) sumAF := by
  intro x a M own Γ σ H Q s sd rx e k
  unfold sumAF at e
  split at e
  · rename_i ds
    cases q : intsOf ds with
    | none => rw [q] at e; cases e
    | some bs =>
      rw [q] at e
      cases e
      obtain ⟨p, xs, rfl, h1, h2⟩ := rx.list
      cases ints_all h2 q
      exact .inl ⟨p, bs, rfl, h1, k.int sd⟩
  · rename_i ds
    cases q : intsOf ds with
    | none => rw [q] at e; cases e
    | some bs =>
      rw [q] at e
      cases e
      obtain ⟨p, xs, rfl, h1, h2, _⟩ := rx.tuple
      cases ints_all h2 q
      exact .inr ⟨p, bs, rfl, h1, k.int sd⟩
  · cases e
theorem d_sumA (hK : X.K = c.k.K) (hc : X.calm = true) {f : EV} {e : Expr} {p pos : Pos} (hg : Gl X "sum") (hm : X.mg "sum" = none) (ha : PE X e (tE c f)) (he : starEach [e] X.env = (false, eval e X.env) :: starEach [] X.env := by rfl) : PE X (.Call (.Name "sum" p) [e] [] pos) (tE c (eUn sumAF f)) :=
  d_b1 ((cr_sum (X := X) hc).or (cr_sumT hc)) (by rw [hK]; exact sumAF_ok) hg hm (by decide +kernel) ha (he := he)
end
end DL

namespace DL
open PySem PySem.Spec PyProof.Rows L2
/-! ### calls with keywords (in the parameters' order, behind the positional ones) -/
def aApp (f g : Env → Rs (List D)) : Env → Rs (List D) := fun Γ => (f Γ).bind fun xs Γ => (g Γ).bind fun ys Γ => .ok (xs ++ ys) Γ
section
variable {X : Cx} {c : Ck}
theorem d_knil : PK X [] (tAs c aNil) := ⟨fun ps pins s σ H Q I h => pk_nil.run ps pins s σ H Q I (by
  obtain ⟨M, own, Γ, sd, g⟩ := h
  exact g [] H M own Fr.refl sd .nil)⟩
theorem d_kcons {nm : Option Str} {kpos : Pos} {e : Expr} {kws : List Keyword} {f : EV} {g : Env → Rs (List D)} (ha : PE X e (tE c f)) (hr : PK X kws (tAs c g)) : PK X (⟨nm, e, kpos⟩ :: kws) (tAs c (aCons f g)) :=
  ⟨fun ps pins s σ H Q I h => (pk_cons ha hr).run ps pins s σ H Q I (by
    obtain ⟨M, own, Γ, sd, g0⟩ := h
    refine tE_mono (fun x H1 ⟨M1, own1, Γ1, d, f1, sd1, r1, g1⟩ => ?_) (tE_bindA sd g0)
    refine tAs_mono (fun xs H2 ⟨M2, own2, Γ2, ds, f2, sd2, r2, g2⟩ => ?_) (tAs_bindA sd1 g1)
    exact g2 _ _ _ _ Fr.refl sd2 (.cons (r1.mono (f2.same sd1.wf)) r2))⟩
theorem callN_imp {F : List D → R0} {as ks : Env → Rs (List D)} {n m : Nat} (ha : ∀ Γ ds Γ', as Γ = .ok ds Γ' → (ds ++ ([] : List D)).length = n) (hk : ∀ Γ ds Γ', ks Γ = .ok ds Γ' → (ds ++ ([] : List D)).length = m) :
    ∀ σ H Q, tE c (eCall F (aApp as ks)) σ H Q → tCallN n m (spV c.k (n + m) F) (fun vs zs => vs ++ zs) (WE c.W σ) (tAs c as) (tAs c ks) σ H Q := fun σ H Q ⟨M, own, Γ, sd, g⟩ => by
  refine ⟨M, own, Γ, sd, ?_⟩
  unfold eCall aApp at g
  cases e : as Γ with
  | exc x Γ1 => rw [e] at g; exact g
  | bad => rw [e] at g; exact g
  | ok ds Γ1 =>
    rw [e] at g
    simp only [Rs.bind] at g
    intro vs H1 M1 own1 f1 sd1 r1
    refine ⟨M1, own1, Γ1, sd1, ?_⟩
    cases e1 : ks Γ1 with
    | exc x Γ2 => rw [e1] at g; exact fun H' M' own' dct f s x => g H' M' own' dct (f1.trans sd.wf f) s x
    | bad => rw [e1] at g; exact g
    | ok es Γ2 =>
      rw [e1] at g
      simp only at g
      intro zs H2 M2 own2 f2 sd2 r2
      have r1' : RpAll c.k (hid M2 H2) vs ds := r1.mono (f2.same sd1.wf)
      have l1 : vs.length = n := by have := ha _ _ _ e; rw [List.append_nil] at this; rw [r1'.len]; exact this
      have l2 : zs.length = m := by have := hk _ _ _ e1; rw [List.append_nil] at this; rw [r2.len]; exact this
      have r3 : RpAll c.k (hid M2 H2) (vs ++ zs) (ds ++ es) := r1'.app r2
      refine ⟨l1, l2, by rw [List.length_append, l1, l2], M2, ds ++ es, sd2.wf.dom, r3, ?_⟩
      have f12 := f1.trans sd.wf f2
      cases e2 : F (ds ++ es) with
      | bad => rw [e2] at g; exact g
      | exc x =>
        rw [e2] at g
        intro H3 M3 dct f3 dm xo
        obtain ⟨f3', sd3⟩ := after0 sd2 f3 dm
        exact g H3 M3 own2 dct (f12.trans sd.wf f3') sd3 xo
      | ok s =>
        rw [e2] at g
        intro v H3 M3 f3 dm rs
        obtain ⟨f3', sd3⟩ := after0 sd2 f3 dm
        refine Good.after sd.wf f12 g v H3 M3 own2 f3' sd3 ?_
        obtain ⟨fg, d⟩ := s
        cases fg with
        | sh => exact rs
        | bo i => exact (show False from rs).elim
        | ow =>
          obtain ⟨p, h0, h1, h2, h3⟩ := rs
          exact ⟨p, h0, h1, fun i z => sd2.wf.dom p (sd2.wf.hidn i p z) h2, .inl h2, h3⟩
theorem run_fnNA {CX : CXT} {k n : Nat} {f : Addr} {fd : FuncData} {ps ks : List Str} {sp : Sp} {g : List Value → List Value → List Value} {gV : List V → List V → List V} {pins : List (Addr × Obj)} {σ : L2.St} {E : XK} {H : Hp} {s : Shared} {Q : VK} {us ws : List Value} {vs zs : List V} (F : FnOk X.prog X.w X.K X.mg X.base CX k f fd ps sp) (hr : Room k X.A) (hb : KBn X.K fd ps n ks g gV) (hx : PassesAt CX X σ E)
    (I : Inv X pins σ H s) (r : Vals vs us) (rz : Vals zs ws) (l1 : vs.length = n) (l2 : zs.length = ks.length) (h : sp (gV vs zs) H Q E) : wpAny (model X.prog X.w) X.A (call (.ref f) us (ks.zip ws)) (EP X pins σ Q) X.xe s := by
  refine wpAny_call (codeAny_mono (F.run X.A X.stack s H ⟨us, ks.zip ws⟩ (g us ws) (gV vs zs) Q E hr I.env0 (hb.to s us ws I.kIn (r.length.symm.trans l1) (rz.length.symm.trans l2)) (hb.rel r rz) h) fun z s' hq => ?_)
  cases z with
  | error e => exact hx pins H s e s' I hq
  | ok fl => cases fl with
    | ret u => exact I.after hq
    | next => exact hq.elim
    | brk => exact hq.elim
    | cont => exact hq.elim
theorem pe_callNA {CX : CXT} {k n : Nat} {f : Addr} {fd : FuncData} {ps ks : List Str} {sp : Sp} {E : L2.St → XK} {x : Str} {p pos : Pos} {e : Expr} {es : List Expr} {kws : List Keyword} {t tk : TA} {g : List Value → List Value → List Value} {gV : List V → List V → List V} (F : FnOk X.prog X.w X.K X.mg X.base CX k f fd ps sp) (hr : Room k X.A) (hg : Gl X x) (hm : X.mg x = some (.ref f)) (hk : PySem.W.keepIn X.K (.ref f) = true) (hb : KBn X.K fd ps n ks g gV) (hx : ∀ σ, PassesAt CX X σ (E σ))
    (ha : PA X (e :: es) t) (hkw : PK X kws tk) (hall : (backToKw pos (keywordEach kws X.env)).all (·.1.isSome) = true) (hks : (backToKw pos (keywordEach kws X.env)).filterMap (·.1) = ks)
    (hdb : (x == ("__debug__" : Str)) = false) (he : starEach (e :: es) X.env = (false, eval e X.env) :: starEach es X.env)
    (hpl : ((backTo pos (starEach (e :: es) X.env)).any (·.1) || (backToKw pos (keywordEach kws X.env)).any (·.1.isNone)) = false) :
    PE X (.Call (.Name x p) (e :: es) kws pos) (fun σ H Q => tCallN n ks.length sp gV (E σ) t tk σ H Q) := by
  constructor
  intro pins s σ H Q I h
  refine wpAny_Call_Name_kw (ld_glob I hg hm ?_ hdb)
  refine PySem.W.callWith_KW (h₀ := X.base) I.ok.mod.kin hk hall (thn (ha.run pos pins s σ H _ I h) fun us s1 q => ?_) hpl he
  obtain ⟨vs, H1, I1, r, q⟩ := q
  refine thn (hkw.run pos pins s1 σ H1 _ I1 q) fun ws s2 q2 => ?_
  obtain ⟨zs, H2, I2, rz, l1, l2, q2⟩ := q2
  refine ⟨I2.kIn, ?_⟩
  rw [hks]
  exact run_fnNA F hr hb (hx σ) I2 r rz l1 l2 q2
theorem d_callK {k n N : Nat} {f : Addr} {fd : FuncData} {ps ks : List Str} {F : List D → R0} {x : Str} {p pos : Pos} {e : Expr} {es : List Expr} {kws : List Keyword} {as kk : Env → Rs (List D)} {g : List Value → List Value → List Value} (G : FnOk X.prog X.w X.K X.mg X.base (L2.CX X.prog X.w) k f fd ps (spV c.k N F)) (hN : N = n + ks.length) (hr : Room k X.A) (tk : Takes X c.W) (hg : Gl X x) (hm : X.mg x = some (.ref f)) (hk : PySem.W.keepIn X.K (.ref f) = true)
    (hb : KBn X.K fd ps n ks g (fun vs zs => vs ++ zs)) (ha : PA X (e :: es) (tAs c as)) (hkw : PK X kws (tAs c kk)) (hn : ∀ Γ ds Γ', as Γ = .ok ds Γ' → (ds ++ ([] : List D)).length = n) (hm2 : ∀ Γ ds Γ', kk Γ = .ok ds Γ' → (ds ++ ([] : List D)).length = ks.length)
    (hall : (backToKw pos (keywordEach kws X.env)).all (·.1.isSome) = true := by rfl) (hks : (backToKw pos (keywordEach kws X.env)).filterMap (·.1) = ks := by rfl)
    (hdb : (x == ("__debug__" : Str)) = false := by decide) (he : starEach (e :: es) X.env = (false, eval e X.env) :: starEach es X.env := by rfl)
    (hpl : ((backTo pos (starEach (e :: es) X.env)).any (·.1) || (backToKw pos (keywordEach kws X.env)).any (·.1.isNone)) = false := by rfl) :
    PE X (.Call (.Name x p) (e :: es) kws pos) (tE c (eCall F (aApp as kk))) := by
  subst hN
  exact ⟨fun pins s σ H Q I h => (pe_callNA (E := fun σ => WE c.W σ) G hr hg hm hk hb (fun σ => passAt tk σ) ha hkw hall hks hdb he hpl).run pins s σ H Q I (callN_imp hn hm2 σ H Q h)⟩
end
end DL

namespace DL
open PySem L2
/-! ### xs.index(x) -/
def idxR (a : Option D) (d : D) (Γ : Env) : Rs Sl := match a with
  | some (.list ds) => if SeqAt.shaped (.list ds) = true ∧ SeqAt.shaped d = true then match ds.findIdx? (fun z => PyData.eqv z d) with
    | some j => .ok (.sh, .int (j : Nat)) Γ
    | none => .bad
    else .bad
  | _ => .bad
def idx1 (g : EV) (r : Sl) (Γ : Env) : Rs Sl := match cur r Γ with
  | some (.list _) => (g Γ).bindV fun d Γ => idxR (cur r Γ) d Γ
  | _ => .bad
def eIdx (f g : EV) : EV := fun Γ => (f Γ).bind (idx1 g)
@[simp] theorem eIdx_app (f g : EV) (Γ : Env) : eIdx f g Γ = (f Γ).bind (idx1 g) := rfl
section
variable {X : Cx} {c : Ck}
theorem idx_imp {f g : EV} : ∀ σ H Q, tE c (eIdx f g) σ H Q → tBM c.k.K "list" (rIndexD c.k.K) (tE c f) (tAs c (aCons g aNil)) σ H Q := by
  intro σ H Q ⟨M, own, Γ, sd, g0⟩
  refine tE_mono (fun x H1 ⟨M1, own1, Γ1, s1, f1, sd1, r1, g1⟩ => ?_) (tE_bindR sd g0)
  unfold idx1 at g1
  split at g1
  · rename_i ds e1
    obtain ⟨p, xs, rfl, h1, h2⟩ := (r1.bw sd1 e1).list
    refine ⟨.inl ⟨rfl, xs, h1⟩, ?_⟩
    refine ⟨M1, own1, Γ1, sd1, ?_⟩
    unfold aCons
    cases e2 : g Γ1 with
    | exc y Γ2 => rw [e2] at g1; exact g1
    | bad => rw [e2] at g1; exact g1
    | ok s2 Γ2 =>
      rw [e2] at g1
      simp only [Rs.bindV] at g1 ⊢
      show GoodA c M1 own1 H1 (.ok [s2.2] (frz s2 Γ2)) σ _
      intro vs H2 M2 own2 f2 sd2 r2
      cases r2 with
      | cons ra rb =>
        cases rb
        unfold idxR at g1
        split at g1
        · rename_i ds2 e3
          split at g1
          · rename_i hsh
            split at g1
            · rename_i j hj
              have b := r1.bw2 sd1 f2 sd2 e3
              obtain ⟨p2, xs2, hp, k1, k2⟩ := b.list
              cases hp
              obtain ⟨hlt, hj1, hj2⟩ := List.findIdx?_eq_some_iff_getElem.mp hj
              refine ⟨p, _, s2.2, ds2, j, ds2[j], rfl, rfl, b.dpH, (Bw.full (M := M2) (.inl ra)).dp, hsh.1, hsh.2, by simp [hlt], hj1, fun m z hm hz => ?_, ?_⟩
              · obtain ⟨hm1, hm2⟩ := List.getElem?_eq_some_iff.mp hz
                have := hj2 m hm
                rw [hm2] at this
                simpa using this
              · exact g1 (.int (j : Nat)) H2 M2 own2 f2 sd2 (Res.val (.int _))
            · exact g1.elim
          · exact g1.elim
        · exact g1.elim
  · exact g1.elim
theorem d_index {o e : Expr} {f g : EV} {apos cpos : Pos} (hK : X.K = c.k.K) (hu : X.A.units + 65 < cLine) (ho : PE X o (tE c f)) (ha : PE X e (tE c g))
    (hbase : attributeBase o "index" X.env (eval o X.env) = eval o X.env := by rfl)
    (hfew : ((backTo cpos (starEach [e] X.env)).all (fun x => !x.1) && (backToKw cpos (keywordEach [] X.env)).all (fun x => x.1.isSome) && decide ([e].length + ([] : List Keyword).length + (if ([] : List Keyword).isEmpty then 0 else 1) < 30)) = true := by rfl)
    (hline : (apos.endLine == cpos.line) = true := by rfl) (hs : starEach [e] X.env = (false, eval e X.env) :: starEach [] X.env := by rfl) (hplain : (backTo cpos (starEach [] X.env)).any (·.1) = false := by rfl) :
    PE X (.Call (.Attribute o "index" apos) [e] [] cpos) (tE c (eIdx f g)) :=
  (pe_bm F.plainAttrs_list F.slot_list_index rfl (mt_indexD hu) ho (d_acons ha d_anil hs) hbase hfew hline hs hplain).imp fun σ H Q h => by
    rw [hK]
    exact idx_imp σ H Q h
end
end DL

namespace Dom
open PySem L2 DL
/-! ### the text by places -/
def topS (i : Nat) : Stmt := PySem.Challenge.pw_dominohall_k11_fits.main.body.getD i (.Pass ⟨0, 0, 0, 0⟩)
abbrev s_is_number : Stmt := topS 8
abbrev s_is_pair : Stmt := topS 9
abbrev s_is_tile : Stmt := topS 10
abbrev s_tile_of : Stmt := topS 11
abbrev s_need_tile : Stmt := topS 12
abbrev s_is_chain : Stmt := topS 15
abbrev s_need_chain : Stmt := topS 16
abbrev s_ends : Stmt := topS 17
abbrev s_tiles_of : Stmt := topS 18
abbrev s_fits : Stmt := topS 19
abbrev s_laid : Stmt := topS 20
abbrev s_need_side : Stmt := topS 21
abbrev s_lay : Stmt := topS 22
abbrev s_law_drawn : Stmt := topS 24
abbrev s_law_set : Stmt := topS 25
abbrev s_law_order : Stmt := topS 26
abbrev s_law_tiles : Stmt := topS 27
abbrev s_law_fits : Stmt := topS 28
abbrev s_law_laid : Stmt := topS 29
abbrev s_law_chain : Stmt := topS 30
abbrev s_law_no : Stmt := topS 31
abbrev s_law : Stmt := topS 32
/-- is class k below class c -/
def xrows : List (List Bool) := [[true, true, true, true, true], [false, true, false, false, false], [false, false, true, false, false], [false, false, false, true, false], [false, false, false, false, true]]
def isub (c k : Nat) : Bool := (xrows.getD c []).getD k ((xrows.getD c []).getD 0 false)
def c_MOST : D := (.int 6)
def c_SIDES : D := (.tuple [(.str "left"), (.str "right")])
abbrev N_is_number : List Str := ["thing", "least", "most"]
def g_is_number_1 : SV := (sRet (eAnd (eUn (isiF "int") (eVar 0)) (eAnd (eNot (eUn (isiF "bool") (eVar 0))) (eChain leF leF (eVar 1) (eVar 0) (eVar 2)))))
def g_is_number : SV := g_is_number_1
def F_is_number : List D → R0 := finF 3 g_is_number
abbrev N_is_pair : List Str := ["thing", "one"]
def g_is_pair_1 : SV := (sRet (eAnd (eUn (isiF "tuple") (eVar 0)) (eAnd (eBin eqF (eUn lenF (eVar 0)) (eLit (.int 2))) (eUn allF (eComp [1] (iSeq (eVar 0)) (gV 1) (eLit (.bool true)) (eCall F_is_number (aCons (eVar 1) (aCons (eLit (.int 0)) (aCons (eLit c_MOST) aNil)))))))))
def g_is_pair : SV := g_is_pair_1
def F_is_pair : List D → R0 := finF 2 g_is_pair
abbrev N_is_tile : List Str := ["thing"]
def g_is_tile_1 : SV := (sRet (eAnd (eCall F_is_pair (aCons (eVar 0) aNil)) (eBin leF (eBin ixF (eVar 0) (eLit (.int 0))) (eBin ixF (eVar 0) (eLit (.int 1))))))
def g_is_tile : SV := g_is_tile_1
def F_is_tile : List D → R0 := finF 1 g_is_tile
abbrev N_tile_of : List Str := ["pair"]
def g_tile_of_1 : SV := (sRet (eTup (aCons (eUn minF (eVar 0)) (aCons (eUn maxF (eVar 0)) aNil))))
def g_tile_of : SV := g_tile_of_1
def F_tile_of : List D → R0 := finF 1 g_tile_of
abbrev N_need_tile : List Str := ["tile"]
def g_need_tile_1_t1 : SV := (sRaise 1)
def g_need_tile_1 : SV := (sIf (eNot (eCall F_is_tile (aCons (eVar 0) aNil))) g_need_tile_1_t1 sNx)
def g_need_tile : SV := g_need_tile_1
def F_need_tile : List D → R0 := finF 1 g_need_tile
abbrev N_is_chain : List Str := ["thing", "pair", "one", "other"]
def g_is_chain_1_t1 : SV := (sRet (eLit (.bool false)))
def g_is_chain_1 : SV := (sIf (eOr (eNot (eUn (isiF "list") (eVar 0))) (eNot (eUn allF (eComp [1] (iSeq (eVar 0)) (gV 1) (eLit (.bool true)) (eCall F_is_pair (aCons (eVar 1) aNil)))))) g_is_chain_1_t1 sNx)
def g_is_chain_2_t1 : SV := (sRet (eLit (.bool false)))
def g_is_chain_2 : SV := (sIf (eBin neF (eComp [2, 3] (iZip (aCons (eVar 0) (aCons (eSl (eVar 0) (oSome (eLit (.int 1))) oNone) aNil))) (gT 2 (gsCons (gV 2) (gsCons (gV 3) gsNil))) (eBin neF (eBin ixF (eVar 2) (eLit (.int 1))) (eBin ixF (eVar 3) (eLit (.int 0)))) (eVar 2)) (eLst aNil)) g_is_chain_2_t1 sNx)
def g_is_chain_3 : SV := (sRet (eBin eqF (eUn lenSetF (eComp [1] (iSeq (eVar 0)) (gV 1) (eLit (.bool true)) (eCall F_tile_of (aCons (eVar 1) aNil)))) (eUn lenF (eVar 0))))
def g_is_chain : SV := (sSeq g_is_chain_1 (sSeq g_is_chain_2 g_is_chain_3))
def F_is_chain : List D → R0 := finF 4 g_is_chain
abbrev N_need_chain : List Str := ["chain"]
def g_need_chain_1_t1 : SV := (sRaise 2)
def g_need_chain_1 : SV := (sIf (eNot (eCall F_is_chain (aCons (eVar 0) aNil))) g_need_chain_1_t1 sNx)
def g_need_chain : SV := g_need_chain_1
def F_need_chain : List D → R0 := finF 1 g_need_chain
abbrev N_ends : List Str := ["chain"]
def g_ends_1 : SV := (sExpr (eCall F_need_chain (aCons (eVar 0) aNil)))
def g_ends_2 : SV := (sRet (eIf (eBin neF (eVar 0) (eLst aNil)) (eTup (aCons (eBin ixF (eBin ixF (eVar 0) (eLit (.int 0))) (eLit (.int 0))) (aCons (eBin ixF (eBin ixF (eVar 0) (eUn negF (eLit (.int 1)))) (eLit (.int 1))) aNil))) (eLit .none)))
def g_ends : SV := (sSeq g_ends_1 g_ends_2)
def F_ends : List D → R0 := finF 1 g_ends
abbrev N_tiles_of : List Str := ["chain", "pair"]
def g_tiles_of_1 : SV := (sExpr (eCall F_need_chain (aCons (eVar 0) aNil)))
def g_tiles_of_2 : SV := (sRet (eUn sortF (eComp [1] (iSeq (eVar 0)) (gV 1) (eLit (.bool true)) (eCall F_tile_of (aCons (eVar 1) aNil)))))
def g_tiles_of : SV := (sSeq g_tiles_of_1 g_tiles_of_2)
def F_tiles_of : List D → R0 := finF 2 g_tiles_of
abbrev N_fits : List Str := ["chain", "tile", "pair", "side", "end"]
def g_fits_1 : SV := (sExpr (eCall F_need_chain (aCons (eVar 0) aNil)))
def g_fits_2 : SV := (sExpr (eCall F_need_tile (aCons (eVar 1) aNil)))
def g_fits_3_t1 : SV := (sRet (eLst aNil))
def g_fits_3 : SV := (sIf (eBin inF (eVar 1) (eComp [2] (iSeq (eVar 0)) (gV 2) (eLit (.bool true)) (eCall F_tile_of (aCons (eVar 2) aNil)))) g_fits_3_t1 sNx)
def g_fits_4_t1 : SV := (sRet (eUn listF (eLit c_SIDES)))
def g_fits_4 : SV := (sIf (eBin eqF (eVar 0) (eLst aNil)) g_fits_4_t1 sNx)
def g_fits_5 : SV := (sRet (eComp [3, 4] (iZip (aCons (eLit c_SIDES) (aCons (eTup (aCons (eBin ixF (eBin ixF (eVar 0) (eLit (.int 0))) (eLit (.int 0))) (aCons (eBin ixF (eBin ixF (eVar 0) (eUn negF (eLit (.int 1)))) (eLit (.int 1))) aNil))) aNil))) (gT 2 (gsCons (gV 3) (gsCons (gV 4) gsNil))) (eBin inF (eVar 4) (eVar 1)) (eVar 3)))
def g_fits : SV := (sSeq g_fits_1 (sSeq g_fits_2 (sSeq g_fits_3 (sSeq g_fits_4 g_fits_5))))
def F_fits : List D → R0 := finF 5 g_fits
abbrev N_laid : List Str := ["chain", "tile", "side", "one", "other"]
def g_laid_1 : SV := (sAsgG (gT 2 (gsCons (gV 3) (gsCons (gV 4) gsNil))) (eVar 1))
def g_laid_2_t1 : SV := (sRet (eLst (aCons (eVar 1) aNil)))
def g_laid_2 : SV := (sIf (eBin eqF (eVar 0) (eLst aNil)) g_laid_2_t1 sNx)
def g_laid_3_t1 : SV := (sRet (eBin addF (eLst (aCons (eIf (eBin eqF (eVar 4) (eBin ixF (eBin ixF (eVar 0) (eLit (.int 0))) (eLit (.int 0)))) (eTup (aCons (eVar 3) (aCons (eVar 4) aNil))) (eTup (aCons (eVar 4) (aCons (eVar 3) aNil)))) aNil)) (eVar 0)))
def g_laid_3 : SV := (sIf (eBin eqF (eVar 2) (eLit (.str "left"))) g_laid_3_t1 sNx)
def g_laid_4 : SV := (sRet (eBin addF (eVar 0) (eLst (aCons (eIf (eBin eqF (eVar 3) (eBin ixF (eBin ixF (eVar 0) (eUn negF (eLit (.int 1)))) (eLit (.int 1)))) (eTup (aCons (eVar 3) (aCons (eVar 4) aNil))) (eTup (aCons (eVar 4) (aCons (eVar 3) aNil)))) aNil))))
def g_laid : SV := (sSeq g_laid_1 (sSeq g_laid_2 (sSeq g_laid_3 g_laid_4)))
def F_laid : List D → R0 := finF 5 g_laid
abbrev N_need_side : List Str := ["side"]
def g_need_side_1_t1 : SV := (sRaise 3)
def g_need_side_1 : SV := (sIf (eOr (eNot (eUn (isiF "str") (eVar 0))) (eBin notInF (eVar 0) (eLit c_SIDES))) g_need_side_1_t1 sNx)
def g_need_side : SV := g_need_side_1
def F_need_side : List D → R0 := finF 1 g_need_side
abbrev N_lay : List Str := ["chain", "tile", "where", "found"]
def g_lay_1 : SV := (sAsg 3 (eCall F_fits (aCons (eVar 0) (aCons (eVar 1) aNil))))
def g_lay_2 : SV := (sExpr (eCall F_need_side (aCons (eVar 2) aNil)))
def g_lay_3_t1 : SV := (sRaise 4)
def g_lay_3 : SV := (sIf (eBin notInF (eVar 2) (eVar 3)) g_lay_3_t1 sNx)
def g_lay_4 : SV := (sRet (eCall F_laid (aCons (eVar 0) (aCons (eVar 1) (aCons (eVar 2) aNil)))))
def g_lay : SV := (sSeq g_lay_1 (sSeq g_lay_2 (sSeq g_lay_3 g_lay_4)))
def F_lay : List D → R0 := finF 4 g_lay
abbrev N_law_drawn : List Str := ["script", "k", "many", "cell", "turn", "rest"]
def g_law_drawn_1 : SV := (sAsg 3 (eBin mulF (eLit (.int 7)) (eVar 1)))
def g_law_drawn_2_t1 : SV := (sAsg 3 (eBin ixF (eVar 0) (eBin modF (eVar 1) (eUn lenF (eVar 0)))))
def g_law_drawn_2_t2 : SV := (sAsg 4 (eBin fdivF (eVar 1) (eUn lenF (eVar 0))))
def g_law_drawn_2_t3_t1 : SV := (sAsg 5 (eBin fdivF (eVar 3) (eBin powF (eLit (.int 10)) (eLit (.int 18)))))
def g_law_drawn_2_t3_t2_b1 : SV := (sAsg 5 (eBin fdivF (eVar 5) (eLit (.int 1000000))))
def g_law_drawn_2_t3_t2_b2 : SV := (sAsg 4 (eBin subF (eVar 4) (eLit (.int 1))))
def g_law_drawn_2_t3_t2_b : SV := (sSeq g_law_drawn_2_t3_t2_b1 g_law_drawn_2_t3_t2_b2)
def g_law_drawn_2_t3_t2 : SV := (whileGo (eAnd (eBin gtF (eVar 5) (eLit (.int 0))) (eBin gtF (eVar 4) (eLit (.int 0)))) g_law_drawn_2_t3_t2_b 61)
def g_law_drawn_2_t3_t3_t1 : SV := (sRet (eBin modF (eBin modF (eVar 5) (eLit (.int 1000000))) (eVar 2)))
def g_law_drawn_2_t3_t3 : SV := (sIf (eBin gtF (eVar 5) (eLit (.int 0))) g_law_drawn_2_t3_t3_t1 sNx)
def g_law_drawn_2_t3_t : SV := (sSeq g_law_drawn_2_t3_t1 (sSeq g_law_drawn_2_t3_t2 g_law_drawn_2_t3_t3))
def g_law_drawn_2_t3 : SV := (sIf (eAnd (eBin geF (eVar 3) (eBin powF (eLit (.int 10)) (eLit (.int 18)))) (eBin ltF (eVar 4) (eLit (.int 60)))) g_law_drawn_2_t3_t sNx)
def g_law_drawn_2_t4 : SV := (sAsg 3 (eBin addF (eVar 3) (eBin mulF (eLit (.int 6553)) (eBin fdivF (eVar 1) (eUn lenF (eVar 0))))))
def g_law_drawn_2_t : SV := (sSeq g_law_drawn_2_t1 (sSeq g_law_drawn_2_t2 (sSeq g_law_drawn_2_t3 g_law_drawn_2_t4)))
def g_law_drawn_2 : SV := (sIf (eBin neF (eVar 0) (eLst aNil)) g_law_drawn_2_t sNx)
def g_law_drawn_3 : SV := (sAsg 3 (eBin modF (eBin addF (eBin mulF (eBin modF (eVar 3) (eLit (.int 2147483563))) (eLit (.int 69069))) (eBin mulF (eLit (.int 104723)) (eBin addF (eVar 1) (eLit (.int 1))))) (eLit (.int 2147483563))))
def g_law_drawn_4 : SV := (sAsg 3 (eBin modF (eBin addF (eBin mulF (eVar 3) (eVar 3)) (eBin fdivF (eVar 3) (eLit (.int 3)))) (eLit (.int 2147483399))))
def g_law_drawn_5 : SV := (sRet (eBin modF (eBin fdivF (eBin modF (eBin addF (eBin mulF (eVar 3) (eVar 3)) (eBin fdivF (eVar 3) (eLit (.int 7)))) (eLit (.int 2147483647))) (eLit (.int 11))) (eVar 2)))
def g_law_drawn : SV := (sSeq g_law_drawn_1 (sSeq g_law_drawn_2 (sSeq g_law_drawn_3 (sSeq g_law_drawn_4 g_law_drawn_5))))
def F_law_drawn : List D → R0 := finF 6 g_law_drawn
abbrev N_law_set : List Str := ["top", "found", "one", "other"]
def g_law_set_1 : SV := (sAsg 1 (eLst aNil))
def g_law_set_2_b1 : SV := (sAsg 1 (eBin addF (eVar 1) (eComp [3] (iRng2 (aCons (eVar 2) (aCons (eBin addF (eVar 0) (eLit (.int 1))) aNil))) (gV 3) (eLit (.bool true)) (eTup (aCons (eVar 2) (aCons (eVar 3) aNil))))))
def g_law_set_2 : SV := (sFor (iRng1 (aCons (eBin addF (eVar 0) (eLit (.int 1))) aNil)) (gV 2) g_law_set_2_b1)
def g_law_set_3 : SV := (sRet (eVar 1))
def g_law_set : SV := (sSeq g_law_set_1 (sSeq g_law_set_2 g_law_set_3))
def F_law_set : List D → R0 := finF 4 g_law_set
abbrev N_law_order : List Str := ["script", "at", "top", "some", "k", "tile", "weight"]
def g_law_order_1 : SV := (sAsg 3 (eComp [4, 5] (iEnum (eCall F_law_set (aCons (eVar 2) aNil))) (gT 2 (gsCons (gV 4) (gsCons (gV 5) gsNil))) (eLit (.bool true)) (eTup (aCons (eCall F_law_drawn (aCons (eVar 0) (aCons (eBin addF (eVar 1) (eVar 4)) (aCons (eLit (.int 1000)) aNil)))) (aCons (eVar 5) aNil)))))
def g_law_order_2 : SV := (sRet (eComp [6, 5] (iSeq (eUn sortF (eVar 3))) (gT 2 (gsCons (gV 6) (gsCons (gV 5) gsNil))) (eLit (.bool true)) (eVar 5)))
def g_law_order : SV := (sSeq g_law_order_1 g_law_order_2)
def F_law_order : List D → R0 := finF 7 g_law_order
abbrev N_law_tiles : List Str := ["script", "at", "top", "share", "order", "k", "tile"]
def g_law_tiles_1 : SV := (sAsg 2 (eBin addF (eLit (.int 1)) (eCall F_law_drawn (aCons (eVar 0) (aCons (eVar 1) (aCons (eLit (.int 6)) aNil))))))
def g_law_tiles_2 : SV := (sAsg 3 (eBin ixF (eLst (aCons (eLit (.int 2)) (aCons (eLit (.int 3)) (aCons (eLit (.int 8)) aNil)))) (eCall F_law_drawn (aCons (eVar 0) (aCons (eBin addF (eVar 1) (eLit (.int 1))) (aCons (eLit (.int 3)) aNil))))))
def g_law_tiles_3 : SV := (sAsg 4 (eCall F_law_order (aCons (eVar 0) (aCons (eBin addF (eVar 1) (eLit (.int 2))) (aCons (eVar 2) aNil)))))
def g_law_tiles_4 : SV := (sRet (eComp [5, 6] (iEnum (eVar 4)) (gT 2 (gsCons (gV 5) (gsCons (gV 6) gsNil))) (eBin gtF (eCall F_law_drawn (aCons (eVar 0) (aCons (eBin addF (eBin addF (eVar 1) (eLit (.int 31))) (eVar 5)) (aCons (eVar 3) aNil)))) (eLit (.int 0))) (eVar 6)))
def g_law_tiles : SV := (sSeq g_law_tiles_1 (sSeq g_law_tiles_2 (sSeq g_law_tiles_3 g_law_tiles_4)))
def F_law_tiles : List D → R0 := finF 7 g_law_tiles
abbrev N_law_fits : List Str := ["chain", "tile", "pair", "found"]
def g_law_fits_1_t1 : SV := (sRet (eLst aNil))
def g_law_fits_1 : SV := (sIf (eBin inF (eVar 1) (eComp [2] (iSeq (eVar 0)) (gV 2) (eLit (.bool true)) (eTup (aCons (eUn minF (eVar 2)) (aCons (eUn maxF (eVar 2)) aNil))))) g_law_fits_1_t1 sNx)
def g_law_fits_2_t1 : SV := (sRet (eLst (aCons (eLit (.str "left")) (aCons (eLit (.str "right")) aNil))))
def g_law_fits_2 : SV := (sIf (eBin eqF (eVar 0) (eLst aNil)) g_law_fits_2_t1 sNx)
def g_law_fits_3 : SV := (sAsg 3 (eIf (eBin inF (eBin ixF (eBin ixF (eVar 0) (eLit (.int 0))) (eLit (.int 0))) (eVar 1)) (eLst (aCons (eLit (.str "left")) aNil)) (eLst aNil)))
def g_law_fits_4 : SV := (sRet (eBin addF (eVar 3) (eIf (eBin inF (eBin ixF (eBin ixF (eVar 0) (eUn negF (eLit (.int 1)))) (eLit (.int 1))) (eVar 1)) (eLst (aCons (eLit (.str "right")) aNil)) (eLst aNil))))
def g_law_fits : SV := (sSeq g_law_fits_1 (sSeq g_law_fits_2 (sSeq g_law_fits_3 g_law_fits_4)))
def F_law_fits : List D → R0 := finF 4 g_law_fits
abbrev N_law_laid : List Str := ["chain", "tile", "side", "other"]
def g_law_laid_1_t1 : SV := (sRet (eLst (aCons (eVar 1) aNil)))
def g_law_laid_1 : SV := (sIf (eBin eqF (eVar 0) (eLst aNil)) g_law_laid_1_t1 sNx)
def g_law_laid_2_t1 : SV := (sAsg 3 (eBin subF (eBin addF (eBin ixF (eVar 1) (eLit (.int 0))) (eBin ixF (eVar 1) (eLit (.int 1)))) (eBin ixF (eBin ixF (eVar 0) (eLit (.int 0))) (eLit (.int 0)))))
def g_law_laid_2_t2 : SV := (sRet (eBin addF (eLst (aCons (eTup (aCons (eVar 3) (aCons (eBin ixF (eBin ixF (eVar 0) (eLit (.int 0))) (eLit (.int 0))) aNil))) aNil)) (eVar 0)))
def g_law_laid_2_t : SV := (sSeq g_law_laid_2_t1 g_law_laid_2_t2)
def g_law_laid_2 : SV := (sIf (eBin eqF (eVar 2) (eLit (.str "left"))) g_law_laid_2_t sNx)
def g_law_laid_3 : SV := (sRet (eBin addF (eVar 0) (eLst (aCons (eTup (aCons (eBin ixF (eBin ixF (eVar 0) (eUn negF (eLit (.int 1)))) (eLit (.int 1))) (aCons (eBin subF (eBin addF (eBin ixF (eVar 1) (eLit (.int 0))) (eBin ixF (eVar 1) (eLit (.int 1)))) (eBin ixF (eBin ixF (eVar 0) (eUn negF (eLit (.int 1)))) (eLit (.int 1)))) aNil))) aNil))))
def g_law_laid : SV := (sSeq g_law_laid_1 (sSeq g_law_laid_2 g_law_laid_3))
def F_law_laid : List D → R0 := finF 4 g_law_laid
abbrev N_law_chain : List Str := ["script", "at", "tiles", "found", "k", "tile", "sides"]
def g_law_chain_1 : SV := (sAsg 3 (eLst aNil))
def g_law_chain_2_b1 : SV := (sAsg 6 (eCall F_law_fits (aCons (eVar 3) (aCons (eVar 5) aNil))))
def g_law_chain_2_b2_t1 : SV := (sAsg 3 (eCall F_law_laid (aCons (eVar 3) (aCons (eVar 5) (aCons (eBin ixF (eVar 6) (eCall F_law_drawn (aCons (eVar 0) (aCons (eBin addF (eVar 1) (eVar 4)) (aCons (eUn lenF (eVar 6)) aNil))))) aNil)))))
def g_law_chain_2_b2 : SV := (sIf (eBin neF (eVar 6) (eLst aNil)) g_law_chain_2_b2_t1 sNx)
def g_law_chain_2_b : SV := (sSeq g_law_chain_2_b1 g_law_chain_2_b2)
def g_law_chain_2 : SV := (sFor (iEnum (eVar 2)) (gT 2 (gsCons (gV 4) (gsCons (gV 5) gsNil))) g_law_chain_2_b)
def g_law_chain_3 : SV := (sRet (eVar 3))
def g_law_chain : SV := (sSeq g_law_chain_1 (sSeq g_law_chain_2 g_law_chain_3))
def F_law_chain : List D → R0 := finF 7 g_law_chain
abbrev N_law_no : List Str := ["way", "chain", "tile", "side", "e", "found"]
def g_law_no_1_b1_t1 : SV := (sExpr (eCall F_ends (aCons (eVar 1) aNil)))
def g_law_no_1_b1_e1_t1 : SV := (sExpr (eCall F_tiles_of (aCons (eVar 1) aNil)))
def g_law_no_1_b1_e1_e1_t1 : SV := (sExpr (eCall F_fits (aCons (eVar 1) (aCons (eVar 2) aNil))))
def g_law_no_1_b1_e1_e1_e1 : SV := (sExpr (eCall F_lay (aCons (eVar 1) (aCons (eVar 2) (aCons (eVar 3) aNil)))))
def g_law_no_1_b1_e1_e1 : SV := (sIf (eBin eqF (eVar 0) (eLit (.int 2))) g_law_no_1_b1_e1_e1_t1 g_law_no_1_b1_e1_e1_e1)
def g_law_no_1_b1_e1 : SV := (sIf (eBin eqF (eVar 0) (eLit (.int 1))) g_law_no_1_b1_e1_t1 g_law_no_1_b1_e1_e1)
def g_law_no_1_b1 : SV := (sIf (eBin eqF (eVar 0) (eLit (.int 0))) g_law_no_1_b1_t1 g_law_no_1_b1_e1)
def g_law_no_1 : SV := (sTry 4 (isub 0) g_law_no_1_b1 (su0 fun k' => (sSeq (sAsg 5 (eLst (aCons (eLit (.bool (isub 2 k'))) (aCons (eLit (.bool (isub 1 k'))) aNil)))) (sRet (eIdx (eBin addF (eVar 5) (eLst (aCons (eLit (.bool (isub 3 k'))) (aCons (eLit (.bool (isub 4 k'))) aNil)))) (eLit (.bool true)))))))
def g_law_no_2 : SV := (sRet (eLit .none))
def g_law_no : SV := (sSeq g_law_no_1 g_law_no_2)
def F_law_no : List D → R0 := finF 6 g_law_no
abbrev N_law : List Str := ["script", "chain", "kept", "pair", "k", "one", "other", "tile", "due", "side", "none", "no_tile", "no_side", "way"]
def g_law_1 : SV := (sAsg 1 (eCall F_law_chain (aCons (eVar 0) (aCons (eLit (.int 70)) (aCons (eCall F_law_tiles (aCons (eVar 0) (aCons (eLit (.int 0)) aNil))) aNil)))))
def g_law_2 : SV := (sAsg 2 (eUn listF (eVar 1)))
def g_law_3_t1 : SV := (sRet (eLit (.bool false)))
def g_law_3 : SV := (sIf (eBin neF (eCall F_ends (aCons (eVar 1) aNil)) (eIf (eBin neF (eVar 1) (eLst aNil)) (eTup (aCons (eBin ixF (eBin ixF (eVar 1) (eLit (.int 0))) (eLit (.int 0))) (aCons (eBin ixF (eBin ixF (eVar 1) (eUn negF (eLit (.int 1)))) (eLit (.int 1))) aNil))) (eLit .none))) g_law_3_t1 sNx)
def g_law_4_t1 : SV := (sRet (eLit (.bool false)))
def g_law_4 : SV := (sIf (eBin neF (eCall F_tiles_of (aCons (eVar 1) aNil)) (eUn sortF (eComp [3] (iSeq (eVar 1)) (gV 3) (eLit (.bool true)) (eTup (aCons (eUn minF (eVar 3)) (aCons (eUn maxF (eVar 3)) aNil)))))) g_law_4_t1 sNx)
def g_law_5_b1 : SV := (sPar 5 6 (aCons (eCall F_law_drawn (aCons (eVar 0) (aCons (eBin addF (eLit (.int 100)) (eBin mulF (eLit (.int 2)) (eVar 4))) (aCons (eLit (.int 7)) aNil)))) (aCons (eCall F_law_drawn (aCons (eVar 0) (aCons (eBin addF (eLit (.int 101)) (eBin mulF (eLit (.int 2)) (eVar 4))) (aCons (eLit (.int 7)) aNil)))) aNil)))
def g_law_5_b2 : SV := (sAsg 7 (eTup (aCons (eBin min2F (eVar 5) (eVar 6)) (aCons (eBin max2F (eVar 5) (eVar 6)) aNil))))
def g_law_5_b3 : SV := (sAsg 8 (eCall F_law_fits (aCons (eVar 1) (aCons (eVar 7) aNil))))
def g_law_5_b4_t1 : SV := (sRet (eLit (.bool false)))
def g_law_5_b4 : SV := (sIf (eBin neF (eCall F_fits (aCons (eVar 1) (aCons (eVar 7) aNil))) (eVar 8)) g_law_5_b4_t1 sNx)
def g_law_5_b5_b1_t1 : SV := (sRet (eLit (.bool false)))
def g_law_5_b5_b1 : SV := (sIf (eAnd (eBin inF (eVar 9) (eVar 8)) (eBin neF (eCall F_lay (aCons (eVar 1) (aCons (eVar 7) (aCons (eVar 9) aNil)))) (eCall F_law_laid (aCons (eVar 1) (aCons (eVar 7) (aCons (eVar 9) aNil)))))) g_law_5_b5_b1_t1 sNx)
def g_law_5_b5_b2_t1 : SV := (sRet (eLit (.bool false)))
def g_law_5_b5_b2 : SV := (sIf (eAnd (eBin notInF (eVar 9) (eVar 8)) (eBin neF (eCall F_law_no (aCons (eLit (.int 3)) (aCons (eVar 1) (aCons (eVar 7) (aCons (eVar 9) aNil))))) (eLit (.int 3)))) g_law_5_b5_b2_t1 sNx)
def g_law_5_b5_b : SV := (sSeq g_law_5_b5_b1 g_law_5_b5_b2)
def g_law_5_b5 : SV := (sFor (iSeq (eTup (aCons (eLit (.str "left")) (aCons (eLit (.str "right")) aNil)))) (gV 9) g_law_5_b5_b)
def g_law_5_b6_t1 : SV := (sRet (eLit (.bool false)))
def g_law_5_b6 : SV := (sIf (eAnd (eBin inF (eLit (.str "right")) (eVar 8)) (eBin neF (eCall (fun ds => F_lay (ds ++ [(.str "right")])) (aCons (eVar 1) (aCons (eVar 7) aNil))) (eCall F_lay (aApp (aCons (eVar 1) (aCons (eVar 7) aNil)) (aCons (eLit (.str "right")) aNil))))) g_law_5_b6_t1 sNx)
def g_law_5_b7_t1 : SV := (sRet (eLit (.bool false)))
def g_law_5_b7 : SV := (sIf (eBin neF (eVar 1) (eVar 2)) g_law_5_b7_t1 sNx)
def g_law_5_b : SV := (sSeq g_law_5_b1 (sSeq g_law_5_b2 (sSeq g_law_5_b3 (sSeq g_law_5_b4 (sSeq g_law_5_b5 (sSeq g_law_5_b6 g_law_5_b7))))))
def g_law_5 : SV := (sFor (iRng1 (aCons (eLit (.int 5)) aNil)) (gV 4) g_law_5_b)
def g_law_6 : SV := (sAsg 10 (eBin ixF (eLst (aCons (eLit .none) (aCons (eUn tupleF (eVar 1)) (aCons (eLst (aCons (eTup (aCons (eLit (.int 1)) (aCons (eLit (.int 7)) aNil))) aNil)) (aCons (eLst (aCons (eTup (aCons (eLit (.int 1)) (aCons (eLit (.int 2)) aNil))) (aCons (eTup (aCons (eLit (.int 3)) (aCons (eLit (.int 4)) aNil))) aNil))) aNil))))) (eCall F_law_drawn (aCons (eVar 0) (aCons (eLit (.int 110)) (aCons (eLit (.int 4)) aNil))))))
def g_law_7 : SV := (sAsg 11 (eBin ixF (eLst (aCons (eLit .none) (aCons (eTup (aCons (eLit (.int 4)) (aCons (eLit (.int 3)) aNil))) (aCons (eLst (aCons (eLit (.int 1)) (aCons (eLit (.int 2)) aNil))) (aCons (eTup (aCons (eLit (.int 1)) (aCons (eLit (.int 7)) aNil))) (aCons (eLit (.str "12")) aNil)))))) (eCall F_law_drawn (aCons (eVar 0) (aCons (eLit (.int 111)) (aCons (eLit (.int 5)) aNil))))))
def g_law_8 : SV := (sAsg 12 (eBin ixF (eLst (aCons (eLit .none) (aCons (eLit (.str "Left")) (aCons (eLit (.int 0)) (aCons (eTup (aCons (eLit (.str "left")) aNil)) (aCons (eLit (.str "")) aNil)))))) (eCall F_law_drawn (aCons (eVar 0) (aCons (eLit (.int 112)) (aCons (eLit (.int 5)) aNil))))))
def g_law_9_t1 : SV := (sRet (eLit (.bool false)))
def g_law_9 : SV := (sIf (eBin neF (eComp [13] (iRng1 (aCons (eLit (.int 4)) aNil)) (gV 13) (eLit (.bool true)) (eCall F_law_no (aCons (eVar 13) (aCons (eVar 10) (aCons (eVar 11) (aCons (eVar 12) aNil)))))) (eBin mulF (eLst (aCons (eLit (.int 0)) aNil)) (eLit (.int 4)))) g_law_9_t1 sNx)
def g_law_10_t1 : SV := (sRet (eLit (.bool false)))
def g_law_10 : SV := (sIf (eBin neF (eLst (aCons (eCall F_law_no (aCons (eLit (.int 2)) (aCons (eVar 1) (aCons (eVar 11) (aCons (eLit .none) aNil))))) (aCons (eCall F_law_no (aCons (eLit (.int 3)) (aCons (eVar 1) (aCons (eVar 11) (aCons (eVar 12) aNil))))) aNil))) (eLst (aCons (eLit (.int 1)) (aCons (eLit (.int 1)) aNil)))) g_law_10_t1 sNx)
def g_law_11_t1 : SV := (sRet (eLit (.bool false)))
def g_law_11 : SV := (sIf (eBin neF (eCall F_law_no (aCons (eLit (.int 3)) (aCons (eVar 1) (aCons (eTup (aCons (eLit (.int 0)) (aCons (eLit (.int 0)) aNil))) (aCons (eVar 12) aNil))))) (eLit (.int 2))) g_law_11_t1 sNx)
def g_law_12_t1 : SV := (sRet (eLit (.bool false)))
def g_law_12 : SV := (sIf (eBin neF (eCall F_lay (aCons (eLst aNil) (aCons (eTup (aCons (eLit (.int 2)) (aCons (eLit (.int 5)) aNil))) (aCons (eLit (.str "left")) aNil)))) (eLst (aCons (eTup (aCons (eLit (.int 2)) (aCons (eLit (.int 5)) aNil))) aNil))) g_law_12_t1 sNx)
def g_law_13 : SV := (sRet (eBin eqF (eCall F_lay (aApp (aCons (eLst (aCons (eTup (aCons (eLit (.int 5)) (aCons (eLit (.int 3)) aNil))) aNil)) (aCons (eTup (aCons (eLit (.int 2)) (aCons (eLit (.int 5)) aNil))) aNil)) (aCons (eLit (.str "left")) aNil))) (eLst (aCons (eTup (aCons (eLit (.int 2)) (aCons (eLit (.int 5)) aNil))) (aCons (eTup (aCons (eLit (.int 5)) (aCons (eLit (.int 3)) aNil))) aNil)))))
def g_law : SV := (sSeq g_law_1 (sSeq g_law_2 (sSeq g_law_3 (sSeq g_law_4 (sSeq g_law_5 (sSeq g_law_6 (sSeq g_law_7 (sSeq g_law_8 (sSeq g_law_9 (sSeq g_law_10 (sSeq g_law_11 (sSeq g_law_12 g_law_13))))))))))))
def F_law : List D → R0 := finF 14 g_law

/-! ### _law_drawn: some number from 0 below many -/
theorem shaped_ints (ns : List Int) : SeqAt.shaped (.list (ns.map .int)) = true := by
  have h1 : ∀ ns : List Int, PyData.canLayAll0 (ns.map .int) = true := by
    intro ns
    induction ns with
    | nil => simp [PyData.canLayAll0]
    | cons n r ih => simp only [List.map_cons, PyData.canLayAll0, PyData.canLay0, ih, Bool.and_self]
  simp [SeqAt.shaped, PyData.canLay0, h1, PyData.depth, depth0]
theorem shaped_nil : SeqAt.shaped (.list []) = true := by decide +kernel
@[simp] theorem shaped_int (i : Int) : SeqAt.shaped (.int i) = true := by simp [SeqAt.shaped, PyData.canLay0, PyData.depth]
@[simp] theorem shaped_bool (i : Bool) : SeqAt.shaped (.bool i) = true := by simp [SeqAt.shaped, PyData.canLay0, PyData.depth]
@[simp] theorem shaped_none : SeqAt.shaped .none = true := by simp [SeqAt.shaped, PyData.canLay0, PyData.depth]
theorem drawn_tail (s : D) (k m cell : Int) (o1 o2 : Option (Bool × D)) (hm : 0 < m) : ∃ r Γ, sSeq g_law_drawn_3 (sSeq g_law_drawn_4 g_law_drawn_5) [some (false, s), some (false, .int k), some (false, .int m), some (false, .int cell), o1, o2] = .ok (.rt (.sh, .int r)) Γ ∧ 0 ≤ r ∧ r < m := by
  simp [g_law_drawn_3, g_law_drawn_4, g_law_drawn_5, modF, addF, mulF, fdivF]
  generalize hc : (cell % 2147483563 * 69069 + 104723 * (k + 1)) % 2147483563 = c1
  have h1 : 0 ≤ c1 ∧ c1 < 2147483563 := by
    rw [← hc]
    exact ⟨Int.emod_nonneg _ (by decide), Int.emod_lt_of_pos _ (by decide)⟩
  rw [if_pos (by omega)]
  simp [modF, addF, mulF, fdivF]
  generalize hc2 : (c1 * c1 + c1 / 3) % 2147483399 = c2
  have h2 : 0 ≤ c2 ∧ c2 < 2147483399 := by
    rw [← hc2]
    exact ⟨Int.emod_nonneg _ (by decide), Int.emod_lt_of_pos _ (by decide)⟩
  rw [if_pos (by omega)]
  simp [modF, addF, mulF, fdivF, hm]
  exact ⟨Int.emod_nonneg _ (by omega), Int.emod_lt_of_pos _ hm⟩
theorem drawn_while (s : D) (k m cell : Int) : ∀ (n : Nat) (turn rest : Int), turn < n → ∃ turn' rest', whileGo (eAnd (eBin gtF (eVar 5) (eLit (.int 0))) (eBin gtF (eVar 4) (eLit (.int 0)))) g_law_drawn_2_t3_t2_b (n + 1) [some (false, s), some (false, .int k), some (false, .int m), some (false, .int cell), some (false, .int turn), some (false, .int rest)] =
      .ok .nx [some (false, s), some (false, .int k), some (false, .int m), some (false, .int cell), some (false, .int turn'), some (false, .int rest')]
  | 0, turn, rest, h => by
    refine ⟨turn, rest, ?_⟩
    unfold whileGo
    by_cases h1 : 0 < rest
    · simp [gtF, h1, show ¬ 0 < turn by omega]
    · simp [gtF, h1]
  | n + 1, turn, rest, h => by
    unfold whileGo
    by_cases h1 : 0 < rest
    · by_cases h2 : 0 < turn
      · obtain ⟨t', r', e⟩ := drawn_while s k m cell n (turn - 1) (rest / 1000000) (by omega)
        exact ⟨t', r', by simpa [g_law_drawn_2_t3_t2_b, g_law_drawn_2_t3_t2_b1, g_law_drawn_2_t3_t2_b2, gtF, fdivF, subF, h1, h2] using e⟩
      · exact ⟨turn, rest, by simp [gtF, h1, h2]⟩
    · exact ⟨turn, rest, by simp [gtF, h1]⟩
theorem ne_nil (ns : List Int) : neF (.list (ns.map .int)) (.list []) = some (.sh, .bool (!ns.isEmpty)) := by
  unfold neF
  rw [if_pos ⟨shaped_ints ns, shaped_nil⟩]
  cases ns <;> simp [PyData.eqv, PyData.eqvAll]
theorem atI_ints {ns : List Int} {i : Int} (h0 : 0 ≤ i) (h1 : i < ns.length) : ∃ c, atI (ns.map PyData.int) i = some (.int c) := by
  obtain ⟨j, rfl⟩ : ∃ j : Nat, i = (j : Int) := ⟨i.toNat, by omega⟩
  have hj : j < ns.length := by omega
  exact ⟨ns[j], atI_nat (by simp [hj])⟩
theorem drawn_if (ns : List Int) (k m : Int) (hl : ns.length ≤ 63) (hk : 0 ≤ k) (hm : 0 < m) :
    (∃ r Γ, g_law_drawn_2 [some (false, .list (ns.map .int)), some (false, .int k), some (false, .int m), some (false, .int (7 * k)), none, none] = .ok (.rt (.sh, .int r)) Γ ∧ 0 ≤ r ∧ r < m) ∨
    (∃ c o1 o2, g_law_drawn_2 [some (false, .list (ns.map .int)), some (false, .int k), some (false, .int m), some (false, .int (7 * k)), none, none] = .ok .nx [some (false, .list (ns.map .int)), some (false, .int k), some (false, .int m), some (false, .int c), o1, o2]) := by
  have en := ne_nil ns
  cases hns : ns with
  | nil =>
    rw [hns] at en
    refine .inr ⟨7 * k, none, none, ?_⟩
    simp only [List.map_nil] at en ⊢
    simp [g_law_drawn_2, en]
  | cons a b =>
    rw [← hns]
    have hpos : 0 < (ns.length : Int) := by rw [hns]; simp
    have hposN : 0 < ns.length := by omega
    have en' : neF (.list (ns.map .int)) (.list []) = some (.sh, .bool true) := by rw [en, hns]; rfl
    obtain ⟨c, hc⟩ := atI_ints (ns := ns) (i := k % ns.length) (Int.emod_nonneg _ (by omega)) (Int.emod_lt_of_pos _ hpos)
    have h64 : (ns.length : Int) < 18446744073709551616 := by omega
    have h64N : ns.length < 18446744073709551616 := by omega
    by_cases q1 : (1000000000000000000 : Int) ≤ c
    · by_cases q2 : k / ns.length < 60
      · obtain ⟨t', r', e⟩ := drawn_while (.list (ns.map .int)) k m c 60 (k / ns.length) (c / 1000000000000000000) (by omega)
        simp only [Nat.reduceAdd] at e
        by_cases q3 : 0 < r'
        · refine .inl ⟨r' % 1000000 % m, [some (false, .list (ns.map .int)), some (false, .int k), some (false, .int m), some (false, .int c), some (false, .int t'), some (false, .int r')], ?_, Int.emod_nonneg _ (by omega), Int.emod_lt_of_pos _ hm⟩
          simp [g_law_drawn_2, g_law_drawn_2_t, g_law_drawn_2_t1, g_law_drawn_2_t2, g_law_drawn_2_t3, g_law_drawn_2_t3_t, g_law_drawn_2_t3_t1, g_law_drawn_2_t3_t2, g_law_drawn_2_t3_t3, g_law_drawn_2_t3_t3_t1, g_law_drawn_2_t4, en', lenF, modF, hpos, hposN, h64N, ixF, hc, fdivF, h64, geF, powF, q1, ltF, q2, e, gtF, q3, hm]
        · refine .inr ⟨c + 6553 * (k / ns.length), some (false, .int t'), some (false, .int r'), ?_⟩
          simp [g_law_drawn_2, g_law_drawn_2_t, g_law_drawn_2_t1, g_law_drawn_2_t2, g_law_drawn_2_t3, g_law_drawn_2_t3_t, g_law_drawn_2_t3_t1, g_law_drawn_2_t3_t2, g_law_drawn_2_t3_t3, g_law_drawn_2_t3_t3_t1, g_law_drawn_2_t4, en', lenF, modF, hpos, hposN, h64N, ixF, hc, fdivF, h64, geF, powF, q1, ltF, q2, e, gtF, q3, hm, mulF, addF]
      · refine .inr ⟨c + 6553 * (k / ns.length), some (false, .int (k / ns.length)), none, ?_⟩
        simp [g_law_drawn_2, g_law_drawn_2_t, g_law_drawn_2_t1, g_law_drawn_2_t2, g_law_drawn_2_t3, g_law_drawn_2_t4, en', lenF, modF, hpos, hposN, h64N, ixF, hc, fdivF, h64, geF, powF, q1, ltF, q2, mulF, addF]
    · refine .inr ⟨c + 6553 * (k / ns.length), some (false, .int (k / ns.length)), none, ?_⟩
      simp [g_law_drawn_2, g_law_drawn_2_t, g_law_drawn_2_t1, g_law_drawn_2_t2, g_law_drawn_2_t3, g_law_drawn_2_t4, en', lenF, modF, hpos, hposN, h64N, ixF, hc, fdivF, h64, geF, powF, q1, mulF, addF]
theorem drawn_ok (ns : List Int) (k m : Int) (hl : ns.length ≤ 63) (hk : 0 ≤ k) (hm : 0 < m) : ∃ r, F_law_drawn [.list (ns.map .int), .int k, .int m] = .ok (.sh, .int r) ∧ 0 ≤ r ∧ r < m := by
  unfold F_law_drawn
  rw [finF_app]
  unfold g_law_drawn
  rw [sSeq_app]
  have e1 : g_law_drawn_1 (startE 6 [.list (ns.map .int), .int k, .int m]) = .ok .nx [some (false, .list (ns.map .int)), some (false, .int k), some (false, .int m), some (false, .int (7 * k)), none, none] := by
    simp [g_law_drawn_1, mulF, List.replicate]
  rw [e1, seqR_nx]
  rcases drawn_if ns k m hl hk hm with ⟨r, Γ, e, h1, h2⟩ | ⟨c, o1, o2, e⟩
  · exact ⟨r, by rw [sSeq_app, e]; rfl, h1, h2⟩
  · obtain ⟨r, Γ, e2, h1, h2⟩ := drawn_tail (.list (ns.map .int)) k m c o1 o2 hm
    exact ⟨r, by rw [sSeq_app, e, seqR_nx, e2]; rfl, h1, h2⟩

/-! ### numbers, pairs, tiles -/
theorem number_int (t l m : Int) : F_is_number [.int t, .int l, .int m] = .ok (.sh, .bool (decide (l ≤ t) && decide (t ≤ m))) := by
  unfold F_is_number g_is_number g_is_number_1
  by_cases h1 : l ≤ t <;> by_cases h2 : t ≤ m <;> simp [finF_app, eChain, isiF, isiB, tyName, leF, h1, h2]
theorem pair_int (a b : Int) : F_is_pair [.tuple [.int a, .int b]] = .ok (.sh, .bool (decide (0 ≤ a) && decide (a ≤ 6) && (decide (0 ≤ b) && decide (b ≤ 6)))) := by
  unfold F_is_pair g_is_pair g_is_pair_1
  have n1 := number_int a 0 6
  have n2 := number_int b 0 6
  simp [finF_app, eComp, compGo, wipeE, restE, keepV, isiF, isiB, tyName, lenF, eqF, c_MOST, n1, n2, PyData.eqv, allF, boolsOf]
theorem tile_int (a b : Int) : F_is_tile [.tuple [.int a, .int b]] = .ok (.sh, .bool (decide (0 ≤ a) && decide (a ≤ 6) && (decide (0 ≤ b) && decide (b ≤ 6)) && decide (a ≤ b))) := by
  unfold F_is_tile g_is_tile g_is_tile_1
  have n1 := pair_int a b
  by_cases h : (decide (0 ≤ a) && decide (a ≤ 6) && (decide (0 ≤ b) && decide (b ≤ 6))) = true
  · rw [h] at n1
    simp [finF_app, n1, ixF, leF, h, atI, ixN]
  · rw [Bool.not_eq_true] at h
    rw [h] at n1
    simp [finF_app, n1, h]

/-! ### tiles -/
def IsT (p : Int × Int) : Prop := 0 ≤ p.1 ∧ p.1 ≤ p.2 ∧ p.2 ≤ 6
structure Tiles (ps : List (Int × Int)) : Prop where
  each : ∀ p ∈ ps, IsT p
  nd : ps.Nodup
def allP (t : Nat) : List (Int × Int) := (List.range (t + 1)).flatMap fun a => (List.range (t + 1 - a)).map fun b => ((a : Int), ((a + b : Nat) : Int))
theorem allP_in : ∀ a b : Fin 7, a.val ≤ b.val → ((a.val : Int), (b.val : Int)) ∈ allP 6 := by decide +kernel
theorem IsT.mem {p : Int × Int} (h : IsT p) : p ∈ allP 6 := by
  obtain ⟨a, b⟩ := p
  obtain ⟨h1, h2, h3⟩ := h
  simp only at h1 h2 h3
  have := allP_in ⟨a.toNat, by omega⟩ ⟨b.toNat, by omega⟩ (by simp; omega)
  simp only at this
  rwa [Int.toNat_of_nonneg h1, Int.toNat_of_nonneg (by omega)] at this
theorem Tiles.len {ps : List (Int × Int)} (h : Tiles ps) : ps.length ≤ 28 := nd_len (m := allP 6) h.nd fun p hp => (h.each p hp).mem

theorem tile_tl {p : Int × Int} (h : IsT p) : F_is_tile [tl p] = .ok (.sh, .bool true) := by
  obtain ⟨h1, h2, h3⟩ := h
  have := tile_int p.1 p.2
  rw [show (decide (0 ≤ p.1) && decide (p.1 ≤ 6) && (decide (0 ≤ p.2) && decide (p.2 ≤ 6)) && decide (p.1 ≤ p.2)) = true by simp; omega] at this
  exact this

/-! ### counts -/
theorem in_int (n : Int) (p : Int × Int) : inF (.int n) (tl p) = some (.sh, .bool (decide (p.1 = n ∨ p.2 = n))) := by
  have h1 := (nice_int n).shaped
  have h2 := (nice_tl p).shaped
  unfold tl at h2
  unfold inF tl
  simp only [inB]
  rw [if_pos ⟨h1, h2⟩]
  simp [PyData.eqv, Bool.decide_or]
  rfl
theorem in_tl (p : Int × Int) (qs : List (Int × Int)) : inB (tl p) (.list (qs.map tl)) = some (decide (p ∈ qs)) := by
  have h1 := (nice_tl p).shaped
  have h2 := (nice_tls qs).shaped
  generalize hx : tl p = x at *
  have e : inB x (.list (qs.map tl)) = if SeqAt.shaped x = true ∧ SeqAt.shaped (.list (qs.map tl)) = true then some ((qs.map tl).any fun z => PyData.eqv z x) else none := by cases x <;> rfl
  rw [e, if_pos ⟨h1, h2⟩, ← hx]
  congr 1
  clear e
  rw [List.any_map]
  induction qs with
  | nil => simp
  | cons q qs ih => 
    rw [List.any_cons, ih (nice_tls qs).shaped]
    simp only [Function.comp, eqv_tl, List.mem_cons]
    by_cases e : p = q
    · simp [e]
    · simp [e, Ne.symm e]

/-! ### chains -/
def tof (p : Int × Int) : Int × Int := (min p.1 p.2, max p.1 p.2)
def In6 (p : Int × Int) : Prop := (0 ≤ p.1 ∧ p.1 ≤ 6) ∧ 0 ≤ p.2 ∧ p.2 ≤ 6
theorem min_tl (p : Int × Int) : minF (tl p) = some (.sh, .int (min p.1 p.2)) := rfl
theorem max_tl (p : Int × Int) : maxF (tl p) = some (.sh, .int (max p.1 p.2)) := rfl
theorem pair_tl {p : Int × Int} (h : In6 p) : F_is_pair [tl p] = .ok (.sh, .bool true) := by
  have := pair_int p.1 p.2
  rw [show (decide (0 ≤ p.1) && decide (p.1 ≤ 6) && (decide (0 ≤ p.2) && decide (p.2 ≤ 6))) = true by simp; exact ⟨h.1, h.2⟩] at this
  exact this
theorem tof_tl (p : Int × Int) : F_tile_of [tl p] = .ok (.sh, tl (tof p)) := by
  have a := min_tl p
  have b := max_tl p
  rw [show tl (tof p) = .tuple [.int (min p.1 p.2), .int (max p.1 p.2)] from rfl]
  generalize tl p = x at *
  simp [F_tile_of, g_tile_of, g_tile_of_1, finF_app, a, b]
/-- each pair begins as the one before it ends -/
def Lnk : List (Int × Int) → Prop
  | [] => True
  | [_] => True
  | p :: q :: r => p.2 = q.1 ∧ Lnk (q :: r)
instance Lnk.dec : ∀ cs : List (Int × Int), Decidable (Lnk cs)
  | [] => .isTrue trivial
  | [_] => .isTrue trivial
  | p :: q :: r => by
    have := Lnk.dec (q :: r)
    exact (inferInstance : Decidable (p.2 = q.1 ∧ Lnk (q :: r)))
structure IsCh (cs : List (Int × Int)) : Prop where
  lnk : Lnk cs
  nd : (cs.map tof).Nodup
instance (cs : List (Int × Int)) : Decidable (IsCh cs) := if h : Lnk cs ∧ (cs.map tof).Nodup then .isTrue ⟨h.1, h.2⟩ else .isFalse fun z => h ⟨z.lnk, z.nd⟩
theorem lnk_zip : ∀ cs : List (Int × Int), ((cs.zip (cs.drop 1)).filter fun z => !decide (z.1.2 = z.2.1)) = [] ↔ Lnk cs
  | [] => by simp [Lnk]
  | [_] => by simp [Lnk]
  | p :: q :: r => by
    have ih := lnk_zip (q :: r)
    simp only [List.drop_succ_cons, List.drop_zero, List.zip_cons_cons, List.filter_cons] at ih ⊢
    unfold Lnk
    by_cases e : p.2 = q.1
    · simp only [e, decide_true, Bool.not_true, if_neg Bool.false_ne_true, true_and]
      exact ih
    · simp [e]
theorem cntL_eq : ∀ l : List (List Int), cntL l = l.length ↔ l.Nodup
  | [] => by simp [cntL]
  | x :: r => by
    have h := cntL_le r
    have ih := cntL_eq r
    unfold cntL
    rw [List.nodup_cons]
    by_cases e : x ∈ r
    · rw [if_pos (by simpa using e)]
      simp only [List.length_cons]
      exact ⟨fun z => by omega, fun z => absurd e z.1⟩
    · rw [if_neg (by simpa using e)]
      simp only [List.length_cons]
      exact ⟨fun z => ⟨e, ih.mp (by omega)⟩, fun z => by have := ih.mpr z.2; omega⟩
theorem nodup_tl (ps : List (Int × Int)) : (ps.map fun p => [p.1, p.2]).Nodup ↔ ps.Nodup := by
  constructor
  · intro h
    exact (List.pairwise_map.mp h).imp fun {p q} e z => e (by rw [z])
  · intro h
    refine List.pairwise_map.mpr (h.imp fun {p q} e z => e ?_)
    obtain ⟨a, b⟩ := p
    obtain ⟨c, d⟩ := q
    simp at z
    simp [z.1, z.2]
theorem zipD_tl : ∀ as bs : List (Int × Int), zipD (as.map tl) (bs.map tl) = (as.zip bs).map fun z => .tuple [tl z.1, tl z.2]
  | [], _ => by simp [zipD]
  | _ :: _, [] => by simp [zipD]
  | a :: as, b :: bs => by
    have ih := zipD_tl as bs
    unfold zipD at *
    simp [ih]
theorem ne_nils {xs : List D} {n : Nat} (h : Nice n (.list xs)) (hn : n ≤ 64) : neF (.list xs) (.list []) = some (.sh, .bool (!xs.isEmpty)) := by
  unfold neF
  rw [if_pos ⟨h.shaped hn, shaped_nil⟩]
  cases xs <;> simp [PyData.eqv, PyData.eqvAll]
theorem eq_nils {xs : List D} {n : Nat} (h : Nice n (.list xs)) (hn : n ≤ 64) : eqF (.list xs) (.list []) = some (.sh, .bool xs.isEmpty) := by
  unfold eqF
  rw [if_pos ⟨h.shaped hn, shaped_nil⟩]
  cases xs <;> simp [PyData.eqv, PyData.eqvAll]
theorem cut1 (xs : List D) : cutL xs (some 1) none = xs.drop 1 := by
  unfold cutL
  have e : HT.sIx xs.length 0 (some 1) = min 1 xs.length := HT.sIx_nat xs.length 0 1
  rw [e, HT.sIx_none]
  cases xs with
  | nil => rfl
  | cons x r =>
    have : min 1 (x :: r).length = 1 := by rw [List.length_cons]; omega
    rw [this]
    simp
theorem is_chain_gen (FP FT : List D → R0) (cs : List (Int × Int)) (hl : cs.length < 64) (h1 : ∀ p ∈ cs, FP [tl p] = .ok (.sh, .bool true)) (h2 : ∀ p ∈ cs, FT [tl p] = .ok (.sh, tl (tof p))) :
    finF 4 (sSeq (sIf (eOr (eNot (eUn (isiF "list") (eVar 0))) (eNot (eUn allF (eComp [1] (iSeq (eVar 0)) (gV 1) (eLit (.bool true)) (eCall FP (aCons (eVar 1) aNil)))))) (sRet (eLit (.bool false))) sNx)
      (sSeq (sIf (eBin neF (eComp [2, 3] (iZip (aCons (eVar 0) (aCons (eSl (eVar 0) (oSome (eLit (.int 1))) oNone) aNil))) (gT 2 (gsCons (gV 2) (gsCons (gV 3) gsNil))) (eBin neF (eBin ixF (eVar 2) (eLit (.int 1))) (eBin ixF (eVar 3) (eLit (.int 0)))) (eVar 2)) (eLst aNil)) (sRet (eLit (.bool false))) sNx)
      (sRet (eBin eqF (eUn lenSetF (eComp [1] (iSeq (eVar 0)) (gV 1) (eLit (.bool true)) (eCall FT (aCons (eVar 1) aNil)))) (eUn lenF (eVar 0)))))) [.list (cs.map tl)] = .ok (.sh, .bool (decide (IsCh cs))) := by
  have e1 : eComp [1] (iSeq (eVar 0)) (gV 1) (eLit (.bool true)) (eCall FP (aCons (eVar 1) aNil)) [some (false, .list (cs.map tl)), none, none, none] = .ok (.ow, .list (cs.map fun _ => .bool true)) [some (false, .list (cs.map tl)), none, none, none] :=
    eComp_each (Γ1 := [some (false, .list (cs.map tl)), none, none, none]) tl _ (by simp) (by omega) (by simp [wipeE, restE, keepV]) fun p hp => ⟨[some (false, .list (cs.map tl)), some (false, tl p), none, none], by simp [comp1, wipeE, h1 p hp], by simp [wipeE]⟩
  have e1' : allF (.list (cs.map fun _ => .bool true)) = some (.sh, .bool true) := by
    rw [all_map (fun _ : Int × Int => true) cs, List.all_eq_true.mpr fun _ _ => rfl]
  have e2 : eComp [2, 3] (iZip (aCons (eVar 0) (aCons (eSl (eVar 0) (oSome (eLit (.int 1))) oNone) aNil))) (gT 2 (gsCons (gV 2) (gsCons (gV 3) gsNil))) (eBin neF (eBin ixF (eVar 2) (eLit (.int 1))) (eBin ixF (eVar 3) (eLit (.int 0)))) (eVar 2) [some (false, .list (cs.map tl)), none, none, none] = .ok (.ow, .list (((cs.zip (cs.drop 1)).filter fun z => !decide (z.1.2 = z.2.1)).map fun z => tl z.1)) [some (false, .list (cs.map tl)), none, none, none] := by
    refine eComp_some (Γ1 := [some (false, .list (cs.map tl)), none, none, none]) (fun z : (Int × Int) × (Int × Int) => .tuple [tl z.1, tl z.2]) (fun z => !decide (z.1.2 = z.2.1)) (fun z => tl z.1) ?_ ?_ (by simp [wipeE, restE, keepV]) fun z hz => ⟨[some (false, .list (cs.map tl)), none, some (false, tl z.1), some (false, tl z.2)], ?_, by simp [wipeE]⟩
    · have := zipD_tl cs (cs.drop 1)
      rw [List.map_drop] at this
      rw [List.drop_one, List.drop_one] at this
      simp [slF, cut1, this]
    · rw [List.length_zip]; omega
    · have x1 : ixF (tl z.1) (.int 1) = some (.sh, .int z.1.2) := rfl
      have x0 : ixF (tl z.2) (.int 0) = some (.sh, .int z.2.1) := rfl
      by_cases q : z.1.2 = z.2.1 <;> simp [comp1, wipeE, x0, x1, ne_int, q]
  have e3 : eComp [1] (iSeq (eVar 0)) (gV 1) (eLit (.bool true)) (eCall FT (aCons (eVar 1) aNil)) [some (false, .list (cs.map tl)), none, none, none] = .ok (.ow, .list ((cs.map tof).map tl)) [some (false, .list (cs.map tl)), none, none, none] := by
    rw [List.map_map]
    exact eComp_each (Γ1 := [some (false, .list (cs.map tl)), none, none, none]) tl (tl ∘ tof) (by simp) (by omega) (by simp [wipeE, restE, keepV]) fun p hp => ⟨[some (false, .list (cs.map tl)), some (false, tl p), none, none], by simp [comp1, wipeE, h2 p hp], by simp [wipeE]⟩
  have e4 := lenSet_tl (ps := cs.map tof) (by simpa using hl)
  have hne := ne_nils (xs := ((cs.zip (cs.drop 1)).filter fun z => !decide (z.1.2 = z.2.1)).map fun z => tl z.1) (n := 2) (nice_map fun z _ => nice_tl z.1) (by decide)
  have hc : (cntL ((cs.map tof).map fun p => [p.1, p.2]) : Int) = cs.length ↔ (cs.map tof).Nodup := by
    rw [← nodup_tl, ← cntL_eq, List.length_map, List.length_map]
    omega
  have hz := lnk_zip cs
  by_cases q : Lnk cs
  · rw [hz.mpr q] at e2 hne
    simp only [List.map_nil, List.isEmpty_nil] at e2 hne
    have hd : decide ((cntL ((cs.map tof).map fun p => [p.1, p.2]) : Int) = (cs.length : Int)) = decide (IsCh cs) := by
      refine decide_eq_decide.mpr (hc.trans ⟨fun z => ⟨q, z⟩, fun z => z.nd⟩)
    simp only [List.map_map] at hd e3 e4
    simp [finF_app, isiF, isiB, tyName, e1, e1', e2, e3, e4, hne, lenF, eq_int, List.replicate, hd]
  · have hx : ((((cs.zip (cs.drop 1)).filter fun z => !decide (z.1.2 = z.2.1)).map fun z => tl z.1).isEmpty) = false := by
      rw [List.isEmpty_eq_false_iff]
      intro z
      exact q (hz.mp (List.map_eq_nil_iff.mp z))
    rw [hx] at hne
    generalize (((cs.zip (cs.drop 1)).filter fun z => !decide (z.1.2 = z.2.1)).map fun z => tl z.1) = zs at *
    have hd : decide (IsCh cs) = false := decide_eq_false fun z => q z.lnk
    simp [finF_app, isiF, isiB, tyName, e1, e1', e2, hne, hd, List.replicate]
theorem is_chain_ok {cs : List (Int × Int)} (hl : cs.length < 64) (h : ∀ p ∈ cs, In6 p) : F_is_chain [.list (cs.map tl)] = .ok (.sh, .bool (decide (IsCh cs))) :=
  is_chain_gen F_is_pair F_tile_of cs hl (fun p hp => pair_tl (h p hp)) fun p _ => tof_tl p

/-! ### the law's own fits, laid, chain -/
theorem map_tof (cs : List (Int × Int)) (Γ : DL.Env) (i j : Nat) (hl : cs.length ≤ 1000000) (hi : (eVar j) Γ = .ok (.sh, .list (cs.map tl)) Γ) (hr : restE Γ (wipeE Γ [i]) [i] = Γ) (hx : ∀ d, ((wipeE Γ [i]).set i (some (false, d)))[i]? = some (some (false, d))) (hw : ∀ d, wipeE ((wipeE Γ [i]).set i (some (false, d))) [i] = wipeE Γ [i]) :
    eComp [i] (iSeq (eVar j)) (gV i) (eLit (.bool true)) (eTup (aCons (eUn minF (eVar i)) (aCons (eUn maxF (eVar i)) aNil))) Γ = .ok (.ow, .list ((cs.map tof).map tl)) Γ := by
  rw [List.map_map]
  refine eComp_each (Γ1 := Γ) tl (tl ∘ tof) ?_ hl hr fun p hp => ⟨(wipeE Γ [i]).set i (some (false, tl p)), ?_, hw _⟩
  · rw [iSeq_app, hi]; simp
  · have h0 := hx (tl p)
    have a := min_tl p
    have b := max_tl p
    rw [show (tl ∘ tof) p = .tuple [.int (min p.1 p.2), .int (max p.1 p.2)] from rfl]
    generalize tl p = x at *
    simp [comp1, h0, a, b]
def LR : Bool → Str
  | true => "left"
  | false => "right"
def sdD (b : Bool) : D := .str (LR b)
theorem nice_sd (b : Bool) : Nice 0 (sdD b) := by cases b <;> exact ⟨by decide +kernel, by decide +kernel⟩
theorem eq_left (b : Bool) : eqF (sdD b) (.str "left") = some (.sh, .bool b) := by
  unfold eqF
  rw [if_pos ⟨(nice_sd b).shaped, (nice_sd true).shaped⟩]
  cases b <;> rfl
def hdC (cs : List (Int × Int)) : Int := (cs.headD (0, 0)).1
def lsC (cs : List (Int × Int)) : Int := (cs.getLastD (0, 0)).2
def inP (n : Int) (p : Int × Int) : Bool := decide (p.1 = n ∨ p.2 = n)
/-- the sides that fit -/
def fitL (cs : List (Int × Int)) (p : Int × Int) : List Bool := if p ∈ cs.map tof then [] else if cs = [] then [true, false] else (if inP (hdC cs) p = true then [true] else []) ++ (if inP (lsC cs) p = true then [false] else [])
def layL (cs : List (Int × Int)) (p : Int × Int) (b : Bool) : List (Int × Int) := if cs = [] then [p] else if b = true then (p.1 + p.2 - hdC cs, hdC cs) :: cs else cs ++ [(lsC cs, p.1 + p.2 - lsC cs)]
theorem at_hd {cs : List (Int × Int)} (h : cs ≠ []) : atI (cs.map tl) 0 = some (tl (cs.headD (0, 0))) := by
  cases cs with
  | nil => exact absurd rfl h
  | cons c r => exact atI_nat (j := 0) (by simp)
theorem at_ls {cs : List (Int × Int)} (h : cs ≠ []) : atI (cs.map tl) (-1) = some (tl (cs.getLastD (0, 0))) := by
  obtain ⟨r, c, rfl⟩ : ∃ r c, cs = r ++ [c] := ⟨cs.dropLast, cs.getLast h, (List.dropLast_concat_getLast h).symm⟩
  rw [List.map_append, List.map_singleton, atI_last]
  simp
theorem isE_ne {cs : List (Int × Int)} (h : cs ≠ []) : (cs.map tl).isEmpty = false := by cases cs <;> simp_all
theorem law_fits_ok (cs : List (Int × Int)) (p : Int × Int) (hl : cs.length ≤ 28) : F_law_fits [.list (cs.map tl), tl p] = .ok (.ow, .list ((fitL cs p).map sdD)) := by
  have e1 := map_tof cs [some (false, .list (cs.map tl)), some (false, tl p), none, none] 2 0 (by omega) (by simp) (by simp [wipeE, restE, keepV]) (fun d => by simp [wipeE]) fun d => by simp [wipeE]
  have e2 := in_tl p (cs.map tof)
  have e3 := eq_nils (nice_tls cs) (by decide)
  by_cases h1 : p ∈ cs.map tof
  · simp only [h1, decide_true] at e2
    generalize (cs.map tof).map tl = TL at *
    simp [F_law_fits, g_law_fits, g_law_fits_1, g_law_fits_1_t1, finF_app, List.replicate, e1, inF, e2, fitL, h1]
  · simp only [h1, decide_false] at e2
    by_cases h2 : cs = []
    · subst h2
      simp only [List.map_nil, List.isEmpty_nil] at e1 e2 e3
      simp [F_law_fits, g_law_fits, g_law_fits_1, g_law_fits_2, g_law_fits_2_t1, finF_app, List.replicate, e1, inF, e2, e3, fitL, sdD, LR]
    · rw [isE_ne h2] at e3
      have a1 := at_hd h2
      have a2 := at_ls h2
      have x0 : ixF (tl (cs.headD (0, 0))) (.int 0) = some (.sh, .int (hdC cs)) := rfl
      have x1 : ixF (tl (cs.getLastD (0, 0))) (.int 1) = some (.sh, .int (lsC cs)) := rfl
      have y0 : ixF (.list (cs.map tl)) (.int 0) = some (.sh, tl (cs.headD (0, 0))) := by simp [ixF, a1]
      have y1 : ixF (.list (cs.map tl)) (.int (-1)) = some (.sh, tl (cs.getLastD (0, 0))) := by simp [ixF, a2]
      have z0 := in_int (hdC cs) p
      have z1 := in_int (lsC cs) p
      simp only [inF] at z0 z1
      rw [show decide (p.1 = hdC cs ∨ p.2 = hdC cs) = inP (hdC cs) p from rfl] at z0
      rw [show decide (p.1 = lsC cs ∨ p.2 = lsC cs) = inP (lsC cs) p from rfl] at z1
      unfold fitL
      rw [if_neg h1, if_neg h2]
      generalize tl (cs.headD (0, 0)) = H at *
      generalize tl (cs.getLastD (0, 0)) = L at *
      generalize hdC cs = hh at *
      generalize lsC cs = ll at *
      generalize (cs.map tof).map tl = TL at *
      generalize cs.map tl = C at *
      generalize tl p = T at *
      cases q0 : inP hh p <;> cases q1 : inP ll p <;> (rw [q0] at z0; rw [q1] at z1; simp [F_law_fits, g_law_fits, g_law_fits_1, g_law_fits_2, g_law_fits_3, g_law_fits_4, finF_app, List.replicate, e1, inF, e2, e3, y0, y1, x0, x1, z0, z1, negF, addF, sdD, LR])
theorem law_laid_ok (cs : List (Int × Int)) (p : Int × Int) (b : Bool) (hl : cs.length ≤ 28) : F_law_laid [.list (cs.map tl), tl p, sdD b] = .ok (.ow, .list ((layL cs p b).map tl)) := by
  have e3 := eq_nils (nice_tls cs) (by decide)
  have hlen : cs.length + 1 ≤ 1000000 := by omega
  by_cases h2 : cs = []
  · subst h2
    simp only [List.map_nil, List.isEmpty_nil] at e3
    simp [F_law_laid, g_law_laid, g_law_laid_1, g_law_laid_1_t1, finF_app, List.replicate, e3, layL]
  · rw [isE_ne h2] at e3
    have x0 : ixF (tl (cs.headD (0, 0))) (.int 0) = some (.sh, .int (hdC cs)) := rfl
    have x1 : ixF (tl (cs.getLastD (0, 0))) (.int 1) = some (.sh, .int (lsC cs)) := rfl
    have y0 : ixF (.list (cs.map tl)) (.int 0) = some (.sh, tl (cs.headD (0, 0))) := by simp [ixF, at_hd h2]
    have y1 : ixF (.list (cs.map tl)) (.int (-1)) = some (.sh, tl (cs.getLastD (0, 0))) := by simp [ixF, at_ls h2]
    have w0 : ixF (tl p) (.int 0) = some (.sh, .int p.1) := rfl
    have w1 : ixF (tl p) (.int 1) = some (.sh, .int p.2) := rfl
    have eb := eq_left b
    have hC : (cs.map tl).length = cs.length := by simp
    unfold layL
    rw [if_neg h2]
    cases b with
    | true =>
      rw [if_pos rfl, List.map_cons, show tl (p.1 + p.2 - hdC cs, hdC cs) = .tuple [.int (p.1 + p.2 - hdC cs), .int (hdC cs)] from rfl]
      generalize tl (cs.headD (0, 0)) = H at *
      generalize hdC cs = hh at *
      generalize cs.map tl = C at *
      generalize tl p = T at *
      generalize sdD true = S at *
      have : 1 + C.length ≤ 1000000 := by omega
      simp [F_law_laid, g_law_laid, g_law_laid_1, g_law_laid_2, g_law_laid_2_t, g_law_laid_2_t1, g_law_laid_2_t2, finF_app, List.replicate, e3, eb, y0, x0, w0, w1, addF, subF, this]
    | false =>
      rw [if_neg (by simp), List.map_append, List.map_singleton, show tl (lsC cs, p.1 + p.2 - lsC cs) = .tuple [.int (lsC cs), .int (p.1 + p.2 - lsC cs)] from rfl]
      generalize tl (cs.getLastD (0, 0)) = H at *
      generalize lsC cs = hh at *
      generalize cs.map tl = C at *
      generalize tl p = T at *
      generalize sdD false = S at *
      have : C.length + 1 ≤ 1000000 := by omega
      simp [F_law_laid, g_law_laid, g_law_laid_1, g_law_laid_2, g_law_laid_3, finF_app, List.replicate, e3, eb, y1, x1, w0, w1, negF, addF, subF, this]
/-! what grows stays a chain -/
structure Good (cs : List (Int × Int)) : Prop where
  ch : IsCh cs
  in6 : ∀ p ∈ cs, In6 p
theorem tof_is {p : Int × Int} (h : In6 p) : IsT (tof p) := by
  obtain ⟨⟨h1, h2⟩, h3, h4⟩ := h
  unfold IsT tof
  simp only
  omega
theorem Good.len {cs : List (Int × Int)} (h : Good cs) : cs.length ≤ 28 := by
  have := nd_len (m := allP 6) h.ch.nd fun p hp => by
    obtain ⟨q, hq, rfl⟩ := List.mem_map.mp hp
    exact (tof_is (h.in6 q hq)).mem
  rw [List.length_map] at this
  exact this
theorem lnk_snoc : ∀ {cs : List (Int × Int)} {q : Int × Int}, Lnk cs → (cs ≠ [] → lsC cs = q.1) → Lnk (cs ++ [q])
  | [], q, _, _ => trivial
  | [p], q, _, h => ⟨h (by simp), trivial⟩
  | p :: p' :: r, q, h, k => by
    refine ⟨h.1, lnk_snoc (cs := p' :: r) h.2 fun _ => ?_⟩
    have := k (by simp)
    simpa [lsC] using this
theorem lay_good {cs : List (Int × Int)} {p : Int × Int} {b : Bool} (h : Good cs) (hp : IsT p) (hb : b ∈ fitL cs p) : Good (layL cs p b) := by
  unfold fitL at hb
  by_cases h1 : p ∈ cs.map tof
  · rw [if_pos h1] at hb; cases hb
  · rw [if_neg h1] at hb
    have tp : tof p = p := by
      obtain ⟨x, y⟩ := p
      obtain ⟨q1, q2, q3⟩ := hp
      simp only at q1 q2 q3
      simp only [tof, Prod.mk.injEq]
      omega
    have ip : In6 p := by
      obtain ⟨q1, q2, q3⟩ := hp
      exact ⟨⟨q1, by omega⟩, by omega, q3⟩
    by_cases h2 : cs = []
    · subst h2
      simp only [layL, if_pos]
      exact ⟨⟨trivial, by simp⟩, fun q hq => by rw [List.mem_singleton.mp hq]; exact ip⟩
    · rw [if_neg h2] at hb
      have two : ∀ n : Int, inP n p = true → (tof (p.1 + p.2 - n, n) = p ∧ tof (n, p.1 + p.2 - n) = p) ∧ In6 (p.1 + p.2 - n, n) ∧ In6 (n, p.1 + p.2 - n) := by
        intro n hn
        obtain ⟨x, y⟩ := p
        obtain ⟨q1, q2, q3⟩ := hp
        unfold inP at hn
        simp only [decide_eq_true_eq] at hn q1 q2 q3
        unfold In6 tof
        simp only [Prod.mk.injEq]
        omega
      unfold layL
      rw [if_neg h2]
      cases b with
      | true =>
        have hi : inP (hdC cs) p = true := by
          rw [List.mem_append] at hb
          rcases hb with hb | hb
          · split at hb
            · assumption
            · cases hb
          · split at hb <;> simp at hb
        obtain ⟨⟨t1, t2⟩, i1, i2⟩ := two _ hi
        rw [if_pos rfl]
        refine ⟨⟨?_, ?_⟩, fun q hq => ?_⟩
        · cases cs with
          | nil => exact absurd rfl h2
          | cons c r => exact ⟨rfl, h.ch.lnk⟩
        · rw [List.map_cons, t1]
          exact List.nodup_cons.mpr ⟨h1, h.ch.nd⟩
        · rcases List.mem_cons.mp hq with e | e
          · rw [e]; exact i1
          · exact h.in6 q e
      | false =>
        have hi : inP (lsC cs) p = true := by
          rw [List.mem_append] at hb
          rcases hb with hb | hb
          · split at hb <;> simp at hb
          · split at hb
            · assumption
            · cases hb
        obtain ⟨⟨t1, t2⟩, i1, i2⟩ := two _ hi
        rw [if_neg (by simp)]
        refine ⟨⟨lnk_snoc h.ch.lnk fun _ => rfl, ?_⟩, fun q hq => ?_⟩
        · rw [List.map_append, List.map_singleton, t2]
          refine List.nodup_append.mpr ⟨h.ch.nd, by simp, fun a ha z hz e => ?_⟩
          rw [List.mem_singleton] at hz
          exact h1 (hz ▸ e ▸ ha)
        · rcases List.mem_append.mp hq with e | e
          · exact h.in6 q e
          · rw [List.mem_singleton.mp e]; exact i2

/-! ### the program's ends, tiles_of, fits, laid, lay -/
theorem call_raise {F : List D → R0} {k : Nat} {Γ : DL.Env} {d : D} (h : Γ[0]? = some (some (false, d))) (e : F [d] = .ok (.sh, .bool true)) : sIf (eNot (eCall F (aCons (eVar 0) aNil))) (sRaise k) sNx Γ = .ok .nx Γ := by
  simp [h, e]
theorem need_chain_ok {cs : List (Int × Int)} (g : Good cs) : F_need_chain [.list (cs.map tl)] = .ok (.sh, .none) := by
  have e := is_chain_ok (cs := cs) (by have := g.len; omega) g.in6
  rw [decide_eq_true g.ch] at e
  unfold F_need_chain g_need_chain g_need_chain_1 g_need_chain_1_t1
  rw [finF_app, call_raise (d := .list (cs.map tl)) rfl e]
  rfl
theorem need_tile_ok {p : Int × Int} (h : IsT p) : F_need_tile [tl p] = .ok (.sh, .none) := by
  have e := tile_tl h
  unfold F_need_tile g_need_tile g_need_tile_1 g_need_tile_1_t1
  rw [finF_app, call_raise (d := tl p) rfl e]
  rfl
theorem ends_gen (F : List D → R0) (cs : List (Int × Int)) (h : F [.list (cs.map tl)] = .ok (.sh, .none)) : finF 1 (sSeq (sExpr (eCall F (aCons (eVar 0) aNil))) (sRet (eIf (eBin neF (eVar 0) (eLst aNil)) (eTup (aCons (eBin ixF (eBin ixF (eVar 0) (eLit (.int 0))) (eLit (.int 0))) (aCons (eBin ixF (eBin ixF (eVar 0) (eUn negF (eLit (.int 1)))) (eLit (.int 1))) aNil))) (eLit .none)))) [.list (cs.map tl)] = .ok (.sh, if cs = [] then .none else tl (hdC cs, lsC cs)) := by
  have e3 := ne_nils (nice_tls cs) (by decide)
  by_cases h2 : cs = []
  · subst h2
    simp only [List.map_nil, List.isEmpty_nil] at e3 h
    simp [finF_app, h, e3]
  · rw [isE_ne h2] at e3
    have x0 : ixF (tl (cs.headD (0, 0))) (.int 0) = some (.sh, .int (hdC cs)) := rfl
    have x1 : ixF (tl (cs.getLastD (0, 0))) (.int 1) = some (.sh, .int (lsC cs)) := rfl
    have y0 : ixF (.list (cs.map tl)) (.int 0) = some (.sh, tl (cs.headD (0, 0))) := by simp [ixF, at_hd h2]
    have y1 : ixF (.list (cs.map tl)) (.int (-1)) = some (.sh, tl (cs.getLastD (0, 0))) := by simp [ixF, at_ls h2]
    rw [if_neg h2, show tl (hdC cs, lsC cs) = .tuple [.int (hdC cs), .int (lsC cs)] from rfl]
    generalize tl (cs.headD (0, 0)) = H at *
    generalize tl (cs.getLastD (0, 0)) = L at *
    generalize cs.map tl = C at *
    simp [finF_app, h, e3, y0, y1, x0, x1, negF]
theorem ends_ok {cs : List (Int × Int)} (g : Good cs) : F_ends [.list (cs.map tl)] = .ok (.sh, if cs = [] then .none else tl (hdC cs, lsC cs)) := ends_gen F_need_chain cs (need_chain_ok g)
theorem comp_tof (FT : List D → R0) (cs : List (Int × Int)) (Γ : DL.Env) (i j : Nat) (hl : cs.length ≤ 1000000) (hT : ∀ p, FT [tl p] = .ok (.sh, tl (tof p))) (hi : (eVar j) Γ = .ok (.sh, .list (cs.map tl)) Γ) (hr : restE Γ (wipeE Γ [i]) [i] = Γ) (hx : ∀ d, ((wipeE Γ [i]).set i (some (false, d)))[i]? = some (some (false, d))) (hw : ∀ d, wipeE ((wipeE Γ [i]).set i (some (false, d))) [i] = wipeE Γ [i]) :
    eComp [i] (iSeq (eVar j)) (gV i) (eLit (.bool true)) (eCall FT (aCons (eVar i) aNil)) Γ = .ok (.ow, .list ((cs.map tof).map tl)) Γ := by
  rw [List.map_map]
  refine eComp_each (Γ1 := Γ) tl (tl ∘ tof) ?_ hl hr fun p hp => ⟨(wipeE Γ [i]).set i (some (false, tl p)), ?_, hw _⟩
  · rw [iSeq_app, hi]; simp
  · have h0 := hx (tl p)
    have a := hT p
    rw [show (tl ∘ tof) p = tl (tof p) from rfl]
    generalize tl p = x at *
    simp [comp1, h0, a]
theorem tiles_of_gen (F FT : List D → R0) (cs : List (Int × Int)) (hl : cs.length ≤ 28) (h : F [.list (cs.map tl)] = .ok (.sh, .none)) (hT : ∀ p, FT [tl p] = .ok (.sh, tl (tof p))) : finF 2 (sSeq (sExpr (eCall F (aCons (eVar 0) aNil))) (sRet (eUn sortF (eComp [1] (iSeq (eVar 0)) (gV 1) (eLit (.bool true)) (eCall FT (aCons (eVar 1) aNil)))))) [.list (cs.map tl)] = .ok (.ow, .list ((sortG ple (cs.map tof)).map tl)) := by
  have e1 := comp_tof FT cs [some (false, .list (cs.map tl)), none] 1 0 (by omega) hT (by simp) (by simp [wipeE, restE, keepV]) (fun d => by simp [wipeE]) fun d => by simp [wipeE]
  have e2 := sort_tl (cs.map tof)
  generalize (cs.map tof).map tl = S at *
  generalize cs.map tl = C at *
  simp [finF_app, h, e1, e2]
theorem tiles_of_ok {cs : List (Int × Int)} (g : Good cs) : F_tiles_of [.list (cs.map tl)] = .ok (.ow, .list ((sortG ple (cs.map tof)).map tl)) := tiles_of_gen F_need_chain F_tile_of cs g.len (need_chain_ok g) tof_tl
theorem fits_gen (FC FN FT : List D → R0) (cs : List (Int × Int)) (p : Int × Int) (hl : cs.length ≤ 28) (h : FC [.list (cs.map tl)] = .ok (.sh, .none)) (h' : FN [tl p] = .ok (.sh, .none)) (hT : ∀ p, FT [tl p] = .ok (.sh, tl (tof p))) :
    finF 5 (sSeq (sExpr (eCall FC (aCons (eVar 0) aNil))) (sSeq (sExpr (eCall FN (aCons (eVar 1) aNil))) (sSeq (sIf (eBin inF (eVar 1) (eComp [2] (iSeq (eVar 0)) (gV 2) (eLit (.bool true)) (eCall FT (aCons (eVar 2) aNil)))) (sRet (eLst aNil)) sNx)
      (sSeq (sIf (eBin eqF (eVar 0) (eLst aNil)) (sRet (eUn listF (eLit (.tuple [.str "left", .str "right"])))) sNx)
      (sRet (eComp [3, 4] (iZip (aCons (eLit (.tuple [.str "left", .str "right"])) (aCons (eTup (aCons (eBin ixF (eBin ixF (eVar 0) (eLit (.int 0))) (eLit (.int 0))) (aCons (eBin ixF (eBin ixF (eVar 0) (eUn negF (eLit (.int 1)))) (eLit (.int 1))) aNil))) aNil))) (gT 2 (gsCons (gV 3) (gsCons (gV 4) gsNil))) (eBin inF (eVar 4) (eVar 1)) (eVar 3))))))) [.list (cs.map tl), tl p] = .ok (.ow, .list ((fitL cs p).map sdD)) := by
  have e1 := comp_tof FT cs [some (false, .list (cs.map tl)), some (false, tl p), none, none, none] 2 0 (by omega) hT (by simp) (by simp [wipeE, restE, keepV]) (fun d => by simp [wipeE]) fun d => by simp [wipeE]
  have e2 := in_tl p (cs.map tof)
  have e3 := eq_nils (nice_tls cs) (by decide)
  by_cases h1 : p ∈ cs.map tof
  · simp only [h1, decide_true] at e2
    unfold fitL
    rw [if_pos h1]
    generalize (cs.map tof).map tl = TL at *
    generalize cs.map tl = C at *
    simp [finF_app, List.replicate, h, h', e1, inF, e2]
  · simp only [h1, decide_false] at e2
    by_cases h2 : cs = []
    · subst h2
      simp only [List.map_nil, List.isEmpty_nil] at e1 e2 e3 h
      simp [finF_app, List.replicate, h, h', e1, inF, e2, e3, fitL, sdD, LR, listF]
    · rw [isE_ne h2] at e3
      have x0 : ixF (tl (cs.headD (0, 0))) (.int 0) = some (.sh, .int (hdC cs)) := rfl
      have x1 : ixF (tl (cs.getLastD (0, 0))) (.int 1) = some (.sh, .int (lsC cs)) := rfl
      have y0 : ixF (.list (cs.map tl)) (.int 0) = some (.sh, tl (cs.headD (0, 0))) := by simp [ixF, at_hd h2]
      have y1 : ixF (.list (cs.map tl)) (.int (-1)) = some (.sh, tl (cs.getLastD (0, 0))) := by simp [ixF, at_ls h2]
      have z0 := in_int (hdC cs) p
      have z1 := in_int (lsC cs) p
      simp only [inF] at z0 z1
      rw [show decide (p.1 = hdC cs ∨ p.2 = hdC cs) = inP (hdC cs) p from rfl] at z0
      rw [show decide (p.1 = lsC cs ∨ p.2 = lsC cs) = inP (lsC cs) p from rfl] at z1
      unfold fitL
      rw [if_neg h1, if_neg h2]
      generalize tl (cs.headD (0, 0)) = H at *
      generalize tl (cs.getLastD (0, 0)) = L at *
      generalize hdC cs = hh at *
      generalize lsC cs = ll at *
      generalize (cs.map tof).map tl = TL at *
      generalize cs.map tl = C at *
      generalize tl p = T at *
      have e5 : eComp [3, 4] (iZip (aCons (eLit (.tuple [.str "left", .str "right"])) (aCons (eTup (aCons (eBin ixF (eBin ixF (eVar 0) (eLit (.int 0))) (eLit (.int 0))) (aCons (eBin ixF (eBin ixF (eVar 0) (eUn negF (eLit (.int 1)))) (eLit (.int 1))) aNil))) aNil))) (gT 2 (gsCons (gV 3) (gsCons (gV 4) gsNil))) (eBin inF (eVar 4) (eVar 1)) (eVar 3) [some (false, .list C), some (false, T), none, none, none] = .ok (.ow, .list (((if inP hh p = true then [true] else []) ++ (if inP ll p = true then [false] else [])).map sdD)) [some (false, .list C), some (false, T), none, none, none] := by
        cases q0 : inP hh p <;> cases q1 : inP ll p <;> (rw [q0] at z0; rw [q1] at z1; simp [inF, y0, y1, x0, x1, z0, z1, negF, eComp, compGo, zipD, wipeE, restE, keepV, sdD, LR])
      generalize (((if inP hh p = true then [true] else []) ++ (if inP ll p = true then [false] else [])).map sdD) = R at *
      simp [finF_app, List.replicate, h, h', e1, inF, e2, e3, e5]
theorem fits_ok {cs : List (Int × Int)} {p : Int × Int} (g : Good cs) (hp : IsT p) : F_fits [.list (cs.map tl), tl p] = .ok (.ow, .list ((fitL cs p).map sdD)) := fits_gen F_need_chain F_need_tile F_tile_of cs p g.len (need_chain_ok g) (need_tile_ok hp) tof_tl
theorem fit_in {cs : List (Int × Int)} {p : Int × Int} {b : Bool} (h2 : cs ≠ []) (hb : b ∈ fitL cs p) : inP (if b = true then hdC cs else lsC cs) p = true := by
  unfold fitL at hb
  by_cases h1 : p ∈ cs.map tof
  · rw [if_pos h1] at hb; cases hb
  · rw [if_neg h1, if_neg h2, List.mem_append] at hb
    rcases hb with hb | hb
    · split at hb
      · rw [List.mem_singleton.mp hb, if_pos rfl]; assumption
      · cases hb
    · split at hb
      · rw [List.mem_singleton.mp hb, if_neg (by simp)]; assumption
      · cases hb
theorem laid_ok {cs : List (Int × Int)} {p : Int × Int} {b : Bool} (hl : cs.length ≤ 28) (hb : b ∈ fitL cs p) : F_laid [.list (cs.map tl), tl p, sdD b] = .ok (.ow, .list ((layL cs p b).map tl)) := by
  have e3 := eq_nils (nice_tls cs) (by decide)
  have t0 : asgG (gT 2 (gsCons (gV 3) (gsCons (gV 4) gsNil))) (tl p) [some (false, .list (cs.map tl)), some (false, tl p), some (false, sdD b), none, none] = .ok .nx [some (false, .list (cs.map tl)), some (false, tl p), some (false, sdD b), some (false, .int p.1), some (false, .int p.2)] := by
    simp [tl]
  by_cases h2 : cs = []
  · subst h2
    simp only [List.map_nil, List.isEmpty_nil] at e3 t0
    generalize sdD b = S at *
    simp [F_laid, g_laid, g_laid_1, g_laid_2, g_laid_2_t1, finF_app, List.replicate, e3, t0, layL]
  · rw [isE_ne h2] at e3
    have hi := fit_in h2 hb
    have x0 : ixF (tl (cs.headD (0, 0))) (.int 0) = some (.sh, .int (hdC cs)) := rfl
    have x1 : ixF (tl (cs.getLastD (0, 0))) (.int 1) = some (.sh, .int (lsC cs)) := rfl
    have y0 : ixF (.list (cs.map tl)) (.int 0) = some (.sh, tl (cs.headD (0, 0))) := by simp [ixF, at_hd h2]
    have y1 : ixF (.list (cs.map tl)) (.int (-1)) = some (.sh, tl (cs.getLastD (0, 0))) := by simp [ixF, at_ls h2]
    have eb := eq_left b
    have hC : (cs.map tl).length = cs.length := by simp
    unfold layL
    rw [if_neg h2]
    unfold inP at hi
    rw [decide_eq_true_eq] at hi
    cases b with
    | true =>
      rw [if_pos rfl] at hi
      rw [if_pos rfl, List.map_cons, show tl (p.1 + p.2 - hdC cs, hdC cs) = .tuple [.int (p.1 + p.2 - hdC cs), .int (hdC cs)] from rfl]
      generalize tl (cs.headD (0, 0)) = H at *
      generalize hdC cs = hh at *
      generalize cs.map tl = C at *
      generalize tl p = T at *
      generalize sdD true = S at *
      have c1 : 1 + C.length ≤ 1000000 := by omega
      by_cases q : p.2 = hh
      · have : p.1 + p.2 - hh = p.1 := by omega
        rw [this, ← q]
        rw [← q] at x0
        simp [F_laid, g_laid, g_laid_1, g_laid_2, g_laid_3, g_laid_3_t1, finF_app, List.replicate, e3, t0, eb, y0, x0, eq_int, addF, c1]
      · have q1 : p.1 = hh := by omega
        have : p.1 + p.2 - hh = p.2 := by omega
        rw [this, ← q1]
        rw [← q1] at x0
        have q2 : ¬ p.2 = p.1 := by omega
        simp [F_laid, g_laid, g_laid_1, g_laid_2, g_laid_3, g_laid_3_t1, finF_app, List.replicate, e3, t0, eb, y0, x0, eq_int, q2, addF, c1]
    | false =>
      rw [if_neg (by simp)] at hi
      rw [if_neg (by simp), List.map_append, List.map_singleton, show tl (lsC cs, p.1 + p.2 - lsC cs) = .tuple [.int (lsC cs), .int (p.1 + p.2 - lsC cs)] from rfl]
      generalize tl (cs.getLastD (0, 0)) = H at *
      generalize lsC cs = hh at *
      generalize cs.map tl = C at *
      generalize tl p = T at *
      generalize sdD false = S at *
      have c1 : C.length + 1 ≤ 1000000 := by omega
      by_cases q : p.1 = hh
      · have : p.1 + p.2 - hh = p.2 := by omega
        rw [this, ← q]
        rw [← q] at x1
        simp [F_laid, g_laid, g_laid_1, g_laid_2, g_laid_3, g_laid_4, finF_app, List.replicate, e3, t0, eb, y1, x1, negF, eq_int, addF, c1]
      · have q1 : p.2 = hh := by omega
        have : p.1 + p.2 - hh = p.1 := by omega
        rw [this, ← q1]
        rw [← q1] at x1
        have q2 : ¬ p.1 = p.2 := by omega
        simp [F_laid, g_laid, g_laid_1, g_laid_2, g_laid_3, g_laid_4, finF_app, List.replicate, e3, t0, eb, y1, x1, negF, eq_int, q2, addF, c1]
theorem need_side_ok (b : Bool) : F_need_side [sdD b] = .ok (.sh, .none) := by cases b <;> exact of_r0 (by decide +kernel)
theorem in_sides (b : Bool) (bs : List Bool) : inB (sdD b) (.list (bs.map sdD)) = some (decide (b ∈ bs)) := by
  have h1 := (nice_sd b).shaped
  have h2 := (nice_map (n := 0) (enc := sdD) (xs := bs) fun b _ => nice_sd b).shaped
  have ev : ∀ a b : Bool, PyData.eqv (sdD a) (sdD b) = decide (a = b) := by decide +kernel
  have e : inB (sdD b) (.list (bs.map sdD)) = if SeqAt.shaped (sdD b) = true ∧ SeqAt.shaped (.list (bs.map sdD)) = true then some ((bs.map sdD).any fun z => PyData.eqv z (sdD b)) else none := by cases b <;> rfl
  rw [e, if_pos ⟨h1, h2⟩, List.any_map]
  congr 1
  clear h2 e
  induction bs with
  | nil => simp
  | cons q qs ih =>
    rw [List.any_cons, ih]
    simp only [Function.comp, ev, List.mem_cons]
    by_cases e : b = q
    · simp [e]
    · simp [e, Ne.symm e]
theorem lay_gen (FF FS FL : List D → R0) (C : List D) (T : D) (bs : List Bool) (b : Bool) (N : D) (h1 : FF [.list C, T] = .ok (.ow, .list (bs.map sdD))) (h2 : FS [sdD b] = .ok (.sh, .none)) (hb : b ∈ bs) (h3 : FL [.list C, T, sdD b] = .ok (.ow, N)) (k : Nat) :
    finF 4 (sSeq (sAsg 3 (eCall FF (aCons (eVar 0) (aCons (eVar 1) aNil)))) (sSeq (sExpr (eCall FS (aCons (eVar 2) aNil))) (sSeq (sIf (eBin notInF (eVar 2) (eVar 3)) (sRaise k) sNx) (sRet (eCall FL (aCons (eVar 0) (aCons (eVar 1) (aCons (eVar 2) aNil)))))))) [.list C, T, sdD b] = .ok (.ow, N) := by
  have e := in_sides b bs
  rw [decide_eq_true hb] at e
  generalize bs.map sdD = B at *
  generalize sdD b = S at *
  simp [finF_app, List.replicate, h1, h2, notInF, e, h3]
theorem lay_ok {cs : List (Int × Int)} {p : Int × Int} {b : Bool} (g : Good cs) (hp : IsT p) (hb : b ∈ fitL cs p) : F_lay [.list (cs.map tl), tl p, sdD b] = .ok (.ow, .list ((layL cs p b).map tl)) :=
  lay_gen F_fits F_need_side F_laid (cs.map tl) (tl p) (fitL cs p) b _ (fits_ok g hp) (need_side_ok b) hb (laid_ok g.len hb) _

/-! ### the law's chain grows; the law's own look at chains -/
def itl (q : (Int × Int) × Nat) : D := .tuple [.int (q.2 : Nat), tl q.1]
theorem enum_itl (ps : List (Int × Int)) : enumD (ps.map tl) = ps.zipIdx.map itl := by
  unfold enumD
  apply List.ext_getElem
  · simp
  · intro i h1 h2
    simp at h1
    simp [h1, itl]
theorem side_at {bs : List Bool} {j : Int} (h0 : 0 ≤ j) (h1 : j < bs.length) : ∃ b ∈ bs, atI (bs.map sdD) j = some (sdD b) := by
  obtain ⟨k, rfl⟩ : ∃ k : Nat, j = (k : Int) := ⟨j.toNat, by omega⟩
  have hk : k < bs.length := by omega
  exact ⟨bs[k], List.getElem_mem _, atI_nat (by simp [hk])⟩
theorem chain_loop (FF FL FD : List D → R0) (s T : D) (at_ : Int) (dr : Int → Int → Int) (hd : ∀ k m : Int, 0 ≤ k → 0 < m → FD [s, .int k, .int m] = .ok (.sh, .int (dr k m)) ∧ 0 ≤ dr k m ∧ dr k m < m) (ha : 0 ≤ at_)
    (hF : ∀ (cs : List (Int × Int)) (p : Int × Int), cs.length ≤ 28 → FF [.list (cs.map tl), tl p] = .ok (.ow, .list ((fitL cs p).map sdD)))
    (hL : ∀ (cs : List (Int × Int)) (p : Int × Int) (b : Bool), cs.length ≤ 28 → FL [.list (cs.map tl), tl p, sdD b] = .ok (.ow, .list ((layL cs p b).map tl))) :
    ∀ (xs : List ((Int × Int) × Nat)) (cs : List (Int × Int)) (o4 o5 o6 : Option (Bool × D)), (∀ x ∈ xs, IsT x.1) → Good cs →
    ∃ (cs' : List (Int × Int)) (p4 p5 p6 : Option (Bool × D)), forGo (gT 2 (gsCons (gV 4) (gsCons (gV 5) gsNil))) (sSeq (sAsg 6 (eCall FF (aCons (eVar 3) (aCons (eVar 5) aNil)))) (sIf (eBin neF (eVar 6) (eLst aNil)) (sAsg 3 (eCall FL (aCons (eVar 3) (aCons (eVar 5) (aCons (eBin ixF (eVar 6) (eCall FD (aCons (eVar 0) (aCons (eBin addF (eVar 1) (eVar 4)) (aCons (eUn lenF (eVar 6)) aNil))))) aNil))))) sNx))
      (xs.map itl) [some (false, s), some (false, .int at_), some (false, T), some (false, .list (cs.map tl)), o4, o5, o6] = .ok .nx [some (false, s), some (false, .int at_), some (false, T), some (false, .list (cs'.map tl)), p4, p5, p6] ∧ Good cs'
  | [], cs, o4, o5, o6, _, g => ⟨cs, o4, o5, o6, rfl, g⟩
  | x :: xs, cs, o4, o5, o6, hx, g => by
    have hl := g.len
    have hp := hx x (by simp)
    have e1 := hF cs x.1 hl
    have e2 := ne_nils (xs := (fitL cs x.1).map sdD) (n := 1) (nice_map fun b _ => nice_sd b) (by decide)
    by_cases q : fitL cs x.1 = []
    · rw [q] at e1 e2
      obtain ⟨cs', p4, p5, p6, h1, h2⟩ := chain_loop FF FL FD s T at_ dr hd ha hF hL xs cs (some (false, .int (x.2 : Nat))) (some (false, tl x.1)) (some (false, .list [])) (fun y hy => hx y (by simp [hy])) g
      refine ⟨cs', p4, p5, p6, ?_, h2⟩
      rw [List.map_cons]
      unfold forGo
      simp only [itl, gT2_app]
      simp only [List.map_nil, List.isEmpty_nil] at e1 e2
      simp [e1, e2]
      exact h1
    · have hlen : 0 < ((fitL cs x.1).length : Int) := by
        have := List.length_pos_iff.mpr q
        omega
      obtain ⟨d1, d2, d3⟩ := hd (at_ + (x.2 : Int)) (fitL cs x.1).length (by omega) hlen
      obtain ⟨b, hb, hj⟩ := side_at d2 d3
      have e3 := hL cs x.1 b hl
      have g' := lay_good g hp hb
      obtain ⟨cs', p4, p5, p6, h1, h2⟩ := chain_loop FF FL FD s T at_ dr hd ha hF hL xs (layL cs x.1 b) (some (false, .int (x.2 : Nat))) (some (false, tl x.1)) (some (false, .list ((fitL cs x.1).map sdD))) (fun y hy => hx y (by simp [hy])) g'
      refine ⟨cs', p4, p5, p6, ?_, h2⟩
      rw [List.map_cons]
      unfold forGo
      simp only [itl, gT2_app]
      have hne : (((fitL cs x.1).map sdD).isEmpty) = false := by
        rw [List.isEmpty_eq_false_iff]
        intro z
        exact q (List.map_eq_nil_iff.mp z)
      rw [hne] at e2
      have hlm : ((fitL cs x.1).map sdD).length = (fitL cs x.1).length := by simp
      generalize hS : (fitL cs x.1).map sdD = S at *
      generalize (layL cs x.1 b).map tl = N at *
      generalize cs.map tl = C at *
      generalize tl x.1 = P at *
      generalize sdD b = B at *
      rw [← hlm] at d1 hj
      simp [e1, e2, lenF, addF, d1, ixF, hj, e3]
      exact h1
theorem chain_gen (FF FL FD : List D → R0) (s : D) (at_ : Int) (dr : Int → Int → Int) (hd : ∀ k m : Int, 0 ≤ k → 0 < m → FD [s, .int k, .int m] = .ok (.sh, .int (dr k m)) ∧ 0 ≤ dr k m ∧ dr k m < m) (ha : 0 ≤ at_)
    (hF : ∀ (cs : List (Int × Int)) (p : Int × Int), cs.length ≤ 28 → FF [.list (cs.map tl), tl p] = .ok (.ow, .list ((fitL cs p).map sdD)))
    (hL : ∀ (cs : List (Int × Int)) (p : Int × Int) (b : Bool), cs.length ≤ 28 → FL [.list (cs.map tl), tl p, sdD b] = .ok (.ow, .list ((layL cs p b).map tl))) (ps : List (Int × Int)) (hps : Tiles ps) :
    ∃ cs : List (Int × Int), finF 7 (sSeq (sAsg 3 (eLst aNil)) (sSeq (sFor (iEnum (eVar 2)) (gT 2 (gsCons (gV 4) (gsCons (gV 5) gsNil))) (sSeq (sAsg 6 (eCall FF (aCons (eVar 3) (aCons (eVar 5) aNil)))) (sIf (eBin neF (eVar 6) (eLst aNil)) (sAsg 3 (eCall FL (aCons (eVar 3) (aCons (eVar 5) (aCons (eBin ixF (eVar 6) (eCall FD (aCons (eVar 0) (aCons (eBin addF (eVar 1) (eVar 4)) (aCons (eUn lenF (eVar 6)) aNil))))) aNil))))) sNx))) (sRet (eVar 3)))) [s, .int at_, .list (ps.map tl)] = .ok (.sh, .list (cs.map tl)) ∧ Good cs := by
  obtain ⟨cs, p4, p5, p6, h1, h2⟩ := chain_loop FF FL FD s (.list (ps.map tl)) at_ dr hd ha hF hL ps.zipIdx [] none none none (fun x hx => hps.each x.1 (by
    have := List.mem_map_of_mem (f := fun q : (Int × Int) × Nat => q.1) hx
    simpa using this)) ⟨⟨trivial, by simp⟩, by simp⟩
  refine ⟨cs, ?_, h2⟩
  have hlen := hps.len
  rw [finF_app, sSeq_app, show sAsg 3 (eLst aNil) (startE 7 [s, .int at_, .list (ps.map tl)]) = .ok .nx [some (false, s), some (false, .int at_), some (false, .list (ps.map tl)), some (false, .list []), none, none, none] by simp [List.replicate], seqR_nx, sSeq_app, sFor_app]
  have hi : iEnum (eVar 2) [some (false, s), some (false, .int at_), some (false, .list (ps.map tl)), some (false, .list []), none, none, none] = .ok (ps.zipIdx.map itl) [some (false, s), some (false, .int at_), some (false, .list (ps.map tl)), some (false, .list []), none, none, none] := by
    simp [enum_itl]
  rw [hi]
  simp only [Rs.bind]
  rw [List.map_nil] at h1
  rw [h1, seqR_nx]
  simp

/-! ### tiles by drawn cells -/
def drw (s : D) (k m : Int) : Int := match F_law_drawn [s, .int k, .int m] with
  | .ok (_, .int r) => r
  | _ => 0
theorem drw_ok (ns : List Int) (k m : Int) (hl : ns.length ≤ 63) (hk : 0 ≤ k) (hm : 0 < m) : F_law_drawn [.list (ns.map .int), .int k, .int m] = .ok (.sh, .int (drw (.list (ns.map .int)) k m)) ∧ 0 ≤ drw (.list (ns.map .int)) k m ∧ drw (.list (ns.map .int)) k m < m := by
  obtain ⟨r, e, h1, h2⟩ := drawn_ok ns k m hl hk hm
  have : drw (.list (ns.map .int)) k m = r := by unfold drw; rw [e]
  rw [this]
  exact ⟨e, h1, h2⟩
theorem lset_ok : ∀ t : Fin 6, F_law_set [.int ((t.val : Int) + 1)] = .ok (.sh, .list ((allP (t.val + 1)).map tl)) := by
  have h : ∀ t : Fin 6, r0eq (F_law_set [.int ((t.val : Int) + 1)]) (.ok (.sh, .list ((allP (t.val + 1)).map tl))) = true := by decide +kernel
  exact fun t => of_r0 (h t)
theorem allP_len : ∀ t : Fin 6, (allP (t.val + 1)).length ≤ 28 := by decide +kernel
theorem allP_nd : ∀ t : Fin 6, (allP (t.val + 1)).Nodup := by decide +kernel
theorem allP_is : ∀ t : Fin 6, ∀ p ∈ allP (t.val + 1), 0 ≤ p.1 ∧ p.1 ≤ p.2 ∧ p.2 ≤ 6 := by decide +kernel
theorem allP_tiles (t : Fin 6) : Tiles (allP (t.val + 1)) := ⟨allP_is t, allP_nd t⟩
theorem enum_tl (ps : List (Int × Int)) : enumD (ps.map tl) = ps.zipIdx.map fun q => .tuple [.int (q.2 : Nat), tl q.1] := by
  unfold enumD
  apply List.ext_getElem
  · simp
  · intro i h1 h2
    simp at h1
    simp [h1]
def wtl (w : Int × (Int × Int)) : D := .tuple [.int w.1, tl w.2]
theorem sort_wtl (ws : List (Int × (Int × Int))) : sortF (.list (ws.map wtl)) = some (.ow, .list ((sortG (fun a b => dle (wtl a) (wtl b)) ws).map wtl)) := by
  rw [sortF, if_pos, sortD_map (fun a b => rfl)]
  refine sortOk_of (fun d hd e he => ?_) (fun d hd => ?_) fun d hd => ?_
  · obtain ⟨p, _, rfl⟩ := List.mem_map.mp hd
    obtain ⟨q, _, rfl⟩ := List.mem_map.mp he
    simp [wtl, tl, PySem.W.alike, PySem.W.alikeAll]
  · obtain ⟨p, _, rfl⟩ := List.mem_map.mp hd
    exact ⟨_, _, rfl⟩
  · obtain ⟨p, _, rfl⟩ := List.mem_map.mp hd
    exact (nice_pair ((nice_int _).up (by decide)) (nice_tl p.2)).up (by decide)
theorem order_gen (FS FD : List D → R0) (s : D) (dr : Int → Int) (at_ top : Int) (A : List (Int × Int)) (hset : FS [.int top] = .ok (.sh, .list (A.map tl))) (hd : ∀ k : Int, 0 ≤ k → FD [s, .int k, .int 1000] = .ok (.sh, .int (dr k))) (ha : 0 ≤ at_) (hln : A.length ≤ 28) :
    ∃ ps : List (Int × Int), finF 7 (sSeq (sAsg 3 (eComp [4, 5] (iEnum (eCall FS (aCons (eVar 2) aNil))) (gT 2 (gsCons (gV 4) (gsCons (gV 5) gsNil))) (eLit (.bool true)) (eTup (aCons (eCall FD (aCons (eVar 0) (aCons (eBin addF (eVar 1) (eVar 4)) (aCons (eLit (.int 1000)) aNil)))) (aCons (eVar 5) aNil)))))
      (sRet (eComp [6, 5] (iSeq (eUn sortF (eVar 3))) (gT 2 (gsCons (gV 6) (gsCons (gV 5) gsNil))) (eLit (.bool true)) (eVar 5)))) [s, .int at_, .int top] = .ok (.ow, .list (ps.map tl)) ∧ ps.Perm A := by
  let ws : List (Int × (Int × Int)) := A.zipIdx.map fun q => (dr (at_ + (q.2 : Int)), q.1)
  have e1 : eComp [4, 5] (iEnum (eCall FS (aCons (eVar 2) aNil))) (gT 2 (gsCons (gV 4) (gsCons (gV 5) gsNil))) (eLit (.bool true)) (eTup (aCons (eCall FD (aCons (eVar 0) (aCons (eBin addF (eVar 1) (eVar 4)) (aCons (eLit (.int 1000)) aNil)))) (aCons (eVar 5) aNil))) [some (false, s), some (false, .int at_), some (false, .int top), none, none, none, none]
      = .ok (.ow, .list (A.zipIdx.map fun q => wtl (dr (at_ + (q.2 : Int)), q.1))) [some (false, s), some (false, .int at_), some (false, .int top), none, none, none, none] := by
    refine eComp_each (Γ1 := [some (false, s), some (false, .int at_), some (false, .int top), none, none, none, none]) (fun q : (Int × Int) × Nat => .tuple [.int (q.2 : Nat), tl q.1]) _ (by simp [hset, enum_tl]) (by simp; omega) (by simp [wipeE, restE, keepV]) fun q hq => ⟨[some (false, s), some (false, .int at_), some (false, .int top), none, some (false, .int (q.2 : Nat)), some (false, tl q.1), none], ?_, by simp [wipeE]⟩
    simp [comp1, wipeE, addF, hd (at_ + (q.2 : Int)) (by omega), wtl]
  have e2 := sort_wtl ws
  have hws : ws.map wtl = A.zipIdx.map fun q => wtl (dr (at_ + (q.2 : Int)), q.1) := by simp [ws, Function.comp_def]
  rw [hws] at e2
  have hp : (sortG (fun a b => dle (wtl a) (wtl b)) ws).Perm ws := sortG_perm _ ws
  generalize sortG (fun a b => dle (wtl a) (wtl b)) ws = zs at *
  have hz : zs.length ≤ 28 := by rw [hp.length_eq]; simp [ws]; exact hln
  generalize (A.zipIdx.map fun q => wtl (dr (at_ + (q.2 : Int)), q.1)) = sm at *
  have e3 : eComp [6, 5] (iSeq (eUn sortF (eVar 3))) (gT 2 (gsCons (gV 6) (gsCons (gV 5) gsNil))) (eLit (.bool true)) (eVar 5) [some (false, s), some (false, .int at_), some (false, .int top), some (false, .list sm), none, none, none]
      = .ok (.ow, .list (zs.map fun w => tl w.2)) [some (false, s), some (false, .int at_), some (false, .int top), some (false, .list sm), none, none, none] := by
    refine eComp_each (Γ1 := [some (false, s), some (false, .int at_), some (false, .int top), some (false, .list sm), none, none, none]) wtl _ (by simp [e2]) (by omega) (by simp [wipeE, restE, keepV]) fun q hq => ⟨[some (false, s), some (false, .int at_), some (false, .int top), some (false, .list sm), none, some (false, tl q.2), some (false, .int q.1)], ?_, by simp [wipeE]⟩
    simp [comp1, wipeE, wtl]
  refine ⟨zs.map (·.2), ?_, ?_⟩
  · simp [finF_app, List.replicate, e1, e3, Function.comp_def]
  · have := hp.map (fun w : Int × (Int × Int) => w.2)
    refine this.trans ?_
    have : ws.map (fun w => w.2) = A := by simp [ws, Function.comp_def]
    rw [this]
theorem order_ok (ns : List Int) (hl : ns.length ≤ 63) (at_ : Int) (ha : 0 ≤ at_) (t : Fin 6) : ∃ ps : List (Int × Int), F_law_order [.list (ns.map .int), .int at_, .int ((t.val : Int) + 1)] = .ok (.ow, .list (ps.map tl)) ∧ ps.Perm (allP (t.val + 1)) :=
  order_gen F_law_set F_law_drawn (.list (ns.map .int)) (fun k => drw (.list (ns.map .int)) k 1000) at_ ((t.val : Int) + 1) (allP (t.val + 1)) (lset_ok t) (fun k hk => (drw_ok ns k 1000 hl hk (by decide)).1) ha (allP_len t)
theorem tiles_gen (FO FD : List D → R0) (s : D) (dr : Int → Int → Int) (at_ : Int) (A : List (Int × Int)) (ha : 0 ≤ at_) (hlen : A.length ≤ 28) (t0 : 0 ≤ dr at_ 6) (s0 : 0 ≤ dr (at_ + 1) 3) (s1 : dr (at_ + 1) 3 < 3) (hd0 : ∀ k m : Int, 0 ≤ k → 0 < m → FD [s, .int k, .int m] = .ok (.sh, .int (dr k m)))
    (ho : ∃ ps : List (Int × Int), FO [s, .int (at_ + 2), .int (1 + dr at_ 6)] = .ok (.ow, .list (ps.map tl)) ∧ ps.Perm A) :
    ∃ ps : List (Int × Int), finF 7 (sSeq (sAsg 2 (eBin addF (eLit (.int 1)) (eCall FD (aCons (eVar 0) (aCons (eVar 1) (aCons (eLit (.int 6)) aNil))))))
      (sSeq (sAsg 3 (eBin ixF (eLst (aCons (eLit (.int 2)) (aCons (eLit (.int 3)) (aCons (eLit (.int 8)) aNil)))) (eCall FD (aCons (eVar 0) (aCons (eBin addF (eVar 1) (eLit (.int 1))) (aCons (eLit (.int 3)) aNil))))))
      (sSeq (sAsg 4 (eCall FO (aCons (eVar 0) (aCons (eBin addF (eVar 1) (eLit (.int 2))) (aCons (eVar 2) aNil)))))
      (sRet (eComp [5, 6] (iEnum (eVar 4)) (gT 2 (gsCons (gV 5) (gsCons (gV 6) gsNil))) (eBin gtF (eCall FD (aCons (eVar 0) (aCons (eBin addF (eBin addF (eVar 1) (eLit (.int 31))) (eVar 5)) (aCons (eVar 3) aNil)))) (eLit (.int 0))) (eVar 6)))))) [s, .int at_] = .ok (.ow, .list (ps.map tl)) ∧ ∃ qs : List (Int × Int), qs.Perm A ∧ ps.Sublist qs := by
  obtain ⟨ps, ep, hp⟩ := ho
  have et := hd0 at_ 6 ha (by decide)
  have es := hd0 (at_ + 1) 3 (by omega) (by decide)
  generalize hj : dr (at_ + 1) 3 = j at *
  generalize hj : 1 + dr at_ 6 = top at *
  obtain ⟨sh, h0, hsh⟩ : ∃ sh : Int, 0 < sh ∧ atI [PyData.int 2, .int 3, .int 8] j = some (.int sh) := by
    have : j = 0 ∨ j = 1 ∨ j = 2 := by omega
    rcases this with rfl | rfl | rfl
    · exact ⟨2, by decide, rfl⟩
    · exact ⟨3, by decide, rfl⟩
    · exact ⟨8, by decide, rfl⟩
  have hlen : ps.length ≤ 28 := by rw [hp.length_eq]; exact hlen
  let pr : (Int × Int) × Nat → Bool := fun q => decide (0 < dr (at_ + 31 + (q.2 : Int)) sh)
  have e4 : eComp [5, 6] (iEnum (eVar 4)) (gT 2 (gsCons (gV 5) (gsCons (gV 6) gsNil))) (eBin gtF (eCall FD (aCons (eVar 0) (aCons (eBin addF (eBin addF (eVar 1) (eLit (.int 31))) (eVar 5)) (aCons (eVar 3) aNil)))) (eLit (.int 0))) (eVar 6) [some (false, s), some (false, .int at_), some (false, .int top), some (false, .int sh), some (false, .list (ps.map tl)), none, none]
      = .ok (.ow, .list ((ps.zipIdx.filter pr).map fun q => tl q.1)) [some (false, s), some (false, .int at_), some (false, .int top), some (false, .int sh), some (false, .list (ps.map tl)), none, none] := by
    refine eComp_some (Γ1 := [some (false, s), some (false, .int at_), some (false, .int top), some (false, .int sh), some (false, .list (ps.map tl)), none, none]) (fun q : (Int × Int) × Nat => .tuple [.int (q.2 : Nat), tl q.1]) pr _ (by simp [enum_tl]) (by simp; omega) (by simp [wipeE, restE, keepV]) fun q hq => ⟨[some (false, s), some (false, .int at_), some (false, .int top), some (false, .int sh), some (false, .list (ps.map tl)), some (false, .int (q.2 : Nat)), some (false, tl q.1)], ?_, by simp [wipeE]⟩
    by_cases hq : 0 < dr (at_ + 31 + (q.2 : Int)) sh
    · simp [comp1, wipeE, addF, hd0 (at_ + 31 + (q.2 : Int)) sh (by omega) h0, gtF, hq, pr]
    · simp [comp1, wipeE, addF, hd0 (at_ + 31 + (q.2 : Int)) sh (by omega) h0, gtF, hq, pr]
  refine ⟨(ps.zipIdx.filter pr).map (·.1), ?_, ps, hp, ?_⟩
  · simp [finF_app, List.replicate, addF, et, es, ixF, hsh, ep, e4, hj, Function.comp_def]
  · have := (List.filter_sublist (l := ps.zipIdx) (p := pr)).map (fun q : (Int × Int) × Nat => q.1)
    simpa using this
theorem tiles_ok (ns : List Int) (hl : ns.length ≤ 63) (at_ : Int) (ha : 0 ≤ at_) : ∃ ps : List (Int × Int), F_law_tiles [.list (ns.map .int), .int at_] = .ok (.ow, .list (ps.map tl)) ∧ Tiles ps := by
  obtain ⟨et, t0, t1⟩ := drw_ok ns at_ 6 hl ha (by decide)
  obtain ⟨es, s0, s1⟩ := drw_ok ns (at_ + 1) 3 hl (by omega) (by decide)
  obtain ⟨t, ht⟩ : ∃ t : Fin 6, drw (.list (ns.map .int)) at_ 6 = (t.val : Int) := ⟨⟨(drw (.list (ns.map .int)) at_ 6).toNat, by omega⟩, by simp; omega⟩
  obtain ⟨ps, ep, qs, hq, hs⟩ := tiles_gen F_law_order F_law_drawn (.list (ns.map .int)) (drw (.list (ns.map .int))) at_ (allP (t.val + 1)) ha (allP_len t) t0 s0 s1 (fun k m hk hm => (drw_ok ns k m hl hk hm).1) (by rw [ht, Int.add_comm 1]; exact order_ok ns hl (at_ + 2) (by omega) t)
  have T := allP_tiles t
  exact ⟨ps, ep, fun p hp => T.each p (hq.mem_iff.mp (hs.subset hp)), ((hq.nodup_iff).mpr T.nd).sublist hs⟩

/-! ### refusals -/
def noI (k : Nat) : Int := if k = 2 then 0 else if k = 1 then 1 else if k = 3 then 2 else 3
theorem ix1 (Γ : DL.Env) : idxR (some (.list [.bool false, .bool true, .bool false, .bool false])) (.bool true) Γ = .ok (.sh, .int 1) Γ := by kernel_rfl
theorem ix2 (Γ : DL.Env) : idxR (some (.list [.bool true, .bool false, .bool false, .bool false])) (.bool true) Γ = .ok (.sh, .int 0) Γ := by kernel_rfl
theorem ix3 (Γ : DL.Env) : idxR (some (.list [.bool false, .bool false, .bool true, .bool false])) (.bool true) Γ = .ok (.sh, .int 2) Γ := by kernel_rfl
theorem ix4 (Γ : DL.Env) : idxR (some (.list [.bool false, .bool false, .bool false, .bool true])) (.bool true) Γ = .ok (.sh, .int 3) Γ := by kernel_rfl
theorem no_gen (F0 F1 F2 F3 : List D → R0) (w : Int) (C T S : D) (k : Nat) (hk : k = 1 ∨ k = 2 ∨ k = 3 ∨ k = 4) (hw : (w = 0 ∧ F0 [C] = .exc ⟨k, []⟩) ∨ (w = 1 ∧ F1 [C] = .exc ⟨k, []⟩) ∨ (w = 2 ∧ F2 [C, T] = .exc ⟨k, []⟩) ∨ (w = 3 ∧ F3 [C, T, S] = .exc ⟨k, []⟩)) :
    finF 6 (sSeq (sTry 4 (isub 0) (sIf (eBin eqF (eVar 0) (eLit (.int 0))) (sExpr (eCall F0 (aCons (eVar 1) aNil))) (sIf (eBin eqF (eVar 0) (eLit (.int 1))) (sExpr (eCall F1 (aCons (eVar 1) aNil))) (sIf (eBin eqF (eVar 0) (eLit (.int 2))) (sExpr (eCall F2 (aCons (eVar 1) (aCons (eVar 2) aNil)))) (sExpr (eCall F3 (aCons (eVar 1) (aCons (eVar 2) (aCons (eVar 3) aNil))))))))
      (su0 fun k' => (sSeq (sAsg 5 (eLst (aCons (eLit (.bool (isub 2 k'))) (aCons (eLit (.bool (isub 1 k'))) aNil)))) (sRet (eIdx (eBin addF (eVar 5) (eLst (aCons (eLit (.bool (isub 3 k'))) (aCons (eLit (.bool (isub 4 k'))) aNil)))) (eLit (.bool true))))))) (sRet (eLit .none))) [.int w, C, T, S] = .ok (.sh, .int (noI k)) := by
  rcases hw with ⟨rfl, h⟩ | ⟨rfl, h⟩ | ⟨rfl, h⟩ | ⟨rfl, h⟩ <;> rcases hk with rfl | rfl | rfl | rfl <;>
    simp [finF_app, sTry, su0, isub, xrows, eq_int, h, List.replicate, addF, idx1, ix1, ix2, ix3, ix4, noI]

theorem law_no_ok (w : Int) (C T S : D) (k : Nat) (hk : k = 1 ∨ k = 2 ∨ k = 3 ∨ k = 4) (hw : (w = 0 ∧ F_ends [C] = .exc ⟨k, []⟩) ∨ (w = 1 ∧ F_tiles_of [C] = .exc ⟨k, []⟩) ∨ (w = 2 ∧ F_fits [C, T] = .exc ⟨k, []⟩) ∨ (w = 3 ∧ F_lay [C, T, S] = .exc ⟨k, []⟩)) : F_law_no [.int w, C, T, S] = .ok (.sh, .int (noI k)) :=
  no_gen F_ends F_tiles_of F_fits F_lay w C T S k hk hw
/-! what is refused -/
theorem hd_exc {F : List D → R0} {r : SV} {n : Nat} {x : Exn} {c : D} {ds : List D} (h : F [c] = .exc x) : finF n (sSeq (sExpr (eCall F (aCons (eVar 0) aNil))) r) (c :: ds) = .exc x := by
  simp [finF_app, startE, h]
theorem hd2_exc {F G : List D → R0} {r : SV} {n : Nat} {x : Exn} {c d v : D} {ds : List D} (h : F [c] = .ok (.sh, v)) (h' : G [d] = .exc x) : finF n (sSeq (sExpr (eCall F (aCons (eVar 0) aNil))) (sSeq (sExpr (eCall G (aCons (eVar 1) aNil))) r)) (c :: d :: ds) = .exc x := by
  simp [finF_app, startE, h, h']
theorem lay_exc1 {F : List D → R0} {r : SV} {x : Exn} {c d e : D} (h : F [c, d] = .exc x) : finF 4 (sSeq (sAsg 3 (eCall F (aCons (eVar 0) (aCons (eVar 1) aNil)))) r) [c, d, e] = .exc x := by
  simp [finF_app, List.replicate, h]
theorem lay_exc2 {F G : List D → R0} {r : SV} {x : Exn} {c d e v : D} (h : F [c, d] = .ok (.ow, v)) (h' : G [e] = .exc x) : finF 4 (sSeq (sAsg 3 (eCall F (aCons (eVar 0) (aCons (eVar 1) aNil)))) (sSeq (sExpr (eCall G (aCons (eVar 2) aNil))) r)) [c, d, e] = .exc x := by
  simp [finF_app, List.replicate, h, h']
theorem lay_exc3 {F G : List D → R0} {r : SV} {k : Nat} {c d e v w : D} (h : F [c, d] = .ok (.ow, v)) (h' : G [e] = .ok (.sh, w)) (hi : inB e v = some false) : finF 4 (sSeq (sAsg 3 (eCall F (aCons (eVar 0) (aCons (eVar 1) aNil)))) (sSeq (sExpr (eCall G (aCons (eVar 2) aNil))) (sSeq (sIf (eBin notInF (eVar 2) (eVar 3)) (sRaise k) sNx) r))) [c, d, e] = .exc ⟨k, []⟩ := by
  simp [finF_app, List.replicate, h, h', notInF, hi]
theorem raise_of {F : List D → R0} {k : Nat} {d : D} (e : F [d] = .ok (.sh, .bool false)) : finF 1 (sIf (eNot (eCall F (aCons (eVar 0) aNil))) (sRaise k) sNx) [d] = .exc ⟨k, []⟩ := by
  simp [finF_app, e]
theorem no_chain {c : D} (h : F_is_chain [c] = .ok (.sh, .bool false)) : F_need_chain [c] = .exc ⟨2, []⟩ := raise_of h
theorem no_tile {c : D} (h : F_is_tile [c] = .ok (.sh, .bool false)) : F_need_tile [c] = .exc ⟨1, []⟩ := raise_of h
theorem ends_no {c : D} (h : F_is_chain [c] = .ok (.sh, .bool false)) : F_ends [c] = .exc ⟨2, []⟩ := hd_exc (no_chain h)
theorem tiles_of_no {c : D} (h : F_is_chain [c] = .ok (.sh, .bool false)) : F_tiles_of [c] = .exc ⟨2, []⟩ := hd_exc (no_chain h)
theorem fits_no {c t : D} (h : F_is_chain [c] = .ok (.sh, .bool false)) : F_fits [c, t] = .exc ⟨2, []⟩ := hd_exc (no_chain h)
theorem lay_no {c t e : D} (h : F_is_chain [c] = .ok (.sh, .bool false)) : F_lay [c, t, e] = .exc ⟨2, []⟩ := lay_exc1 (fits_no h)
theorem fits_noT {cs : List (Int × Int)} {t : D} (g : Good cs) (h : F_is_tile [t] = .ok (.sh, .bool false)) : F_fits [.list (cs.map tl), t] = .exc ⟨1, []⟩ := hd2_exc (need_chain_ok g) (no_tile h)
theorem lay_noT {cs : List (Int × Int)} {t e : D} (g : Good cs) (h : F_is_tile [t] = .ok (.sh, .bool false)) : F_lay [.list (cs.map tl), t, e] = .exc ⟨1, []⟩ := lay_exc1 (fits_noT g h)
theorem lay_noS {cs : List (Int × Int)} {p : Int × Int} {e : D} (g : Good cs) (hp : IsT p) (h : F_need_side [e] = .exc ⟨3, []⟩) : F_lay [.list (cs.map tl), tl p, e] = .exc ⟨3, []⟩ := lay_exc2 (fits_ok g hp) h
theorem lay_noF {cs : List (Int × Int)} {p : Int × Int} {b : Bool} (g : Good cs) (hp : IsT p) (h : b ∉ fitL cs p) : F_lay [.list (cs.map tl), tl p, sdD b] = .exc ⟨4, []⟩ :=
  lay_exc3 (fits_ok g hp) (need_side_ok b) (by rw [in_sides, decide_eq_false h])
/-! ### the law -/
abbrev Ev (s : D) (C : List D) (k a b t d x n nt nd : Option (Bool × D)) : DL.Env := [some (false, s), some (false, .list C), some (false, .list C), none, k, a, b, t, d, x, n, nt, nd, none]
theorem s12_gen (FC FT : List D → R0) (s : D) (P C : List D) (h1 : FT [s, .int 0] = .ok (.ow, .list P)) (h2 : FC [s, .int 70, .list P] = .ok (.sh, .list C)) (hl : C.length ≤ 1000000) :
    sSeq (sAsg 1 (eCall FC (aCons (eVar 0) (aCons (eLit (.int 70)) (aCons (eCall FT (aCons (eVar 0) (aCons (eLit (.int 0)) aNil))) aNil))))) (sAsg 2 (eUn listF (eVar 1))) (startE 14 [s]) = .ok .nx (Ev s C none none none none none none none none none) := by
  simp [h1, h2, List.replicate, listF, hl]
theorem s3_gen (FE : List D → R0) (s : D) (cs : List (Int × Int)) (k a b t d x n nt nd : Option (Bool × D)) (u : SV) (h : FE [.list (cs.map tl)] = .ok (.sh, if cs = [] then .none else tl (hdC cs, lsC cs))) :
    sIf (eBin neF (eCall FE (aCons (eVar 1) aNil)) (eIf (eBin neF (eVar 1) (eLst aNil)) (eTup (aCons (eBin ixF (eBin ixF (eVar 1) (eLit (.int 0))) (eLit (.int 0))) (aCons (eBin ixF (eBin ixF (eVar 1) (eUn negF (eLit (.int 1)))) (eLit (.int 1))) aNil))) (eLit .none))) u sNx (Ev s (cs.map tl) k a b t d x n nt nd) = .ok .nx (Ev s (cs.map tl) k a b t d x n nt nd) := by
  have e3 := ne_nils (nice_tls cs) (by decide)
  by_cases h2 : cs = []
  · subst h2
    simp only [List.map_nil, List.isEmpty_nil, if_true] at e3 h
    simp [h, e3, ne_self nice_none]
  · rw [isE_ne h2] at e3
    rw [if_neg h2] at h
    have x0 : ixF (tl (cs.headD (0, 0))) (.int 0) = some (.sh, .int (hdC cs)) := rfl
    have x1 : ixF (tl (cs.getLastD (0, 0))) (.int 1) = some (.sh, .int (lsC cs)) := rfl
    have y0 : ixF (.list (cs.map tl)) (.int 0) = some (.sh, tl (cs.headD (0, 0))) := by simp [ixF, at_hd h2]
    have y1 : ixF (.list (cs.map tl)) (.int (-1)) = some (.sh, tl (cs.getLastD (0, 0))) := by simp [ixF, at_ls h2]
    have nn := ne_self (nice_tl (hdC cs, lsC cs))
    rw [show tl (hdC cs, lsC cs) = .tuple [.int (hdC cs), .int (lsC cs)] from rfl] at h nn
    generalize tl (cs.headD (0, 0)) = H at *
    generalize tl (cs.getLastD (0, 0)) = L at *
    generalize cs.map tl = C at *
    simp [h, e3, y0, y1, x0, x1, negF, nn]
theorem s4_gen (FT : List D → R0) (s : D) (cs : List (Int × Int)) (hl : cs.length ≤ 28) (k a b t d x n nt nd : Option (Bool × D)) (u : SV) (h : FT [.list (cs.map tl)] = .ok (.ow, .list ((sortG ple (cs.map tof)).map tl))) :
    sIf (eBin neF (eCall FT (aCons (eVar 1) aNil)) (eUn sortF (eComp [3] (iSeq (eVar 1)) (gV 3) (eLit (.bool true)) (eTup (aCons (eUn minF (eVar 3)) (aCons (eUn maxF (eVar 3)) aNil)))))) u sNx (Ev s (cs.map tl) k a b t d x n nt nd) = .ok .nx (Ev s (cs.map tl) k a b t d x n nt nd) := by
  have e1 := map_tof cs (Ev s (cs.map tl) k a b t d x n nt nd) 3 1 (by omega) (by simp) (by simp [wipeE, restE, keepV]) (fun d => by simp [wipeE]) fun d => by simp [wipeE]
  have e2 := sort_tl (cs.map tof)
  have nn := ne_self (nice_tls (sortG ple (cs.map tof)))
  generalize (sortG ple (cs.map tof)).map tl = S2 at *
  generalize (cs.map tof).map tl = S at *
  generalize cs.map tl = C at *
  simp [h, e1, e2, nn]
theorem b1_gen (FD : List D → R0) (s : D) (dr : Int → Int → Int) (hd : ∀ k m : Int, 0 ≤ k → 0 < m → FD [s, .int k, .int m] = .ok (.sh, .int (dr k m)) ∧ 0 ≤ dr k m ∧ dr k m < m) (C : List D) (k : Int) (hk : 0 ≤ k) (a b t d x n nt nd : Option (Bool × D)) : ∃ p : Int × Int, IsT p ∧ ∃ i j : Int,
    sSeq (sPar 5 6 (aCons (eCall FD (aCons (eVar 0) (aCons (eBin addF (eLit (.int 100)) (eBin mulF (eLit (.int 2)) (eVar 4))) (aCons (eLit (.int 7)) aNil)))) (aCons (eCall FD (aCons (eVar 0) (aCons (eBin addF (eLit (.int 101)) (eBin mulF (eLit (.int 2)) (eVar 4))) (aCons (eLit (.int 7)) aNil)))) aNil)))
      (sAsg 7 (eTup (aCons (eBin min2F (eVar 5) (eVar 6)) (aCons (eBin max2F (eVar 5) (eVar 6)) aNil)))) (Ev s C (some (false, .int k)) a b t d x n nt nd) =
    .ok .nx (Ev s C (some (false, .int k)) (some (false, .int i)) (some (false, .int j)) (some (false, tl p)) d x n nt nd) := by
  obtain ⟨h1, h2, h3⟩ := hd (100 + 2 * k) 7 (by omega) (by decide)
  obtain ⟨h4, h5, h6⟩ := hd (101 + 2 * k) 7 (by omega) (by decide)
  generalize dr (100 + 2 * k) 7 = i at *
  generalize dr (101 + 2 * k) 7 = j at *
  refine ⟨(min i j, max i j), ⟨by simp only; omega, by simp only; omega, by simp only; omega⟩, i, j, ?_⟩
  have m1 : (if j < i then j else i) = min i j := by omega
  have m2 : (if i < j then j else i) = max i j := by omega
  simp [h1, h4, mulF, addF, min2F, max2F, tl, m1, m2]
theorem b34_gen (FL FF : List D → R0) (s : D) (C : List D) (T : D) (S : List Bool) (h1 : FL [.list C, T] = .ok (.ow, .list (S.map sdD))) (h2 : FF [.list C, T] = .ok (.ow, .list (S.map sdD))) (k a b d x n nt nd : Option (Bool × D)) (u : SV) :
    sSeq (sAsg 8 (eCall FL (aCons (eVar 1) (aCons (eVar 7) aNil)))) (sIf (eBin neF (eCall FF (aCons (eVar 1) (aCons (eVar 7) aNil))) (eVar 8)) u sNx) (Ev s C k a b (some (false, T)) d x n nt nd) = .ok .nx (Ev s C k a b (some (false, T)) (some (false, .list (S.map sdD))) x n nt nd) := by
  have nn := ne_self (nice_map (n := 0) (enc := sdD) (xs := S) fun b _ => nice_sd b)
  generalize S.map sdD = B at *
  simp [h1, h2, nn]
theorem b5_gen (FL FW FN : List D → R0) (s : D) (C : List D) (T : D) (S : List Bool) (y : Bool) (N : List (Int × Int)) (h1 : y ∈ S → FL [.list C, T, sdD y] = .ok (.ow, .list (N.map tl)) ∧ FW [.list C, T, sdD y] = .ok (.ow, .list (N.map tl))) (h2 : y ∉ S → FN [.int 3, .list C, T, sdD y] = .ok (.sh, .int 3)) (k a b n nt nd : Option (Bool × D)) (u u' : SV) :
    sSeq (sIf (eAnd (eBin inF (eVar 9) (eVar 8)) (eBin neF (eCall FL (aCons (eVar 1) (aCons (eVar 7) (aCons (eVar 9) aNil)))) (eCall FW (aCons (eVar 1) (aCons (eVar 7) (aCons (eVar 9) aNil)))))) u sNx)
      (sIf (eAnd (eBin notInF (eVar 9) (eVar 8)) (eBin neF (eCall FN (aCons (eLit (.int 3)) (aCons (eVar 1) (aCons (eVar 7) (aCons (eVar 9) aNil))))) (eLit (.int 3)))) u' sNx) (Ev s C k a b (some (false, T)) (some (false, .list (S.map sdD))) (some (false, sdD y)) n nt nd) = .ok .nx (Ev s C k a b (some (false, T)) (some (false, .list (S.map sdD))) (some (false, sdD y)) n nt nd) := by
  have e := in_sides y S
  have nn := ne_self (nice_tls N)
  by_cases q : y ∈ S
  · obtain ⟨h3, h4⟩ := h1 q
    rw [decide_eq_true q] at e
    generalize S.map sdD = B at *
    generalize sdD y = Y at *
    generalize N.map tl = NN at *
    simp [inF, notInF, e, h3, h4, nn]
  · have h3 := h2 q
    rw [decide_eq_false q] at e
    generalize S.map sdD = B at *
    generalize sdD y = Y at *
    simp [inF, notInF, e, h3, ne_int]
theorem b67_gen (FL : List D → R0) (s : D) (cs : List (Int × Int)) (T : D) (S : List Bool) (N : List (Int × Int)) (h1 : false ∈ S → FL [.list (cs.map tl), T, .str "right"] = .ok (.ow, .list (N.map tl))) (k a b x n nt nd : Option (Bool × D)) (u u' : SV) :
    sSeq (sIf (eAnd (eBin inF (eLit (.str "right")) (eVar 8)) (eBin neF (eCall (fun ds => FL (ds ++ [(.str "right")])) (aCons (eVar 1) (aCons (eVar 7) aNil))) (eCall FL (aApp (aCons (eVar 1) (aCons (eVar 7) aNil)) (aCons (eLit (.str "right")) aNil))))) u sNx) (sIf (eBin neF (eVar 1) (eVar 2)) u' sNx)
      (Ev s (cs.map tl) k a b (some (false, T)) (some (false, .list (S.map sdD))) x n nt nd) = .ok .nx (Ev s (cs.map tl) k a b (some (false, T)) (some (false, .list (S.map sdD))) x n nt nd) := by
  have e := in_sides false S
  rw [show sdD false = .str "right" from rfl] at e
  have nn := ne_self (nice_tls N)
  have n2 := ne_self (nice_tls cs)
  by_cases q : false ∈ S
  · have h3 := h1 q
    rw [decide_eq_true q] at e
    generalize S.map sdD = B at *
    generalize N.map tl = NN at *
    generalize cs.map tl = C at *
    simp [inF, e, h3, nn, aApp, n2]
  · rw [decide_eq_false q] at e
    generalize S.map sdD = B at *
    generalize cs.map tl = C at *
    simp [inF, e, n2]
theorem seq_assoc (a b r : SV) : sSeq a (sSeq b r) = sSeq (sSeq a b) r := funext fun Γ => by
  rw [sSeq_app, sSeq_app, sSeq_app]
  cases ea : a Γ with
  | ok f Γ1 => cases f <;> rfl
  | exc x Γ1 => rfl
  | bad => rfl
theorem key2 (a b r : SV) (Γ Γ' : DL.Env) (e : sSeq a b Γ = .ok .nx Γ') : sSeq a (sSeq b r) Γ = r Γ' := by
  rw [seq_assoc, sSeq_app, e, seqR_nx]
theorem key1 (a r : SV) (Γ Γ' : DL.Env) (e : a Γ = .ok .nx Γ') : sSeq a r Γ = r Γ' := by
  rw [sSeq_app, e, seqR_nx]
theorem turn_ok (s : D) (dr : Int → Int → Int) (hd : ∀ k m : Int, 0 ≤ k → 0 < m → F_law_drawn [s, .int k, .int m] = .ok (.sh, .int (dr k m)) ∧ 0 ≤ dr k m ∧ dr k m < m) {cs : List (Int × Int)} (g : Good cs) (k : Int) (hk : 0 ≤ k) (a b t d x : Option (Bool × D)) :
    ∃ a' b' t' d' x', g_law_5_b (Ev s (cs.map tl) (some (false, .int k)) a b t d x none none none) = .ok .nx (Ev s (cs.map tl) (some (false, .int k)) a' b' t' d' x' none none none) := by
  obtain ⟨p, hp, i, j, q1⟩ := b1_gen F_law_drawn s dr hd (cs.map tl) k hk a b t d x none none none
  have q1 : sSeq g_law_5_b1 g_law_5_b2 _ = _ := q1
  have q2 : sSeq g_law_5_b3 g_law_5_b4 _ = _ := b34_gen F_law_fits F_fits s (cs.map tl) (tl p) (fitL cs p) (law_fits_ok cs p g.len) (fits_ok g hp) (some (false, .int k)) (some (false, .int i)) (some (false, .int j)) d x none none none g_law_5_b4_t1
  have side : ∀ y : Bool, g_law_5_b5_b (Ev s (cs.map tl) (some (false, .int k)) (some (false, .int i)) (some (false, .int j)) (some (false, tl p)) (some (false, .list ((fitL cs p).map sdD))) (some (false, sdD y)) none none none) = .ok .nx (Ev s (cs.map tl) (some (false, .int k)) (some (false, .int i)) (some (false, .int j)) (some (false, tl p)) (some (false, .list ((fitL cs p).map sdD))) (some (false, sdD y)) none none none) := fun y =>
    b5_gen F_lay F_law_laid F_law_no s (cs.map tl) (tl p) (fitL cs p) y (layL cs p y) (fun h => ⟨lay_ok g hp h, law_laid_ok cs p y g.len⟩) (fun h => law_no_ok 3 _ _ _ 4 (by simp) (.inr (.inr (.inr ⟨rfl, lay_noF g hp h⟩)))) _ _ _ _ _ _ _ _
  have q3 : g_law_5_b5 (Ev s (cs.map tl) (some (false, .int k)) (some (false, .int i)) (some (false, .int j)) (some (false, tl p)) (some (false, .list ((fitL cs p).map sdD))) x none none none) = .ok .nx (Ev s (cs.map tl) (some (false, .int k)) (some (false, .int i)) (some (false, .int j)) (some (false, tl p)) (some (false, .list ((fitL cs p).map sdD))) (some (false, sdD false)) none none none) := by
    have s1 := side true
    have s2 := side false
    unfold g_law_5_b5
    rw [sFor_app, show iSeq (eTup (aCons (eLit (.str "left")) (aCons (eLit (.str "right")) aNil))) (Ev s (cs.map tl) (some (false, .int k)) (some (false, .int i)) (some (false, .int j)) (some (false, tl p)) (some (false, .list ((fitL cs p).map sdD))) x none none none) = .ok [sdD true, sdD false] (Ev s (cs.map tl) (some (false, .int k)) (some (false, .int i)) (some (false, .int j)) (some (false, tl p)) (some (false, .list ((fitL cs p).map sdD))) x none none none) by simp [sdD, LR]]
    generalize g_law_5_b5_b = B at *
    generalize (fitL cs p).map sdD = SS at *
    generalize tl p = P at *
    generalize cs.map tl = C at *
    generalize sdD true = S1 at *
    generalize sdD false = S2 at *
    simp [forGo, s1, s2]
  have q4 : sSeq g_law_5_b6 g_law_5_b7 _ = _ := b67_gen F_lay s cs (tl p) (fitL cs p) (layL cs p false) (fun h => lay_ok g hp h) (some (false, .int k)) (some (false, .int i)) (some (false, .int j)) (some (false, sdD false)) none none none g_law_5_b6_t1 g_law_5_b7_t1
  refine ⟨some (false, .int i), some (false, .int j), some (false, tl p), some (false, .list ((fitL cs p).map sdD)), some (false, sdD false), ?_⟩
  unfold g_law_5_b
  rw [key2 _ _ _ _ _ q1, key2 _ _ _ _ _ q2, key1 _ _ _ _ q3, q4]
theorem loop_ok (s : D) (dr : Int → Int → Int) (hd : ∀ k m : Int, 0 ≤ k → 0 < m → F_law_drawn [s, .int k, .int m] = .ok (.sh, .int (dr k m)) ∧ 0 ≤ dr k m ∧ dr k m < m) {cs : List (Int × Int)} (g : Good cs) : ∀ (xs : List Nat) (k a b t d x : Option (Bool × D)), ∃ k' a' b' t' d' x',
    forGo (gV 4) g_law_5_b (xs.map fun i => .int (i : Nat)) (Ev s (cs.map tl) k a b t d x none none none) = .ok .nx (Ev s (cs.map tl) k' a' b' t' d' x' none none none)
  | [], k, a, b, t, d, x => ⟨k, a, b, t, d, x, rfl⟩
  | i :: xs, k, a, b, t, d, x => by
    obtain ⟨a1, b1, t1, d1, x1, h1⟩ := turn_ok s dr hd g (i : Nat) (by omega) a b t d x
    obtain ⟨k2, a2, b2, t2, d2, x2, h2⟩ := loop_ok s dr hd g xs (some (false, .int (i : Nat))) a1 b1 t1 d1 x1
    refine ⟨k2, a2, b2, t2, d2, x2, ?_⟩
    rw [List.map_cons]
    unfold forGo
    have hs : gV 4 (.int (i : Nat)) (Ev s (cs.map tl) k a b t d x none none none) = .ok () (Ev s (cs.map tl) (some (false, .int (i : Nat))) a b t d x none none none) := rfl
    rw [hs]
    simp only [h1]
    exact h2

theorem pick {s : D} {FD : List D → R0} {dr : Int → Int → Int} (hd : ∀ k m : Int, 0 ≤ k → 0 < m → FD [s, .int k, .int m] = .ok (.sh, .int (dr k m)) ∧ 0 ≤ dr k m ∧ dr k m < m) (xs : List D) (k m : Int) (hk : 0 ≤ k) (hm : 0 < m) (hl : (xs.length : Int) = m) : ∃ x ∈ xs, ∃ j, FD [s, .int k, .int m] = .ok (.sh, .int j) ∧ ixF (.list xs) (.int j) = some (.sh, x) := by
  obtain ⟨h1, h2, h3⟩ := hd k m hk hm
  generalize dr k m = j at *
  obtain ⟨n, rfl⟩ : ∃ n : Nat, j = (n : Int) := ⟨j.toNat, by omega⟩
  have hn : n < xs.length := by omega
  exact ⟨xs[n], List.getElem_mem _, n, h1, by simp [ixF, atI_nat (show xs[n]? = some xs[n] by simp [hn])]⟩
def nones (C : List D) : List D := [.none, .tuple C, .list [.tuple [.int 1, .int 7]], .list [.tuple [.int 1, .int 2], .tuple [.int 3, .int 4]]]
def noTs : List D := [.none, .tuple [.int 4, .int 3], .list [.int 1, .int 2], .tuple [.int 1, .int 7], .str "12"]
def noSs : List D := [.none, .str "Left", .int 0, .tuple [.str "left"], .str ""]
theorem s678_gen (FD : List D → R0) (s : D) (dr : Int → Int → Int) (hd : ∀ k m : Int, 0 ≤ k → 0 < m → FD [s, .int k, .int m] = .ok (.sh, .int (dr k m)) ∧ 0 ≤ dr k m ∧ dr k m < m) (C : List D) (hl : C.length ≤ 1000000) (k a b t d x : Option (Bool × D)) : ∃ n ∈ nones C, ∃ nt ∈ noTs, ∃ nd ∈ noSs,
    sSeq (sAsg 10 (eBin ixF (eLst (aCons (eLit .none) (aCons (eUn tupleF (eVar 1)) (aCons (eLst (aCons (eTup (aCons (eLit (.int 1)) (aCons (eLit (.int 7)) aNil))) aNil)) (aCons (eLst (aCons (eTup (aCons (eLit (.int 1)) (aCons (eLit (.int 2)) aNil))) (aCons (eTup (aCons (eLit (.int 3)) (aCons (eLit (.int 4)) aNil))) aNil))) aNil))))) (eCall FD (aCons (eVar 0) (aCons (eLit (.int 110)) (aCons (eLit (.int 4)) aNil))))))
      (sSeq (sAsg 11 (eBin ixF (eLst (aCons (eLit .none) (aCons (eTup (aCons (eLit (.int 4)) (aCons (eLit (.int 3)) aNil))) (aCons (eLst (aCons (eLit (.int 1)) (aCons (eLit (.int 2)) aNil))) (aCons (eTup (aCons (eLit (.int 1)) (aCons (eLit (.int 7)) aNil))) (aCons (eLit (.str "12")) aNil)))))) (eCall FD (aCons (eVar 0) (aCons (eLit (.int 111)) (aCons (eLit (.int 5)) aNil))))))
      (sAsg 12 (eBin ixF (eLst (aCons (eLit .none) (aCons (eLit (.str "Left")) (aCons (eLit (.int 0)) (aCons (eTup (aCons (eLit (.str "left")) aNil)) (aCons (eLit (.str "")) aNil)))))) (eCall FD (aCons (eVar 0) (aCons (eLit (.int 112)) (aCons (eLit (.int 5)) aNil))))))) (Ev s C k a b t d x none none none) =
    .ok .nx (Ev s C k a b t d x (some (false, n)) (some (false, nt)) (some (false, nd))) := by
  obtain ⟨n, m1, j1, h1, i1⟩ := pick hd (nones C) 110 4 (by decide) (by decide) rfl
  obtain ⟨nt, m2, j2, h2, i2⟩ := pick hd noTs 111 5 (by decide) (by decide) rfl
  obtain ⟨nd, m3, j3, h3, i3⟩ := pick hd noSs 112 5 (by decide) (by decide) rfl
  refine ⟨n, m1, nt, m2, nd, m3, ?_⟩
  unfold nones at i1
  unfold noTs at i2
  unfold noSs at i3
  simp [h1, h2, h3, i1, i2, i3, tupleF, hl]
theorem none_no (C : List D) : ∀ n ∈ nones C, F_is_chain [n] = .ok (.sh, .bool false) := by
  intro n hn
  simp only [nones, List.mem_cons, List.not_mem_nil, or_false] at hn
  rcases hn with rfl | rfl | rfl | rfl
  · exact of_r0 (by decide +kernel)
  · simp [F_is_chain, g_is_chain, g_is_chain_1, g_is_chain_1_t1, finF_app, List.replicate, isiF, isiB, tyName]
  · exact of_r0 (by decide +kernel)
  · exact of_r0 (by decide +kernel)
theorem noT_no : ∀ n ∈ noTs, F_is_tile [n] = .ok (.sh, .bool false) := by
  intro n hn
  simp only [noTs, List.mem_cons, List.not_mem_nil, or_false] at hn
  rcases hn with rfl | rfl | rfl | rfl | rfl <;> exact of_r0 (by decide +kernel)
theorem noS_no : ∀ n ∈ noSs, F_need_side [n] = .exc ⟨3, []⟩ := by
  intro n hn
  simp only [noSs, List.mem_cons, List.not_mem_nil, or_false] at hn
  rcases hn with rfl | rfl | rfl | rfl | rfl <;> exact of_r0 (by decide +kernel)
theorem s9_gen (FN : List D → R0) (s : D) (C : List D) (n nt nd : D) (k a b t d x : Option (Bool × D)) (u : SV) (h : ∀ w : Nat, w < 4 → FN [.int w, n, nt, nd] = .ok (.sh, .int 0)) :
    sIf (eBin neF (eComp [13] (iRng1 (aCons (eLit (.int 4)) aNil)) (gV 13) (eLit (.bool true)) (eCall FN (aCons (eVar 13) (aCons (eVar 10) (aCons (eVar 11) (aCons (eVar 12) aNil)))))) (eBin mulF (eLst (aCons (eLit (.int 0)) aNil)) (eLit (.int 4)))) u sNx (Ev s C k a b t d x (some (false, n)) (some (false, nt)) (some (false, nd))) = .ok .nx (Ev s C k a b t d x (some (false, n)) (some (false, nt)) (some (false, nd))) := by
  have e1 : eComp [13] (iRng1 (aCons (eLit (.int 4)) aNil)) (gV 13) (eLit (.bool true)) (eCall FN (aCons (eVar 13) (aCons (eVar 10) (aCons (eVar 11) (aCons (eVar 12) aNil))))) (Ev s C k a b t d x (some (false, n)) (some (false, nt)) (some (false, nd))) = .ok (.ow, .list ((List.range 4).map fun _ => .int 0)) (Ev s C k a b t d x (some (false, n)) (some (false, nt)) (some (false, nd))) :=
    eComp_each (Γ1 := Ev s C k a b t d x (some (false, n)) (some (false, nt)) (some (false, nd))) (xs := List.range 4) (fun i => .int (i : Nat)) (fun _ => .int 0) (by simp; rfl) (by decide) (by simp [wipeE, restE, keepV]) fun w hw => ⟨_, by
      have hw' := h w (by simpa using hw)
      simp [comp1, wipeE, hw']; rfl, by simp [wipeE]⟩
  have nn : neF (.list ((List.range 4).map fun _ => .int 0)) (.list [.int 0, .int 0, .int 0, .int 0]) = some (.sh, .bool false) := by kernel_rfl
  generalize (List.range 4).map (fun _ => PyData.int 0) = Z at *
  simp [e1, mulF, List.replicate, nn]
theorem s10_gen (FN : List D → R0) (s : D) (C : List D) (n nt nd : D) (k a b t d x : Option (Bool × D)) (u u' : SV) (h1 : FN [.int 2, .list C, nt, .none] = .ok (.sh, .int 1)) (h2 : FN [.int 3, .list C, nt, nd] = .ok (.sh, .int 1)) (h3 : FN [.int 3, .list C, .tuple [.int 0, .int 0], nd] = .ok (.sh, .int 2)) :
    sSeq (sIf (eBin neF (eLst (aCons (eCall FN (aCons (eLit (.int 2)) (aCons (eVar 1) (aCons (eVar 11) (aCons (eLit .none) aNil))))) (aCons (eCall FN (aCons (eLit (.int 3)) (aCons (eVar 1) (aCons (eVar 11) (aCons (eVar 12) aNil))))) aNil))) (eLst (aCons (eLit (.int 1)) (aCons (eLit (.int 1)) aNil)))) u sNx)
      (sIf (eBin neF (eCall FN (aCons (eLit (.int 3)) (aCons (eVar 1) (aCons (eTup (aCons (eLit (.int 0)) (aCons (eLit (.int 0)) aNil))) (aCons (eVar 12) aNil))))) (eLit (.int 2))) u' sNx) (Ev s C k a b t d x (some (false, n)) (some (false, nt)) (some (false, nd))) = .ok .nx (Ev s C k a b t d x (some (false, n)) (some (false, nt)) (some (false, nd))) := by
  have nn : neF (.list [.int 1, .int 1]) (.list [.int 1, .int 1]) = some (.sh, .bool false) := by kernel_rfl
  simp [h1, h2, h3, nn, ne_int]
theorem s12_gen' (FL : List D → R0) (Γ : DL.Env) (u : SV) (h1 : FL [.list [], .tuple [.int 2, .int 5], .str "left"] = .ok (.ow, .list [.tuple [.int 2, .int 5]])) (h2 : FL [.list [.tuple [.int 5, .int 3]], .tuple [.int 2, .int 5], .str "left"] = .ok (.ow, .list [.tuple [.int 2, .int 5], .tuple [.int 5, .int 3]])) :
    sSeq (sIf (eBin neF (eCall FL (aCons (eLst aNil) (aCons (eTup (aCons (eLit (.int 2)) (aCons (eLit (.int 5)) aNil))) (aCons (eLit (.str "left")) aNil)))) (eLst (aCons (eTup (aCons (eLit (.int 2)) (aCons (eLit (.int 5)) aNil))) aNil))) u sNx)
      (sRet (eBin eqF (eCall FL (aApp (aCons (eLst (aCons (eTup (aCons (eLit (.int 5)) (aCons (eLit (.int 3)) aNil))) aNil)) (aCons (eTup (aCons (eLit (.int 2)) (aCons (eLit (.int 5)) aNil))) aNil)) (aCons (eLit (.str "left")) aNil))) (eLst (aCons (eTup (aCons (eLit (.int 2)) (aCons (eLit (.int 5)) aNil))) (aCons (eTup (aCons (eLit (.int 5)) (aCons (eLit (.int 3)) aNil))) aNil))))) Γ = .ok (.rt (.sh, .bool true)) Γ := by
  have n1 : neF (.list [.tuple [.int 2, .int 5]]) (.list [.tuple [.int 2, .int 5]]) = some (.sh, .bool false) := by kernel_rfl
  have n2 : eqF (.list [.tuple [.int 2, .int 5], .tuple [.int 5, .int 3]]) (.list [.tuple [.int 2, .int 5], .tuple [.int 5, .int 3]]) = some (.sh, .bool true) := by kernel_rfl
  simp [h1, h2, n1, n2, aApp]
theorem law_true (ns : List Int) (h : ns.length ≤ 63) : ∃ fg, F_law [.list (ns.map .int)] = .ok (fg, .bool true) ∧ (fg ≠ .ow ∧ True) := by
  refine ⟨.sh, ?_, by simp, trivial⟩
  obtain ⟨ps, ep, T⟩ := tiles_ok ns h 0 (by omega)
  have hd := fun k m a b => drw_ok ns k m h a b
  generalize drw (.list (ns.map .int)) = dr at *
  generalize PyData.list (ns.map .int) = s at *
  obtain ⟨cs, ec, g⟩ := chain_gen F_law_fits F_law_laid F_law_drawn s 70 dr hd (by decide) law_fits_ok law_laid_ok ps T
  have ec : F_law_chain [s, .int 70, .list (ps.map tl)] = .ok (.sh, .list (cs.map tl)) := ec
  have hl := g.len
  have q12 : sSeq g_law_1 g_law_2 (startE 14 [s]) = _ := s12_gen F_law_chain F_law_tiles s (ps.map tl) (cs.map tl) ep ec (by simp; omega)
  have q3 : g_law_3 _ = _ := s3_gen F_ends s cs none none none none none none none none none g_law_3_t1 (ends_ok g)
  have q4 : g_law_4 _ = _ := s4_gen F_tiles_of s cs hl none none none none none none none none none g_law_4_t1 (tiles_of_ok g)
  obtain ⟨k, a, b, t, d, x, e5⟩ := loop_ok s dr hd g (List.range 5) none none none none none none
  have q5 : g_law_5 (Ev s (cs.map tl) none none none none none none none none none) = .ok .nx (Ev s (cs.map tl) k a b t d x none none none) := by
    unfold g_law_5
    rw [sFor_app, show iRng1 (aCons (eLit (.int 5)) aNil) (Ev s (cs.map tl) none none none none none none none none none) = .ok ((List.range 5).map fun i => .int (i : Nat)) (Ev s (cs.map tl) none none none none none none none none none) by simp; rfl]
    exact e5
  obtain ⟨n, m1, nt, m2, nd, m3, q678⟩ := s678_gen F_law_drawn s dr hd (cs.map tl) (by simp; omega) k a b t d x
  have q678 : sSeq g_law_6 (sSeq g_law_7 g_law_8) _ = _ := q678
  have c0 := none_no _ n m1
  have t0 := noT_no nt m2
  have d0 := noS_no nd m3
  have q9 : g_law_9 _ = _ := s9_gen F_law_no s (cs.map tl) n nt nd k a b t d x g_law_9_t1 (fun w hw => by
    refine law_no_ok w n nt nd 2 (by simp) ?_
    match w, hw with
    | 0, _ => exact .inl ⟨rfl, ends_no c0⟩
    | 1, _ => exact .inr (.inl ⟨rfl, tiles_of_no c0⟩)
    | 2, _ => exact .inr (.inr (.inl ⟨rfl, fits_no c0⟩))
    | 3, _ => exact .inr (.inr (.inr ⟨rfl, lay_no c0⟩)))
  have q10 : sSeq g_law_10 g_law_11 _ = _ := s10_gen F_law_no s (cs.map tl) n nt nd k a b t d x g_law_10_t1 g_law_11_t1 (law_no_ok 2 _ _ _ 1 (by simp) (.inr (.inr (.inl ⟨rfl, fits_noT g t0⟩)))) (law_no_ok 3 _ _ _ 1 (by simp) (.inr (.inr (.inr ⟨rfl, lay_noT g t0⟩))))
    (law_no_ok 3 _ _ _ 3 (by simp) (.inr (.inr (.inr ⟨rfl, lay_noS (p := (0, 0)) g ⟨by decide, by decide, by decide⟩ d0⟩))))
  have q12' : sSeq g_law_12 g_law_13 _ = _ := s12_gen' F_lay (Ev s (cs.map tl) k a b t d x (some (false, n)) (some (false, nt)) (some (false, nd))) g_law_12_t1 (of_r0 (by decide +kernel)) (of_r0 (by decide +kernel))
  unfold F_law
  rw [finF_app]
  unfold g_law
  rw [key2 _ _ _ _ _ q12, key1 _ _ _ _ q3, key1 _ _ _ _ q4, key1 _ _ _ _ q5, seq_assoc g_law_7, key2 _ _ _ _ _ q678, key1 _ _ _ _ q9, key2 _ _ _ _ _ q10, q12']
  rfl

def spLaw (K : PySem.W.Frag) : Sp := fun vs H Q _ => ∃ (a : Addr) (ns : List Int), vs = [.ref a] ∧ SqL K H a (ns.map V.int) ∧ Only H ∧ ns.length ≤ 63 ∧ ∀ H', Q (.bl true) H'
theorem rp_ints {k : Kc} {H : Hp} : ∀ ns : List Int, RpAll k H (ns.map V.int) (ns.map PyData.int)
  | [] => .nil
  | n :: r => .cons (.int n) (rp_ints r)
theorem law_sp {K : PySem.W.Frag} {cA : Nat → Addr} {vs : List V} {H : Hp} {Q : VK} {E : XK} (h : spLaw K vs H Q E) : spV ⟨K, cA⟩ 1 F_law vs H Q E := by
  obtain ⟨a, ns, rfl, hS, _, hl, k⟩ := h
  refine ⟨rfl, fun _ => False, [.list (ns.map .int)], fun _ z => z.elim, .cons (.lst (xs := ns.map V.int) ?_ (rp_ints ns)) .nil, ?_⟩
  · have e : hid (fun _ => False) H = H := by funext b; unfold hid; rw [if_neg (fun z => z)]
    rw [e]; exact hS
  · obtain ⟨fg, hF, hb⟩ := law_true ns hl
    rw [hF]
    intro v H' M' f dm rs
    cases fg with
    | sh =>
      have r : Rp ⟨K, cA⟩ (hid M' H') v (.bool true) := rs
      cases r
      exact k H'
    | ow => exact absurd rfl (hb.1)
    | bo i => exact (show False from rs).elim
theorem sc_is_number : FnScope N_is_number ["thing", "least", "most"] (defScope s_is_number) := ⟨rfl, rfl, rfl, by decide +kernel, rfl, by decide +kernel, by decide +kernel⟩
theorem sc_is_pair : FnScope N_is_pair ["thing"] (defScope s_is_pair) := ⟨rfl, rfl, rfl, by decide +kernel, rfl, by decide +kernel, by decide +kernel⟩
theorem sc_is_tile : FnScope N_is_tile ["thing"] (defScope s_is_tile) := ⟨rfl, rfl, rfl, by decide +kernel, rfl, by decide +kernel, by decide +kernel⟩
theorem sc_tile_of : FnScope N_tile_of ["pair"] (defScope s_tile_of) := ⟨rfl, rfl, rfl, by decide +kernel, rfl, by decide +kernel, by decide +kernel⟩
theorem sc_need_tile : FnScope N_need_tile ["tile"] (defScope s_need_tile) := ⟨rfl, rfl, rfl, by decide +kernel, rfl, by decide +kernel, by decide +kernel⟩
theorem sc_is_chain : FnScope N_is_chain ["thing"] (defScope s_is_chain) := ⟨rfl, rfl, rfl, by decide +kernel, rfl, by decide +kernel, by decide +kernel⟩
theorem sc_need_chain : FnScope N_need_chain ["chain"] (defScope s_need_chain) := ⟨rfl, rfl, rfl, by decide +kernel, rfl, by decide +kernel, by decide +kernel⟩
theorem sc_ends : FnScope N_ends ["chain"] (defScope s_ends) := ⟨rfl, rfl, rfl, by decide +kernel, rfl, by decide +kernel, by decide +kernel⟩
theorem sc_tiles_of : FnScope N_tiles_of ["chain"] (defScope s_tiles_of) := ⟨rfl, rfl, rfl, by decide +kernel, rfl, by decide +kernel, by decide +kernel⟩
theorem sc_fits : FnScope N_fits ["chain", "tile"] (defScope s_fits) := ⟨rfl, rfl, rfl, by decide +kernel, rfl, by decide +kernel, by decide +kernel⟩
theorem sc_laid : FnScope N_laid ["chain", "tile", "side"] (defScope s_laid) := ⟨rfl, rfl, rfl, by decide +kernel, rfl, by decide +kernel, by decide +kernel⟩
theorem sc_need_side : FnScope N_need_side ["side"] (defScope s_need_side) := ⟨rfl, rfl, rfl, by decide +kernel, rfl, by decide +kernel, by decide +kernel⟩
theorem sc_lay : FnScope N_lay ["chain", "tile", "where"] (defScope s_lay) := ⟨rfl, rfl, rfl, by decide +kernel, rfl, by decide +kernel, by decide +kernel⟩
theorem sc_law_drawn : FnScope N_law_drawn ["script", "k", "many"] (defScope s_law_drawn) := ⟨rfl, rfl, rfl, by decide +kernel, rfl, by decide +kernel, by decide +kernel⟩
theorem sc_law_set : FnScope N_law_set ["top"] (defScope s_law_set) := ⟨rfl, rfl, rfl, by decide +kernel, rfl, by decide +kernel, by decide +kernel⟩
theorem sc_law_order : FnScope N_law_order ["script", "at", "top"] (defScope s_law_order) := ⟨rfl, rfl, rfl, by decide +kernel, rfl, by decide +kernel, by decide +kernel⟩
theorem sc_law_tiles : FnScope N_law_tiles ["script", "at"] (defScope s_law_tiles) := ⟨rfl, rfl, rfl, by decide +kernel, rfl, by decide +kernel, by decide +kernel⟩
theorem sc_law_fits : FnScope N_law_fits ["chain", "tile"] (defScope s_law_fits) := ⟨rfl, rfl, rfl, by decide +kernel, rfl, by decide +kernel, by decide +kernel⟩
theorem sc_law_laid : FnScope N_law_laid ["chain", "tile", "side"] (defScope s_law_laid) := ⟨rfl, rfl, rfl, by decide +kernel, rfl, by decide +kernel, by decide +kernel⟩
theorem sc_law_chain : FnScope N_law_chain ["script", "at", "tiles"] (defScope s_law_chain) := ⟨rfl, rfl, rfl, by decide +kernel, rfl, by decide +kernel, by decide +kernel⟩
theorem sc_law_no : FnScope N_law_no ["way", "chain", "tile", "side"] (defScope s_law_no) := ⟨rfl, rfl, rfl, by decide +kernel, rfl, by decide +kernel, by decide +kernel⟩
theorem sc_law : FnScope N_law ["script"] (defScope s_law) := ⟨rfl, rfl, rfl, by decide +kernel, rfl, by decide +kernel, by decide +kernel⟩
structure Txt (kc : Kc) (mg : Str → Option Value) (A : Nat → Addr) (FD : Nat → FuncData) : Prop where
  b_all : mg "all" = none
  b_bool : mg "bool" = none
  b_enumerate : mg "enumerate" = none
  b_int : mg "int" = none
  b_isinstance : mg "isinstance" = none
  b_len : mg "len" = none
  b_list : mg "list" = none
  b_max : mg "max" = none
  b_min : mg "min" = none
  b_range : mg "range" = none
  b_set : mg "set" = none
  b_sorted : mg "sorted" = none
  b_str : mg "str" = none
  b_tuple : mg "tuple" = none
  b_zip : mg "zip" = none
  c_MOST : GlobOk kc mg "MOST" c_MOST
  c_SIDES : GlobOk kc mg "SIDES" c_SIDES
  x_NoChain : mg "NoChain" = some (.ref (kc.cA 2))
  x_NoFit : mg "NoFit" = some (.ref (kc.cA 4))
  x_NoSide : mg "NoSide" = some (.ref (kc.cA 3))
  x_NoTile : mg "NoTile" = some (.ref (kc.cA 1))
  x_TileError : mg "TileError" = some (.ref (kc.cA 0))
  xq_NoChain : PySem.W.excIn kc.K (kc.cA 2) [.type "ValueError", .type "Exception", .type "BaseException", .type "object"] "ValueError.__new__" = true
  xk_NoChain : PySem.W.keepIn kc.K (.ref (kc.cA 2)) = true
  xb_NoChain : PySem.W.subIn kc.K (.ref (kc.cA 2)) (.type "BaseException") = some true
  xt_NoChain : PySem.W.typeIn kc.K (.ref (kc.cA 2)) = some (.type "type")
  xq_NoFit : PySem.W.excIn kc.K (kc.cA 4) [.type "ValueError", .type "Exception", .type "BaseException", .type "object"] "ValueError.__new__" = true
  xk_NoFit : PySem.W.keepIn kc.K (.ref (kc.cA 4)) = true
  xb_NoFit : PySem.W.subIn kc.K (.ref (kc.cA 4)) (.type "BaseException") = some true
  xt_NoFit : PySem.W.typeIn kc.K (.ref (kc.cA 4)) = some (.type "type")
  xq_NoSide : PySem.W.excIn kc.K (kc.cA 3) [.type "ValueError", .type "Exception", .type "BaseException", .type "object"] "ValueError.__new__" = true
  xk_NoSide : PySem.W.keepIn kc.K (.ref (kc.cA 3)) = true
  xb_NoSide : PySem.W.subIn kc.K (.ref (kc.cA 3)) (.type "BaseException") = some true
  xt_NoSide : PySem.W.typeIn kc.K (.ref (kc.cA 3)) = some (.type "type")
  xq_NoTile : PySem.W.excIn kc.K (kc.cA 1) [.type "ValueError", .type "Exception", .type "BaseException", .type "object"] "ValueError.__new__" = true
  xk_NoTile : PySem.W.keepIn kc.K (.ref (kc.cA 1)) = true
  xb_NoTile : PySem.W.subIn kc.K (.ref (kc.cA 1)) (.type "BaseException") = some true
  xt_NoTile : PySem.W.typeIn kc.K (.ref (kc.cA 1)) = some (.type "type")
  xc : ∀ k, ExcC kc.K (kc.cA k)
  kit_NoChain : ∀ k, PySem.W.kitOne kc.K (.ref (kc.cA k)) (.ref (kc.cA 2)) = some (isub 2 k)
  kit_NoFit : ∀ k, PySem.W.kitOne kc.K (.ref (kc.cA k)) (.ref (kc.cA 4)) = some (isub 4 k)
  kit_NoSide : ∀ k, PySem.W.kitOne kc.K (.ref (kc.cA k)) (.ref (kc.cA 3)) = some (isub 3 k)
  kit_NoTile : ∀ k, PySem.W.kitOne kc.K (.ref (kc.cA k)) (.ref (kc.cA 1)) = some (isub 1 k)
  exm_TileError : ∀ k, PySem.W.exmOne kc.K (.ref (kc.cA k)) (.ref (kc.cA 0)) = some (isub 0 k)
  F_is_number : Fun kc.K "is_number" "is_number" s_is_number (A 0) (FD 0)
  m_is_number : mg "is_number" = some (.ref (A 0))
  n_is_number : Binds kc.K (FD 0) ["thing", "least", "most"] []
  F_is_pair : Fun kc.K "is_pair" "is_pair" s_is_pair (A 1) (FD 1)
  m_is_pair : mg "is_pair" = some (.ref (A 1))
  n_is_pair : Binds kc.K (FD 1) ["thing"] []
  F_is_tile : Fun kc.K "is_tile" "is_tile" s_is_tile (A 2) (FD 2)
  m_is_tile : mg "is_tile" = some (.ref (A 2))
  n_is_tile : Binds kc.K (FD 2) ["thing"] []
  F_tile_of : Fun kc.K "tile_of" "tile_of" s_tile_of (A 3) (FD 3)
  m_tile_of : mg "tile_of" = some (.ref (A 3))
  n_tile_of : Binds kc.K (FD 3) ["pair"] []
  F_need_tile : Fun kc.K "need_tile" "need_tile" s_need_tile (A 4) (FD 4)
  m_need_tile : mg "need_tile" = some (.ref (A 4))
  n_need_tile : Binds kc.K (FD 4) ["tile"] []
  F_is_chain : Fun kc.K "is_chain" "is_chain" s_is_chain (A 5) (FD 5)
  m_is_chain : mg "is_chain" = some (.ref (A 5))
  n_is_chain : Binds kc.K (FD 5) ["thing"] []
  F_need_chain : Fun kc.K "need_chain" "need_chain" s_need_chain (A 6) (FD 6)
  m_need_chain : mg "need_chain" = some (.ref (A 6))
  n_need_chain : Binds kc.K (FD 6) ["chain"] []
  F_ends : Fun kc.K "ends" "ends" s_ends (A 7) (FD 7)
  m_ends : mg "ends" = some (.ref (A 7))
  n_ends : Binds kc.K (FD 7) ["chain"] []
  F_tiles_of : Fun kc.K "tiles_of" "tiles_of" s_tiles_of (A 8) (FD 8)
  m_tiles_of : mg "tiles_of" = some (.ref (A 8))
  n_tiles_of : Binds kc.K (FD 8) ["chain"] []
  F_fits : Fun kc.K "fits" "fits" s_fits (A 9) (FD 9)
  m_fits : mg "fits" = some (.ref (A 9))
  n_fits : Binds kc.K (FD 9) ["chain", "tile"] []
  F_laid : Fun kc.K "laid" "laid" s_laid (A 10) (FD 10)
  m_laid : mg "laid" = some (.ref (A 10))
  n_laid : Binds kc.K (FD 10) ["chain", "tile", "side"] []
  F_need_side : Fun kc.K "need_side" "need_side" s_need_side (A 11) (FD 11)
  m_need_side : mg "need_side" = some (.ref (A 11))
  n_need_side : Binds kc.K (FD 11) ["side"] []
  F_lay : FunD kc.K "lay" "lay" (defArgs s_lay) (defBody s_lay) (defScope s_lay) [V.str "right"] [] (A 12) (FD 12)
  m_lay : mg "lay" = some (.ref (A 12))
  n_lay : Binds kc.K (FD 12) ["chain", "tile", "where"] []
  d_lay_2 : ∃ ds, Vals [V.str "right"] ds ∧ Binds kc.K (FD 12) ["chain", "tile", "where"] ds
  k_lay_2 : ∃ its : List Value, KBn kc.K (FD 12) ["chain", "tile", "where"] 2 ["where"] (fun us ws => (fun {α : Type} (a b c : List α) => a ++ c) us its ws) (fun vs zs => vs ++ zs)
  F_law_drawn : Fun kc.K "_law_drawn" "_law_drawn" s_law_drawn (A 13) (FD 13)
  m_law_drawn : mg "_law_drawn" = some (.ref (A 13))
  n_law_drawn : Binds kc.K (FD 13) ["script", "k", "many"] []
  F_law_set : Fun kc.K "_law_set" "_law_set" s_law_set (A 14) (FD 14)
  m_law_set : mg "_law_set" = some (.ref (A 14))
  n_law_set : Binds kc.K (FD 14) ["top"] []
  F_law_order : Fun kc.K "_law_order" "_law_order" s_law_order (A 15) (FD 15)
  m_law_order : mg "_law_order" = some (.ref (A 15))
  n_law_order : Binds kc.K (FD 15) ["script", "at", "top"] []
  F_law_tiles : Fun kc.K "_law_tiles" "_law_tiles" s_law_tiles (A 16) (FD 16)
  m_law_tiles : mg "_law_tiles" = some (.ref (A 16))
  n_law_tiles : Binds kc.K (FD 16) ["script", "at"] []
  F_law_fits : Fun kc.K "_law_fits" "_law_fits" s_law_fits (A 17) (FD 17)
  m_law_fits : mg "_law_fits" = some (.ref (A 17))
  n_law_fits : Binds kc.K (FD 17) ["chain", "tile"] []
  F_law_laid : Fun kc.K "_law_laid" "_law_laid" s_law_laid (A 18) (FD 18)
  m_law_laid : mg "_law_laid" = some (.ref (A 18))
  n_law_laid : Binds kc.K (FD 18) ["chain", "tile", "side"] []
  F_law_chain : Fun kc.K "_law_chain" "_law_chain" s_law_chain (A 19) (FD 19)
  m_law_chain : mg "_law_chain" = some (.ref (A 19))
  n_law_chain : Binds kc.K (FD 19) ["script", "at", "tiles"] []
  F_law_no : Fun kc.K "_law_no" "_law_no" s_law_no (A 20) (FD 20)
  m_law_no : mg "_law_no" = some (.ref (A 20))
  n_law_no : Binds kc.K (FD 20) ["way", "chain", "tile", "side"] []
  F_law : Fun kc.K "law" "law" s_law (A 21) (FD 21)
  m_law : mg "law" = some (.ref (A 21))
  n_law : Binds kc.K (FD 21) ["script"] []
section
variable {P : Program} {w : World} {kc : Kc} {mg : Str → Option Value} {base : Heap} {A : Nat → Addr} {FD : Nat → FuncData}
theorem ok_is_number (T : Txt kc mg A FD) : FnOk P w kc.K mg base (L2.CX P w) 1 (A 0) (FD 0) ["thing", "least", "most"] (spV kc 3 F_is_number) :=
  fnV (N := N_is_number) (k := 0) (g := g_is_number) T.F_is_number sc_is_number fun cdv Ar outer s H E hr =>
    (d_one' (d_ret (d_and (d_isi rfl ty_int rfl T.b_isinstance rfl T.b_int (by decide +kernel) (d_var 0 (pv 0))) (d_and (d_not (d_isi rfl ty_bool rfl T.b_isinstance rfl T.b_bool (by decide +kernel) (d_var 0 (pv 0)))) (d_one (d_chain op_le op_le leF_ok leF_ok (d_var 1 (pv 1)) (d_var 0 (pv 0)) (d_var 2 (pv 2))))))))
theorem ok_is_pair (T : Txt kc mg A FD) : FnOk P w kc.K mg base (L2.CX P w) 2 (A 1) (FD 1) ["thing"] (spV kc 1 F_is_pair) :=
  fnV (N := N_is_pair) (k := 1) (g := g_is_pair) T.F_is_pair sc_is_pair fun cdv Ar outer s H E hr =>
    (d_one' (d_ret (d_and (d_isi rfl ty_tuple rfl T.b_isinstance rfl T.b_tuple (by decide +kernel) (d_var 0 (pv 0))) (d_and (d_cmp (op_eqD hr.units) eqF_ok (d_len rfl rfl T.b_len (d_var 0 (pv 0))) d_int (nomark _)) (d_one (d_all rfl rfl rfl T.b_all (d_comp (own := [("one", 1)]) rfl sc_is_pair.nd (fun _ _ => rfl) (fun _ h => h) (d_iseq rfl (d_var 0 (pv 0))) (blkOk_by (own := [("one", 1)]) (N := N_is_pair) (sc := defScope s_is_pair) (by decide +kernel)) (fun _ _ _ _ _ => (d_gname (pg_name (i := 1) sc_is_pair.nd rfl (by first | exact Or.inl rfl | exact Or.inr rfl)) rfl)) (fun _ _ _ _ _ => d_tnil) (fun _ _ _ _ _ => (d_call0 (ok_is_number T) (hr.mono (by decide)) takes0 rfl T.m_is_number T.F_is_number.kp T.n_is_number (d_acons (d_var 1 (pv 1)) (d_acons d_int (d_acons (d_glob T.c_MOST rfl) d_anil))) (len_cons (len_cons (len_cons len_nil))))))))))))
theorem ok_is_tile (T : Txt kc mg A FD) : FnOk P w kc.K mg base (L2.CX P w) 3 (A 2) (FD 2) ["thing"] (spV kc 1 F_is_tile) :=
  fnV (N := N_is_tile) (k := 2) (g := g_is_tile) T.F_is_tile sc_is_tile fun cdv Ar outer s H E hr =>
    (d_one' (d_ret (d_and (d_call0 (ok_is_pair T) (hr.mono (by decide)) (takes_of rfl rfl rfl rfl) rfl T.m_is_pair T.F_is_pair.kp T.n_is_pair (d_acons (d_var 0 (pv 0)) d_anil) (len_cons len_nil)) (d_one (d_cmp op_le leF_ok (d_ix rfl (d_var 0 (pv 0)) d_int (fun _ _ => rfl)) (d_ix rfl (d_var 0 (pv 0)) d_int (fun _ _ => rfl)) (nomark _))))))
theorem ok_tile_of (T : Txt kc mg A FD) : FnOk P w kc.K mg base (L2.CX P w) 1 (A 3) (FD 3) ["pair"] (spV kc 1 F_tile_of) :=
  fnV (N := N_tile_of) (k := 0) (g := g_tile_of) T.F_tile_of sc_tile_of fun cdv Ar outer s H E hr =>
    (d_one' (d_ret (d_tup (d_acons (d_min rfl rfl hr.units rfl T.b_min (d_var 0 (pv 0))) (d_acons (d_max rfl rfl hr.units rfl T.b_max (d_var 0 (pv 0))) d_anil)))))
theorem ok_need_tile (T : Txt kc mg A FD) : FnOk P w kc.K mg base (L2.CX P w) 4 (A 4) (FD 4) ["tile"] (spV kc 1 F_need_tile) :=
  fnV (N := N_need_tile) (k := 3) (g := g_need_tile) T.F_need_tile sc_need_tile fun cdv Ar outer s H E hr =>
    (d_one' (d_if (d_notT (d_test (d_call0 (ok_is_tile T) (hr.mono (by decide)) (takes_of rfl rfl rfl rfl) rfl T.m_is_tile T.F_is_tile.kp T.n_is_tile (d_acons (d_var 0 (pv 0)) d_anil) (len_cons len_nil)))) (d_one' (d_raise (k := 1) rfl (takes_of rfl rfl rfl rfl) (pmk_own PySem.F.excBase_ValueError T.xq_NoTile T.x_NoTile T.xk_NoTile (raises_own T.xb_NoTile T.xt_NoTile) rfl))) d_nil))
theorem ok_is_chain (T : Txt kc mg A FD) : FnOk P w kc.K mg base (L2.CX P w) 3 (A 5) (FD 5) ["thing"] (spV kc 1 F_is_chain) :=
  fnV (N := N_is_chain) (k := 2) (g := g_is_chain) T.F_is_chain sc_is_chain fun cdv Ar outer s H E hr =>
    (d_cons (d_if (PW.pt (d_orT (d_notT (d_test (d_isi rfl ty_list rfl T.b_isinstance rfl T.b_list (by decide +kernel) (d_var 0 (pv 0))))) (d_or1T (d_notT (d_test (d_all rfl rfl rfl T.b_all (d_comp (own := [("pair", 1)]) rfl sc_is_chain.nd (fun _ _ => rfl) (fun _ h => h) (d_iseq rfl (d_var 0 (pv 0))) (blkOk_by (own := [("pair", 1)]) (N := N_is_chain) (sc := defScope s_is_chain) (by decide +kernel)) (fun _ _ _ _ _ => (d_gname (pg_name (i := 1) sc_is_chain.nd rfl (by first | exact Or.inl rfl | exact Or.inr rfl)) rfl)) (fun _ _ _ _ _ => d_tnil) (fun _ _ _ _ _ => (d_call0 (ok_is_pair T) (hr.mono (by decide)) takes0 rfl T.m_is_pair T.F_is_pair.kp T.n_is_pair (d_acons (d_var 1 (pv 1)) d_anil) (len_cons len_nil)))))))))) (d_one' (d_ret d_bl)) d_nil)
    (d_cons (d_if (d_cmpT (op_neD hr.units) neF_ok (d_comp (own := [("one", 2), ("other", 3)]) rfl sc_is_chain.nd (fun _ _ => rfl) (fun _ h => h) (d_izip rfl rfl T.b_zip (d_acons (d_var 0 (pv 0)) (d_acons (d_sl rfl (d_var 0 (pv 0)) (d_osome d_int) d_onone) d_anil))) (blkOk_by (own := [("one", 2), ("other", 3)]) (N := N_is_chain) (sc := defScope s_is_chain) (by decide +kernel)) (fun _ _ _ _ _ => (d_gtup rfl rfl (d_gcons (d_gname (pg_name (i := 2) sc_is_chain.nd rfl (by first | exact Or.inl rfl | exact Or.inr rfl)) rfl) (d_gcons (d_gname (pg_name (i := 3) sc_is_chain.nd rfl (by first | exact Or.inl rfl | exact Or.inr rfl)) rfl) d_gnil)))) (fun _ _ _ _ _ => (d_tone (d_cmpT (op_neD hr.units) neF_ok (d_ix rfl (d_var 2 (pv 2)) d_int (fun _ _ => rfl)) (d_ix rfl (d_var 3 (pv 3)) d_int (fun _ _ => rfl)) (nomark _)))) (fun _ _ _ _ _ => (d_var 2 (pv 2)))) (d_lst d_anil) (nomark _)) (d_one' (d_ret d_bl)) d_nil)
    (d_one' (d_ret (d_cmp (op_eqD hr.units) eqF_ok (d_lenSet rfl rfl hr.units rfl T.b_len rfl T.b_set (d_comp (own := [("pair", 1)]) rfl sc_is_chain.nd (fun _ _ => rfl) (fun _ h => h) (d_iseq rfl (d_var 0 (pv 0))) (blkOk_by (own := [("pair", 1)]) (N := N_is_chain) (sc := defScope s_is_chain) (by decide +kernel)) (fun _ _ _ _ _ => (d_gname (pg_name (i := 1) sc_is_chain.nd rfl (by first | exact Or.inl rfl | exact Or.inr rfl)) rfl)) (fun _ _ _ _ _ => d_tnil) (fun _ _ _ _ _ => (d_call0 (ok_tile_of T) (hr.mono (by decide)) takes0 rfl T.m_tile_of T.F_tile_of.kp T.n_tile_of (d_acons (d_var 1 (pv 1)) d_anil) (len_cons len_nil))))) (d_len rfl rfl T.b_len (d_var 0 (pv 0))) (nomark _))))))
theorem ok_need_chain (T : Txt kc mg A FD) : FnOk P w kc.K mg base (L2.CX P w) 4 (A 6) (FD 6) ["chain"] (spV kc 1 F_need_chain) :=
  fnV (N := N_need_chain) (k := 3) (g := g_need_chain) T.F_need_chain sc_need_chain fun cdv Ar outer s H E hr =>
    (d_one' (d_if (d_notT (d_test (d_call0 (ok_is_chain T) (hr.mono (by decide)) (takes_of rfl rfl rfl rfl) rfl T.m_is_chain T.F_is_chain.kp T.n_is_chain (d_acons (d_var 0 (pv 0)) d_anil) (len_cons len_nil)))) (d_one' (d_raise (k := 2) rfl (takes_of rfl rfl rfl rfl) (pmk_own PySem.F.excBase_ValueError T.xq_NoChain T.x_NoChain T.xk_NoChain (raises_own T.xb_NoChain T.xt_NoChain) rfl))) d_nil))
theorem ok_ends (T : Txt kc mg A FD) : FnOk P w kc.K mg base (L2.CX P w) 5 (A 7) (FD 7) ["chain"] (spV kc 1 F_ends) :=
  fnV (N := N_ends) (k := 4) (g := g_ends) T.F_ends sc_ends fun cdv Ar outer s H E hr =>
    (d_cons (d_expr (d_call0 (ok_need_chain T) (hr.mono (by decide)) (takes_of rfl rfl rfl rfl) rfl T.m_need_chain T.F_need_chain.kp T.n_need_chain (d_acons (d_var 0 (pv 0)) d_anil) (len_cons len_nil)))
    (d_one' (d_ret (d_ife (d_cmpT (op_neD hr.units) neF_ok (d_var 0 (pv 0)) (d_lst d_anil) (nomark _)) (d_tup (d_acons (d_ix rfl (d_ix rfl (d_var 0 (pv 0)) d_int (fun _ _ => rfl)) d_int (fun _ _ => rfl)) (d_acons (d_ix rfl (d_ix rfl (d_var 0 (pv 0)) (d_neg d_int) (fun _ _ => rfl)) d_int (fun _ _ => rfl)) d_anil))) d_non))))
theorem ok_tiles_of (T : Txt kc mg A FD) : FnOk P w kc.K mg base (L2.CX P w) 5 (A 8) (FD 8) ["chain"] (spV kc 1 F_tiles_of) :=
  fnV (N := N_tiles_of) (k := 4) (g := g_tiles_of) T.F_tiles_of sc_tiles_of fun cdv Ar outer s H E hr =>
    (d_cons (d_expr (d_call0 (ok_need_chain T) (hr.mono (by decide)) (takes_of rfl rfl rfl rfl) rfl T.m_need_chain T.F_need_chain.kp T.n_need_chain (d_acons (d_var 0 (pv 0)) d_anil) (len_cons len_nil)))
    (d_one' (d_ret (d_sorted rfl hr.units rfl T.b_sorted (d_comp (own := [("pair", 1)]) rfl sc_tiles_of.nd (fun _ _ => rfl) (fun _ h => h) (d_iseq rfl (d_var 0 (pv 0))) (blkOk_by (own := [("pair", 1)]) (N := N_tiles_of) (sc := defScope s_tiles_of) (by decide +kernel)) (fun _ _ _ _ _ => (d_gname (pg_name (i := 1) sc_tiles_of.nd rfl (by first | exact Or.inl rfl | exact Or.inr rfl)) rfl)) (fun _ _ _ _ _ => d_tnil) (fun _ _ _ _ _ => (d_call0 (ok_tile_of T) (hr.mono (by decide)) takes0 rfl T.m_tile_of T.F_tile_of.kp T.n_tile_of (d_acons (d_var 1 (pv 1)) d_anil) (len_cons len_nil))))))))
theorem ok_fits (T : Txt kc mg A FD) : FnOk P w kc.K mg base (L2.CX P w) 5 (A 9) (FD 9) ["chain", "tile"] (spV kc 2 F_fits) :=
  fnV (N := N_fits) (k := 4) (g := g_fits) T.F_fits sc_fits fun cdv Ar outer s H E hr =>
    (d_cons (d_expr (d_call0 (ok_need_chain T) (hr.mono (by decide)) (takes_of rfl rfl rfl rfl) rfl T.m_need_chain T.F_need_chain.kp T.n_need_chain (d_acons (d_var 0 (pv 0)) d_anil) (len_cons len_nil)))
    (d_cons (d_expr (d_call0 (ok_need_tile T) (hr.mono (by decide)) (takes_of rfl rfl rfl rfl) rfl T.m_need_tile T.F_need_tile.kp T.n_need_tile (d_acons (d_var 1 (pv 1)) d_anil) (len_cons len_nil)))
    (d_cons (d_if (d_cmpT (op_inAll (hu5 hr)) inF_ok (d_var 1 (pv 1)) (d_comp (own := [("pair", 2)]) rfl sc_fits.nd (fun _ _ => rfl) (fun _ h => h) (d_iseq rfl (d_var 0 (pv 0))) (blkOk_by (own := [("pair", 2)]) (N := N_fits) (sc := defScope s_fits) (by decide +kernel)) (fun _ _ _ _ _ => (d_gname (pg_name (i := 2) sc_fits.nd rfl (by first | exact Or.inl rfl | exact Or.inr rfl)) rfl)) (fun _ _ _ _ _ => d_tnil) (fun _ _ _ _ _ => (d_call0 (ok_tile_of T) (hr.mono (by decide)) takes0 rfl T.m_tile_of T.F_tile_of.kp T.n_tile_of (d_acons (d_var 2 (pv 2)) d_anil) (len_cons len_nil)))) rfl) (d_one' (d_ret (d_lst d_anil))) d_nil)
    (d_cons (d_if (d_cmpT (op_eqD hr.units) eqF_ok (d_var 0 (pv 0)) (d_lst d_anil) (nomark _)) (d_one' (d_ret (d_list rfl rfl T.b_list (d_glob T.c_SIDES rfl)))) d_nil)
    (d_one' (d_ret (d_comp (own := [("side", 3), ("end", 4)]) rfl sc_fits.nd (fun _ _ => rfl) (fun _ h => h) (d_izip rfl rfl T.b_zip (d_acons (d_glob T.c_SIDES rfl) (d_acons (d_tup (d_acons (d_ix rfl (d_ix rfl (d_var 0 (pv 0)) d_int (fun _ _ => rfl)) d_int (fun _ _ => rfl)) (d_acons (d_ix rfl (d_ix rfl (d_var 0 (pv 0)) (d_neg d_int) (fun _ _ => rfl)) d_int (fun _ _ => rfl)) d_anil))) d_anil))) (blkOk_by (own := [("side", 3), ("end", 4)]) (N := N_fits) (sc := defScope s_fits) (by decide +kernel)) (fun _ _ _ _ _ => (d_gtup rfl rfl (d_gcons (d_gname (pg_name (i := 3) sc_fits.nd rfl (by first | exact Or.inl rfl | exact Or.inr rfl)) rfl) (d_gcons (d_gname (pg_name (i := 4) sc_fits.nd rfl (by first | exact Or.inl rfl | exact Or.inr rfl)) rfl) d_gnil)))) (fun _ _ _ _ _ => (d_tone (d_cmpT (op_inAll (hu5 hr)) inF_ok (d_var 4 (pv 4)) (d_var 1 (pv 1)) rfl))) (fun _ _ _ _ _ => (d_var 3 (pv 3))))))))))
theorem ok_laid (T : Txt kc mg A FD) : FnOk P w kc.K mg base (L2.CX P w) 1 (A 10) (FD 10) ["chain", "tile", "side"] (spV kc 3 F_laid) :=
  fnV (N := N_laid) (k := 0) (g := g_laid) T.F_laid sc_laid fun cdv Ar outer s H E hr =>
    (d_cons (d_asgG (d_var 1 (pv 1)) (d_gtup rfl rfl (d_gcons (d_gname (pg_name (i := 3) sc_laid.nd rfl (by first | exact Or.inl rfl | exact Or.inr rfl)) rfl) (d_gcons (d_gname (pg_name (i := 4) sc_laid.nd rfl (by first | exact Or.inl rfl | exact Or.inr rfl)) rfl) d_gnil))))
    (d_cons (d_if (d_cmpT (op_eqD hr.units) eqF_ok (d_var 0 (pv 0)) (d_lst d_anil) (nomark _)) (d_one' (d_ret (d_lst (d_acons (d_var 1 (pv 1)) d_anil)))) d_nil)
    (d_cons (d_if (d_cmpT (op_eqD hr.units) eqF_ok (d_var 2 (pv 2)) d_str (nomark _)) (d_one' (d_ret (d_add rfl (d_lst (d_acons (d_ife (d_cmpT (op_eqD hr.units) eqF_ok (d_var 4 (pv 4)) (d_ix rfl (d_ix rfl (d_var 0 (pv 0)) d_int (fun _ _ => rfl)) d_int (fun _ _ => rfl)) (nomark _)) (d_tup (d_acons (d_var 3 (pv 3)) (d_acons (d_var 4 (pv 4)) d_anil))) (d_tup (d_acons (d_var 4 (pv 4)) (d_acons (d_var 3 (pv 3)) d_anil)))) d_anil)) (d_var 0 (pv 0))))) d_nil)
    (d_one' (d_ret (d_add rfl (d_var 0 (pv 0)) (d_lst (d_acons (d_ife (d_cmpT (op_eqD hr.units) eqF_ok (d_var 3 (pv 3)) (d_ix rfl (d_ix rfl (d_var 0 (pv 0)) (d_neg d_int) (fun _ _ => rfl)) d_int (fun _ _ => rfl)) (nomark _)) (d_tup (d_acons (d_var 3 (pv 3)) (d_acons (d_var 4 (pv 4)) d_anil))) (d_tup (d_acons (d_var 4 (pv 4)) (d_acons (d_var 3 (pv 3)) d_anil)))) d_anil))))))))
theorem ok_need_side (T : Txt kc mg A FD) : FnOk P w kc.K mg base (L2.CX P w) 1 (A 11) (FD 11) ["side"] (spV kc 1 F_need_side) :=
  fnV (N := N_need_side) (k := 0) (g := g_need_side) T.F_need_side sc_need_side fun cdv Ar outer s H E hr =>
    (d_one' (d_if (PW.pt (d_orT (d_notT (d_test (d_isi rfl ty_str rfl T.b_isinstance rfl T.b_str (by decide +kernel) (d_var 0 (pv 0))))) (d_or1T (d_cmpT (op_notInAll (hu5 hr)) notInF_ok (d_var 0 (pv 0)) (d_glob T.c_SIDES rfl) rfl)))) (d_one' (d_raise (k := 3) rfl (takes_of rfl rfl rfl rfl) (pmk_own PySem.F.excBase_ValueError T.xq_NoSide T.x_NoSide T.xk_NoSide (raises_own T.xb_NoSide T.xt_NoSide) rfl))) d_nil))
theorem ok_lay (T : Txt kc mg A FD) : FnOk P w kc.K mg base (L2.CX P w) 6 (A 12) (FD 12) ["chain", "tile", "where"] (spV kc 3 F_lay) :=
  fnVD (N := N_lay) (k := 5) (g := g_lay) T.F_lay sc_lay fun cdv Ar outer s H E hr =>
    (d_cons (d_asg (i := 3) sc_lay.nd rfl (by first | exact Or.inl rfl | exact Or.inr rfl) rfl (d_call0 (ok_fits T) (hr.mono (by decide)) (takes_of rfl rfl rfl rfl) rfl T.m_fits T.F_fits.kp T.n_fits (d_acons (d_var 0 (pv 0)) (d_acons (d_var 1 (pv 1)) d_anil)) (len_cons (len_cons len_nil))))
    (d_cons (d_expr (d_call0 (ok_need_side T) (hr.mono (by decide)) (takes_of rfl rfl rfl rfl) rfl T.m_need_side T.F_need_side.kp T.n_need_side (d_acons (d_var 2 (pv 2)) d_anil) (len_cons len_nil)))
    (d_cons (d_if (d_cmpT (op_notInAll (hu5 hr)) notInF_ok (d_var 2 (pv 2)) (d_var 3 (pv 3)) rfl) (d_one' (d_raise (k := 4) rfl (takes_of rfl rfl rfl rfl) (pmk_own PySem.F.excBase_ValueError T.xq_NoFit T.x_NoFit T.xk_NoFit (raises_own T.xb_NoFit T.xt_NoFit) rfl))) d_nil)
    (d_one' (d_ret (d_call0 (ok_laid T) (hr.mono (by decide)) (takes_of rfl rfl rfl rfl) rfl T.m_laid T.F_laid.kp T.n_laid (d_acons (d_var 0 (pv 0)) (d_acons (d_var 1 (pv 1)) (d_acons (d_var 2 (pv 2)) d_anil))) (len_cons (len_cons (len_cons len_nil)))))))))
theorem ok_law_drawn (T : Txt kc mg A FD) : FnOk P w kc.K mg base (L2.CX P w) 1 (A 13) (FD 13) ["script", "k", "many"] (spV kc 3 F_law_drawn) :=
  fnV (N := N_law_drawn) (k := 0) (g := g_law_drawn) T.F_law_drawn sc_law_drawn fun cdv Ar outer s H E hr =>
    (d_cons (d_asg (i := 3) sc_law_drawn.nd rfl (by first | exact Or.inl rfl | exact Or.inr rfl) rfl (d_mul rfl d_int (d_var 1 (pv 1))))
    (d_cons (d_if (d_cmpT (op_neD hr.units) neF_ok (d_var 0 (pv 0)) (d_lst d_anil) (nomark _)) (d_cons (d_asg (i := 3) sc_law_drawn.nd rfl (by first | exact Or.inl rfl | exact Or.inr rfl) rfl (d_ix rfl (d_var 0 (pv 0)) (d_mod (d_var 1 (pv 1)) (d_len rfl rfl T.b_len (d_var 0 (pv 0)))) (fun _ _ => rfl)))
    (d_cons (d_asg (i := 4) sc_law_drawn.nd rfl (by first | exact Or.inl rfl | exact Or.inr rfl) rfl (d_fdiv (d_var 1 (pv 1)) (d_len rfl rfl T.b_len (d_var 0 (pv 0)))))
    (d_cons (d_if (PW.pt (d_andT (d_cmpT op_ge geF_ok (d_var 3 (pv 3)) (d_pow d_int d_int) (nomark _)) (d_and1T (d_cmpT op_lt ltF_ok (d_var 4 (pv 4)) d_int (nomark _))))) (d_cons (d_asg (i := 5) sc_law_drawn.nd rfl (by first | exact Or.inl rfl | exact Or.inr rfl) rfl (d_fdiv (d_var 3 (pv 3)) (d_pow d_int d_int)))
    (d_cons (d_while 61 (passes_of rfl) (PW.pt (d_andT (d_cmpT op_gt gtF_ok (d_var 5 (pv 5)) d_int (nomark _)) (d_and1T (d_cmpT op_gt gtF_ok (d_var 4 (pv 4)) d_int (nomark _))))) (d_cons (d_asg (i := 5) sc_law_drawn.nd rfl (by first | exact Or.inl rfl | exact Or.inr rfl) rfl (d_fdiv (d_var 5 (pv 5)) d_int))
    (d_one' (d_asg (i := 4) sc_law_drawn.nd rfl (by first | exact Or.inl rfl | exact Or.inr rfl) rfl (d_sub (d_var 4 (pv 4)) d_int)))))
    (d_one' (d_if (d_cmpT op_gt gtF_ok (d_var 5 (pv 5)) d_int (nomark _)) (d_one' (d_ret (d_mod (d_mod (d_var 5 (pv 5)) d_int) (d_var 2 (pv 2))))) d_nil)))) d_nil)
    (d_one' (d_asg (i := 3) sc_law_drawn.nd rfl (by first | exact Or.inl rfl | exact Or.inr rfl) rfl (d_add rfl (d_var 3 (pv 3)) (d_mul rfl d_int (d_fdiv (d_var 1 (pv 1)) (d_len rfl rfl T.b_len (d_var 0 (pv 0))))))))))) d_nil)
    (d_cons (d_asg (i := 3) sc_law_drawn.nd rfl (by first | exact Or.inl rfl | exact Or.inr rfl) rfl (d_mod (d_add rfl (d_mul rfl (d_mod (d_var 3 (pv 3)) d_int) d_int) (d_mul rfl d_int (d_add rfl (d_var 1 (pv 1)) d_int))) d_int))
    (d_cons (d_asg (i := 3) sc_law_drawn.nd rfl (by first | exact Or.inl rfl | exact Or.inr rfl) rfl (d_mod (d_add rfl (d_mul rfl (d_var 3 (pv 3)) (d_var 3 (pv 3))) (d_fdiv (d_var 3 (pv 3)) d_int)) d_int))
    (d_one' (d_ret (d_mod (d_fdiv (d_mod (d_add rfl (d_mul rfl (d_var 3 (pv 3)) (d_var 3 (pv 3))) (d_fdiv (d_var 3 (pv 3)) d_int)) d_int) d_int) (d_var 2 (pv 2)))))))))
theorem ok_law_set (T : Txt kc mg A FD) : FnOk P w kc.K mg base (L2.CX P w) 1 (A 14) (FD 14) ["top"] (spV kc 1 F_law_set) :=
  fnV (N := N_law_set) (k := 0) (g := g_law_set) T.F_law_set sc_law_set fun cdv Ar outer s H E hr =>
    (d_cons (d_asg (i := 1) sc_law_set.nd rfl (by first | exact Or.inl rfl | exact Or.inr rfl) rfl (d_lst d_anil))
    (d_cons (d_for (passes_of rfl) rfl (d_irng1 rfl T.b_range (d_acons (d_add rfl (d_var 0 (pv 0)) d_int) d_anil)) (d_gname (pg_name (i := 2) sc_law_set.nd rfl (by first | exact Or.inl rfl | exact Or.inr rfl)) rfl) (d_one' (d_asg (i := 1) sc_law_set.nd rfl (by first | exact Or.inl rfl | exact Or.inr rfl) rfl (d_add rfl (d_var 1 (pv 1)) (d_comp (own := [("other", 3)]) rfl sc_law_set.nd (fun _ _ => rfl) (fun _ h => h) (d_irng2 rfl T.b_range (d_acons (d_var 2 (pv 2)) (d_acons (d_add rfl (d_var 0 (pv 0)) d_int) d_anil))) (blkOk_by (own := [("other", 3)]) (N := N_law_set) (sc := defScope s_law_set) (by decide +kernel)) (fun _ _ _ _ _ => (d_gname (pg_name (i := 3) sc_law_set.nd rfl (by first | exact Or.inl rfl | exact Or.inr rfl)) rfl)) (fun _ _ _ _ _ => d_tnil) (fun _ _ _ _ _ => (d_tup (d_acons (d_var 2 (pv 2)) (d_acons (d_var 3 (pv 3)) d_anil)))))))))
    (d_one' (d_ret (d_var 1 (pv 1))))))
theorem ok_law_order (T : Txt kc mg A FD) : FnOk P w kc.K mg base (L2.CX P w) 2 (A 15) (FD 15) ["script", "at", "top"] (spV kc 3 F_law_order) :=
  fnV (N := N_law_order) (k := 1) (g := g_law_order) T.F_law_order sc_law_order fun cdv Ar outer s H E hr =>
    (d_cons (d_setLc (i := 3) (own := [("k", 4), ("tile", 5)]) rfl sc_law_order.nd rfl rfl (sw_true rfl rfl rfl (by decide +kernel)) rfl (fun _ _ => rfl) (fun _ h => h) (d_ienum rfl rfl T.b_enumerate (d_call0 (ok_law_set T) (hr.mono (by decide)) (takes_of rfl rfl rfl rfl) rfl T.m_law_set T.F_law_set.kp T.n_law_set (d_acons (d_var 2 (pv 2)) d_anil) (len_cons len_nil))) (blkOk_by (own := [("k", 4), ("tile", 5)]) (N := N_law_order) (sc := defScope s_law_order) (by decide +kernel)) (fun _ _ _ _ _ => (d_gtup rfl rfl (d_gcons (d_gname (pg_name (i := 4) sc_law_order.nd rfl (by first | exact Or.inl rfl | exact Or.inr rfl)) rfl) (d_gcons (d_gname (pg_name (i := 5) sc_law_order.nd rfl (by first | exact Or.inl rfl | exact Or.inr rfl)) rfl) d_gnil)))) (fun _ _ _ _ _ => d_tnil) (fun _ _ _ _ _ => (d_tup (d_acons (d_call0 (ok_law_drawn T) (hr.mono (by decide)) takes0 rfl T.m_law_drawn T.F_law_drawn.kp T.n_law_drawn (d_acons (d_var 0 (pv 0)) (d_acons (d_add rfl (d_var 1 (pv 1)) (d_var 4 (pv 4))) (d_acons d_int d_anil))) (len_cons (len_cons (len_cons len_nil)))) (d_acons (d_var 5 (pv 5)) d_anil)))))
    (d_one' (d_ret (d_comp (own := [("weight", 6), ("tile", 5)]) rfl sc_law_order.nd (fun _ _ => rfl) (fun _ h => h) (d_iseq rfl (d_sorted rfl hr.units rfl T.b_sorted (d_var 3 (pv 3)))) (blkOk_by (own := [("weight", 6), ("tile", 5)]) (N := N_law_order) (sc := defScope s_law_order) (by decide +kernel)) (fun _ _ _ _ _ => (d_gtup rfl rfl (d_gcons (d_gname (pg_name (i := 6) sc_law_order.nd rfl (by first | exact Or.inl rfl | exact Or.inr rfl)) rfl) (d_gcons (d_gname (pg_name (i := 5) sc_law_order.nd rfl (by first | exact Or.inl rfl | exact Or.inr rfl)) rfl) d_gnil)))) (fun _ _ _ _ _ => d_tnil) (fun _ _ _ _ _ => (d_var 5 (pv 5)))))))
theorem ok_law_tiles (T : Txt kc mg A FD) : FnOk P w kc.K mg base (L2.CX P w) 3 (A 16) (FD 16) ["script", "at"] (spV kc 2 F_law_tiles) :=
  fnV (N := N_law_tiles) (k := 2) (g := g_law_tiles) T.F_law_tiles sc_law_tiles fun cdv Ar outer s H E hr =>
    (d_cons (d_asg (i := 2) sc_law_tiles.nd rfl (by first | exact Or.inl rfl | exact Or.inr rfl) rfl (d_add rfl d_int (d_call0 (ok_law_drawn T) (hr.mono (by decide)) (takes_of rfl rfl rfl rfl) rfl T.m_law_drawn T.F_law_drawn.kp T.n_law_drawn (d_acons (d_var 0 (pv 0)) (d_acons (d_var 1 (pv 1)) (d_acons d_int d_anil))) (len_cons (len_cons (len_cons len_nil))))))
    (d_cons (d_asg (i := 3) sc_law_tiles.nd rfl (by first | exact Or.inl rfl | exact Or.inr rfl) rfl (d_ix rfl (d_lst (d_acons d_int (d_acons d_int (d_acons d_int d_anil)))) (d_call0 (ok_law_drawn T) (hr.mono (by decide)) (takes_of rfl rfl rfl rfl) rfl T.m_law_drawn T.F_law_drawn.kp T.n_law_drawn (d_acons (d_var 0 (pv 0)) (d_acons (d_add rfl (d_var 1 (pv 1)) d_int) (d_acons d_int d_anil))) (len_cons (len_cons (len_cons len_nil)))) (fun _ _ => rfl)))
    (d_cons (d_asg (i := 4) sc_law_tiles.nd rfl (by first | exact Or.inl rfl | exact Or.inr rfl) rfl (d_call0 (ok_law_order T) (hr.mono (by decide)) (takes_of rfl rfl rfl rfl) rfl T.m_law_order T.F_law_order.kp T.n_law_order (d_acons (d_var 0 (pv 0)) (d_acons (d_add rfl (d_var 1 (pv 1)) d_int) (d_acons (d_var 2 (pv 2)) d_anil))) (len_cons (len_cons (len_cons len_nil)))))
    (d_one' (d_ret (d_comp (own := [("k", 5), ("tile", 6)]) rfl sc_law_tiles.nd (fun _ _ => rfl) (fun _ h => h) (d_ienum rfl rfl T.b_enumerate (d_var 4 (pv 4))) (blkOk_by (own := [("k", 5), ("tile", 6)]) (N := N_law_tiles) (sc := defScope s_law_tiles) (by decide +kernel)) (fun _ _ _ _ _ => (d_gtup rfl rfl (d_gcons (d_gname (pg_name (i := 5) sc_law_tiles.nd rfl (by first | exact Or.inl rfl | exact Or.inr rfl)) rfl) (d_gcons (d_gname (pg_name (i := 6) sc_law_tiles.nd rfl (by first | exact Or.inl rfl | exact Or.inr rfl)) rfl) d_gnil)))) (fun _ _ _ _ _ => (d_tone (d_cmpT op_gt gtF_ok (d_call0 (ok_law_drawn T) (hr.mono (by decide)) takes0 rfl T.m_law_drawn T.F_law_drawn.kp T.n_law_drawn (d_acons (d_var 0 (pv 0)) (d_acons (d_add rfl (d_add rfl (d_var 1 (pv 1)) d_int) (d_var 5 (pv 5))) (d_acons (d_var 3 (pv 3)) d_anil))) (len_cons (len_cons (len_cons len_nil)))) d_int (nomark _)))) (fun _ _ _ _ _ => (d_var 6 (pv 6)))))))))
theorem ok_law_fits (T : Txt kc mg A FD) : FnOk P w kc.K mg base (L2.CX P w) 1 (A 17) (FD 17) ["chain", "tile"] (spV kc 2 F_law_fits) :=
  fnV (N := N_law_fits) (k := 0) (g := g_law_fits) T.F_law_fits sc_law_fits fun cdv Ar outer s H E hr =>
    (d_cons (d_if (d_cmpT (op_inAll (hu5 hr)) inF_ok (d_var 1 (pv 1)) (d_comp (own := [("pair", 2)]) rfl sc_law_fits.nd (fun _ _ => rfl) (fun _ h => h) (d_iseq rfl (d_var 0 (pv 0))) (blkOk_by (own := [("pair", 2)]) (N := N_law_fits) (sc := defScope s_law_fits) (by decide +kernel)) (fun _ _ _ _ _ => (d_gname (pg_name (i := 2) sc_law_fits.nd rfl (by first | exact Or.inl rfl | exact Or.inr rfl)) rfl)) (fun _ _ _ _ _ => d_tnil) (fun _ _ _ _ _ => (d_tup (d_acons (d_min rfl rfl hr.units rfl T.b_min (d_var 2 (pv 2))) (d_acons (d_max rfl rfl hr.units rfl T.b_max (d_var 2 (pv 2))) d_anil))))) rfl) (d_one' (d_ret (d_lst d_anil))) d_nil)
    (d_cons (d_if (d_cmpT (op_eqD hr.units) eqF_ok (d_var 0 (pv 0)) (d_lst d_anil) (nomark _)) (d_one' (d_ret (d_lst (d_acons d_str (d_acons d_str d_anil))))) d_nil)
    (d_cons (d_asg (i := 3) sc_law_fits.nd rfl (by first | exact Or.inl rfl | exact Or.inr rfl) rfl (d_ife (d_cmpT (op_inAll (hu5 hr)) inF_ok (d_ix rfl (d_ix rfl (d_var 0 (pv 0)) d_int (fun _ _ => rfl)) d_int (fun _ _ => rfl)) (d_var 1 (pv 1)) rfl) (d_lst (d_acons d_str d_anil)) (d_lst d_anil)))
    (d_one' (d_ret (d_add rfl (d_var 3 (pv 3)) (d_ife (d_cmpT (op_inAll (hu5 hr)) inF_ok (d_ix rfl (d_ix rfl (d_var 0 (pv 0)) (d_neg d_int) (fun _ _ => rfl)) d_int (fun _ _ => rfl)) (d_var 1 (pv 1)) rfl) (d_lst (d_acons d_str d_anil)) (d_lst d_anil))))))))
theorem ok_law_laid (T : Txt kc mg A FD) : FnOk P w kc.K mg base (L2.CX P w) 1 (A 18) (FD 18) ["chain", "tile", "side"] (spV kc 3 F_law_laid) :=
  fnV (N := N_law_laid) (k := 0) (g := g_law_laid) T.F_law_laid sc_law_laid fun cdv Ar outer s H E hr =>
    (d_cons (d_if (d_cmpT (op_eqD hr.units) eqF_ok (d_var 0 (pv 0)) (d_lst d_anil) (nomark _)) (d_one' (d_ret (d_lst (d_acons (d_var 1 (pv 1)) d_anil)))) d_nil)
    (d_cons (d_if (d_cmpT (op_eqD hr.units) eqF_ok (d_var 2 (pv 2)) d_str (nomark _)) (d_cons (d_asg (i := 3) sc_law_laid.nd rfl (by first | exact Or.inl rfl | exact Or.inr rfl) rfl (d_sub (d_add rfl (d_ix rfl (d_var 1 (pv 1)) d_int (fun _ _ => rfl)) (d_ix rfl (d_var 1 (pv 1)) d_int (fun _ _ => rfl))) (d_ix rfl (d_ix rfl (d_var 0 (pv 0)) d_int (fun _ _ => rfl)) d_int (fun _ _ => rfl))))
    (d_one' (d_ret (d_add rfl (d_lst (d_acons (d_tup (d_acons (d_var 3 (pv 3)) (d_acons (d_ix rfl (d_ix rfl (d_var 0 (pv 0)) d_int (fun _ _ => rfl)) d_int (fun _ _ => rfl)) d_anil))) d_anil)) (d_var 0 (pv 0)))))) d_nil)
    (d_one' (d_ret (d_add rfl (d_var 0 (pv 0)) (d_lst (d_acons (d_tup (d_acons (d_ix rfl (d_ix rfl (d_var 0 (pv 0)) (d_neg d_int) (fun _ _ => rfl)) d_int (fun _ _ => rfl)) (d_acons (d_sub (d_add rfl (d_ix rfl (d_var 1 (pv 1)) d_int (fun _ _ => rfl)) (d_ix rfl (d_var 1 (pv 1)) d_int (fun _ _ => rfl))) (d_ix rfl (d_ix rfl (d_var 0 (pv 0)) (d_neg d_int) (fun _ _ => rfl)) d_int (fun _ _ => rfl))) d_anil))) d_anil)))))))
theorem ok_law_chain (T : Txt kc mg A FD) : FnOk P w kc.K mg base (L2.CX P w) 2 (A 19) (FD 19) ["script", "at", "tiles"] (spV kc 3 F_law_chain) :=
  fnV (N := N_law_chain) (k := 1) (g := g_law_chain) T.F_law_chain sc_law_chain fun cdv Ar outer s H E hr =>
    (d_cons (d_asg (i := 3) sc_law_chain.nd rfl (by first | exact Or.inl rfl | exact Or.inr rfl) rfl (d_lst d_anil))
    (d_cons (d_for (passes_of rfl) rfl (d_ienum rfl rfl T.b_enumerate (d_var 2 (pv 2))) (d_gtup rfl rfl (d_gcons (d_gname (pg_name (i := 4) sc_law_chain.nd rfl (by first | exact Or.inl rfl | exact Or.inr rfl)) rfl) (d_gcons (d_gname (pg_name (i := 5) sc_law_chain.nd rfl (by first | exact Or.inl rfl | exact Or.inr rfl)) rfl) d_gnil))) (d_cons (d_asg (i := 6) sc_law_chain.nd rfl (by first | exact Or.inl rfl | exact Or.inr rfl) rfl (d_call0 (ok_law_fits T) (hr.mono (by decide)) (takes_of rfl rfl rfl rfl) rfl T.m_law_fits T.F_law_fits.kp T.n_law_fits (d_acons (d_var 3 (pv 3)) (d_acons (d_var 5 (pv 5)) d_anil)) (len_cons (len_cons len_nil))))
    (d_one' (d_if (d_cmpT (op_neD hr.units) neF_ok (d_var 6 (pv 6)) (d_lst d_anil) (nomark _)) (d_one' (d_asg (i := 3) sc_law_chain.nd rfl (by first | exact Or.inl rfl | exact Or.inr rfl) rfl (d_call0 (ok_law_laid T) (hr.mono (by decide)) (takes_of rfl rfl rfl rfl) rfl T.m_law_laid T.F_law_laid.kp T.n_law_laid (d_acons (d_var 3 (pv 3)) (d_acons (d_var 5 (pv 5)) (d_acons (d_ix rfl (d_var 6 (pv 6)) (d_call0 (ok_law_drawn T) (hr.mono (by decide)) (takes_of rfl rfl rfl rfl) rfl T.m_law_drawn T.F_law_drawn.kp T.n_law_drawn (d_acons (d_var 0 (pv 0)) (d_acons (d_add rfl (d_var 1 (pv 1)) (d_var 4 (pv 4))) (d_acons (d_len rfl rfl T.b_len (d_var 6 (pv 6))) d_anil))) (len_cons (len_cons (len_cons len_nil)))) (fun _ _ => rfl)) d_anil))) (len_cons (len_cons (len_cons len_nil)))))) d_nil))))
    (d_one' (d_ret (d_var 3 (pv 3))))))
theorem ok_law_no (T : Txt kc mg A FD) : FnOk P w kc.K mg base (L2.CX P w) 7 (A 20) (FD 20) ["way", "chain", "tile", "side"] (spV kc 4 F_law_no) :=
  fnV (N := N_law_no) (k := 6) (g := g_law_no) T.F_law_no sc_law_no fun cdv Ar outer s H E hr =>
    (d_cons (d_tryAs0 (i := 4) (C := kc.cA 0) rfl rfl sc_law_no.nd rfl rfl rfl ⟨rfl, by decide, .inl T.x_TileError⟩ rfl (takes_of rfl rfl rfl rfl) T.exm_TileError (fun W pn xe tk' hp' => (d_one' (d_if (d_cmpT (op_eqD hr.units) eqF_ok (d_var 0 (pv 0)) d_int (nomark _)) (d_one' (d_expr (d_call0 (ok_ends T) (hr.mono (by decide)) tk' rfl T.m_ends T.F_ends.kp T.n_ends (d_acons (d_var 1 (pv 1)) d_anil) (len_cons len_nil)))) (d_one' (d_if (d_cmpT (op_eqD hr.units) eqF_ok (d_var 0 (pv 0)) d_int (nomark _)) (d_one' (d_expr (d_call0 (ok_tiles_of T) (hr.mono (by decide)) tk' rfl T.m_tiles_of T.F_tiles_of.kp T.n_tiles_of (d_acons (d_var 1 (pv 1)) d_anil) (len_cons len_nil)))) (d_one' (d_if (d_cmpT (op_eqD hr.units) eqF_ok (d_var 0 (pv 0)) d_int (nomark _)) (d_one' (d_expr (d_call0 (ok_fits T) (hr.mono (by decide)) tk' rfl T.m_fits T.F_fits.kp T.n_fits (d_acons (d_var 1 (pv 1)) (d_acons (d_var 2 (pv 2)) d_anil)) (len_cons (len_cons len_nil))))) (d_one' (d_expr (d_call0 (ok_lay T) (hr.mono (by decide)) tk' rfl T.m_lay T.F_lay.kp T.n_lay (d_acons (d_var 1 (pv 1)) (d_acons (d_var 2 (pv 2)) (d_acons (d_var 3 (pv 3)) d_anil))) (len_cons (len_cons (len_cons len_nil))))))))))))) (fun a oe k' pn hz hfl => (d_cons (d_asg (i := 5) sc_law_no.nd rfl (by first | exact Or.inl rfl | exact Or.inr rfl) rfl (d_lst (d_acons (d_isE (T.xc k') hz hfl rfl (Or.inl rfl) (if_pos rfl) rfl T.b_isinstance rfl T.x_NoChain (T.kit_NoChain k')) (d_acons (d_isE (T.xc k') hz hfl rfl (Or.inl rfl) (if_pos rfl) rfl T.b_isinstance rfl T.x_NoTile (T.kit_NoTile k')) d_anil))))
    (d_one' (d_ret (d_index rfl (by have q := hu5 hr; exact q) (d_add rfl (d_var 5 (pv 5)) (d_lst (d_acons (d_isE (T.xc k') hz hfl rfl (Or.inl rfl) (if_pos rfl) rfl T.b_isinstance rfl T.x_NoSide (T.kit_NoSide k')) (d_acons (d_isE (T.xc k') hz hfl rfl (Or.inl rfl) (if_pos rfl) rfl T.b_isinstance rfl T.x_NoFit (T.kit_NoFit k')) d_anil)))) d_bl))))))
    (d_one' (d_ret d_non)))
theorem ok_law (T : Txt kc mg A FD) : FnOk P w kc.K mg base (L2.CX P w) 8 (A 21) (FD 21) ["script"] (spV kc 1 F_law) :=
  fnV (N := N_law) (k := 7) (g := g_law) T.F_law sc_law fun cdv Ar outer s H E hr =>
    (d_cons (d_asg (i := 1) sc_law.nd rfl (by first | exact Or.inl rfl | exact Or.inr rfl) rfl (d_call0 (ok_law_chain T) (hr.mono (by decide)) (takes_of rfl rfl rfl rfl) rfl T.m_law_chain T.F_law_chain.kp T.n_law_chain (d_acons (d_var 0 (pv 0)) (d_acons d_int (d_acons (d_call0 (ok_law_tiles T) (hr.mono (by decide)) (takes_of rfl rfl rfl rfl) rfl T.m_law_tiles T.F_law_tiles.kp T.n_law_tiles (d_acons (d_var 0 (pv 0)) (d_acons d_int d_anil)) (len_cons (len_cons len_nil))) d_anil))) (len_cons (len_cons (len_cons len_nil)))))
    (d_cons (d_asg (i := 2) sc_law.nd rfl (by first | exact Or.inl rfl | exact Or.inr rfl) rfl (d_list rfl rfl T.b_list (d_var 1 (pv 1))))
    (d_cons (d_if (d_cmpT (op_neD hr.units) neF_ok (d_call0 (ok_ends T) (hr.mono (by decide)) (takes_of rfl rfl rfl rfl) rfl T.m_ends T.F_ends.kp T.n_ends (d_acons (d_var 1 (pv 1)) d_anil) (len_cons len_nil)) (d_ife (d_cmpT (op_neD hr.units) neF_ok (d_var 1 (pv 1)) (d_lst d_anil) (nomark _)) (d_tup (d_acons (d_ix rfl (d_ix rfl (d_var 1 (pv 1)) d_int (fun _ _ => rfl)) d_int (fun _ _ => rfl)) (d_acons (d_ix rfl (d_ix rfl (d_var 1 (pv 1)) (d_neg d_int) (fun _ _ => rfl)) d_int (fun _ _ => rfl)) d_anil))) d_non) (nomark _)) (d_one' (d_ret d_bl)) d_nil)
    (d_cons (d_if (d_cmpT (op_neD hr.units) neF_ok (d_call0 (ok_tiles_of T) (hr.mono (by decide)) (takes_of rfl rfl rfl rfl) rfl T.m_tiles_of T.F_tiles_of.kp T.n_tiles_of (d_acons (d_var 1 (pv 1)) d_anil) (len_cons len_nil)) (d_sorted rfl hr.units rfl T.b_sorted (d_comp (own := [("pair", 3)]) rfl sc_law.nd (fun _ _ => rfl) (fun _ h => h) (d_iseq rfl (d_var 1 (pv 1))) (blkOk_by (own := [("pair", 3)]) (N := N_law) (sc := defScope s_law) (by decide +kernel)) (fun _ _ _ _ _ => (d_gname (pg_name (i := 3) sc_law.nd rfl (by first | exact Or.inl rfl | exact Or.inr rfl)) rfl)) (fun _ _ _ _ _ => d_tnil) (fun _ _ _ _ _ => (d_tup (d_acons (d_min rfl rfl hr.units rfl T.b_min (d_var 3 (pv 3))) (d_acons (d_max rfl rfl hr.units rfl T.b_max (d_var 3 (pv 3))) d_anil)))))) (nomark _)) (d_one' (d_ret d_bl)) d_nil)
    (d_cons (d_for (passes_of rfl) rfl (d_irng1 rfl T.b_range (d_acons d_int d_anil)) (d_gname (pg_name (i := 4) sc_law.nd rfl (by first | exact Or.inl rfl | exact Or.inr rfl)) rfl) (d_cons (d_par (i := 5) (j := 6) rfl sc_law.nd rfl rfl (by decide) rfl rfl rfl rfl (d_acons (d_call0 (ok_law_drawn T) (hr.mono (by decide)) (takes_of rfl rfl rfl rfl) rfl T.m_law_drawn T.F_law_drawn.kp T.n_law_drawn (d_acons (d_var 0 (pv 0)) (d_acons (d_add rfl d_int (d_mul rfl d_int (d_var 4 (pv 4)))) (d_acons d_int d_anil))) (len_cons (len_cons (len_cons len_nil)))) (d_acons (d_call0 (ok_law_drawn T) (hr.mono (by decide)) (takes_of rfl rfl rfl rfl) rfl T.m_law_drawn T.F_law_drawn.kp T.n_law_drawn (d_acons (d_var 0 (pv 0)) (d_acons (d_add rfl d_int (d_mul rfl d_int (d_var 4 (pv 4)))) (d_acons d_int d_anil))) (len_cons (len_cons (len_cons len_nil)))) d_anil)) rfl)
    (d_cons (d_asg (i := 7) sc_law.nd rfl (by first | exact Or.inl rfl | exact Or.inr rfl) rfl (d_tup (d_acons (d_min2 rfl rfl T.b_min (d_var 5 (pv 5)) (d_var 6 (pv 6))) (d_acons (d_max2 rfl rfl T.b_max (d_var 5 (pv 5)) (d_var 6 (pv 6))) d_anil))))
    (d_cons (d_asg (i := 8) sc_law.nd rfl (by first | exact Or.inl rfl | exact Or.inr rfl) rfl (d_call0 (ok_law_fits T) (hr.mono (by decide)) (takes_of rfl rfl rfl rfl) rfl T.m_law_fits T.F_law_fits.kp T.n_law_fits (d_acons (d_var 1 (pv 1)) (d_acons (d_var 7 (pv 7)) d_anil)) (len_cons (len_cons len_nil))))
    (d_cons (d_if (d_cmpT (op_neD hr.units) neF_ok (d_call0 (ok_fits T) (hr.mono (by decide)) (takes_of rfl rfl rfl rfl) rfl T.m_fits T.F_fits.kp T.n_fits (d_acons (d_var 1 (pv 1)) (d_acons (d_var 7 (pv 7)) d_anil)) (len_cons (len_cons len_nil))) (d_var 8 (pv 8)) (nomark _)) (d_one' (d_ret d_bl)) d_nil)
    (d_cons (d_for (passes_of rfl) rfl (d_iseq rfl (d_tup (d_acons d_str (d_acons d_str d_anil)))) (d_gname (pg_name (i := 9) sc_law.nd rfl (by first | exact Or.inl rfl | exact Or.inr rfl)) rfl) (d_cons (d_if (PW.pt (d_andT (d_cmpT (op_inAll (hu5 hr)) inF_ok (d_var 9 (pv 9)) (d_var 8 (pv 8)) rfl) (d_and1T (d_cmpT (op_neD hr.units) neF_ok (d_call0 (ok_lay T) (hr.mono (by decide)) (takes_of rfl rfl rfl rfl) rfl T.m_lay T.F_lay.kp T.n_lay (d_acons (d_var 1 (pv 1)) (d_acons (d_var 7 (pv 7)) (d_acons (d_var 9 (pv 9)) d_anil))) (len_cons (len_cons (len_cons len_nil)))) (d_call0 (ok_law_laid T) (hr.mono (by decide)) (takes_of rfl rfl rfl rfl) rfl T.m_law_laid T.F_law_laid.kp T.n_law_laid (d_acons (d_var 1 (pv 1)) (d_acons (d_var 7 (pv 7)) (d_acons (d_var 9 (pv 9)) d_anil))) (len_cons (len_cons (len_cons len_nil)))) (nomark _))))) (d_one' (d_ret d_bl)) d_nil)
    (d_one' (d_if (PW.pt (d_andT (d_cmpT (op_notInAll (hu5 hr)) notInF_ok (d_var 9 (pv 9)) (d_var 8 (pv 8)) rfl) (d_and1T (d_cmpT (op_neD hr.units) neF_ok (d_call0 (ok_law_no T) (hr.mono (by decide)) (takes_of rfl rfl rfl rfl) rfl T.m_law_no T.F_law_no.kp T.n_law_no (d_acons d_int (d_acons (d_var 1 (pv 1)) (d_acons (d_var 7 (pv 7)) (d_acons (d_var 9 (pv 9)) d_anil)))) (len_cons (len_cons (len_cons (len_cons len_nil))))) d_int (nomark _))))) (d_one' (d_ret d_bl)) d_nil))))
    (d_cons (d_if (PW.pt (d_andT (d_cmpT (op_inAll (hu5 hr)) inF_ok d_str (d_var 8 (pv 8)) rfl) (d_and1T (d_cmpT (op_neD hr.units) neF_ok (d_call (dds := [(.str "right")]) rfl (ok_lay T) (hr.mono (by decide)) (takes_of rfl rfl rfl rfl) rfl T.m_lay T.F_lay.kp T.d_lay_2.choose_spec.2 T.d_lay_2.choose_spec.1 (fun _ => (.cons (.str _) .nil)) (d_acons (d_var 1 (pv 1)) (d_acons (d_var 7 (pv 7)) d_anil)) (len_cons (len_cons len_nil))) (d_callK (n := 2) (ok_lay T) rfl (hr.mono (by decide)) (takes_of rfl rfl rfl rfl) rfl T.m_lay T.F_lay.kp T.k_lay_2.choose_spec (d_acons (d_var 1 (pv 1)) (d_acons (d_var 7 (pv 7)) d_anil)) (d_kcons d_str d_knil) (len_cons (len_cons len_nil)) (len_cons len_nil)) (nomark _))))) (d_one' (d_ret d_bl)) d_nil)
    (d_one' (d_if (d_cmpT (op_neD hr.units) neF_ok (d_var 1 (pv 1)) (d_var 2 (pv 2)) (nomark _)) (d_one' (d_ret d_bl)) d_nil)))))))))
    (d_cons (d_asg (i := 10) sc_law.nd rfl (by first | exact Or.inl rfl | exact Or.inr rfl) rfl (d_ix rfl (d_lst (d_acons d_non (d_acons (d_tuple rfl rfl T.b_tuple (d_var 1 (pv 1))) (d_acons (d_lst (d_acons (d_tup (d_acons d_int (d_acons d_int d_anil))) d_anil)) (d_acons (d_lst (d_acons (d_tup (d_acons d_int (d_acons d_int d_anil))) (d_acons (d_tup (d_acons d_int (d_acons d_int d_anil))) d_anil))) d_anil))))) (d_call0 (ok_law_drawn T) (hr.mono (by decide)) (takes_of rfl rfl rfl rfl) rfl T.m_law_drawn T.F_law_drawn.kp T.n_law_drawn (d_acons (d_var 0 (pv 0)) (d_acons d_int (d_acons d_int d_anil))) (len_cons (len_cons (len_cons len_nil)))) (fun _ _ => rfl)))
    (d_cons (d_asg (i := 11) sc_law.nd rfl (by first | exact Or.inl rfl | exact Or.inr rfl) rfl (d_ix rfl (d_lst (d_acons d_non (d_acons (d_tup (d_acons d_int (d_acons d_int d_anil))) (d_acons (d_lst (d_acons d_int (d_acons d_int d_anil))) (d_acons (d_tup (d_acons d_int (d_acons d_int d_anil))) (d_acons d_str d_anil)))))) (d_call0 (ok_law_drawn T) (hr.mono (by decide)) (takes_of rfl rfl rfl rfl) rfl T.m_law_drawn T.F_law_drawn.kp T.n_law_drawn (d_acons (d_var 0 (pv 0)) (d_acons d_int (d_acons d_int d_anil))) (len_cons (len_cons (len_cons len_nil)))) (fun _ _ => rfl)))
    (d_cons (d_asg (i := 12) sc_law.nd rfl (by first | exact Or.inl rfl | exact Or.inr rfl) rfl (d_ix rfl (d_lst (d_acons d_non (d_acons d_str (d_acons d_int (d_acons (d_tup (d_acons d_str d_anil)) (d_acons d_str d_anil)))))) (d_call0 (ok_law_drawn T) (hr.mono (by decide)) (takes_of rfl rfl rfl rfl) rfl T.m_law_drawn T.F_law_drawn.kp T.n_law_drawn (d_acons (d_var 0 (pv 0)) (d_acons d_int (d_acons d_int d_anil))) (len_cons (len_cons (len_cons len_nil)))) (fun _ _ => rfl)))
    (d_cons (d_if (d_cmpT (op_neD hr.units) neF_ok (d_comp (own := [("way", 13)]) rfl sc_law.nd (fun _ _ => rfl) (fun _ h => h) (d_irng1 rfl T.b_range (d_acons d_int d_anil)) (blkOk_by (own := [("way", 13)]) (N := N_law) (sc := defScope s_law) (by decide +kernel)) (fun _ _ _ _ _ => (d_gname (pg_name (i := 13) sc_law.nd rfl (by first | exact Or.inl rfl | exact Or.inr rfl)) rfl)) (fun _ _ _ _ _ => d_tnil) (fun _ _ _ _ _ => (d_call0 (ok_law_no T) (hr.mono (by decide)) takes0 rfl T.m_law_no T.F_law_no.kp T.n_law_no (d_acons (d_var 13 (pv 13)) (d_acons (d_var 10 (pv 10)) (d_acons (d_var 11 (pv 11)) (d_acons (d_var 12 (pv 12)) d_anil)))) (len_cons (len_cons (len_cons (len_cons len_nil))))))) (d_mul rfl (d_lst (d_acons d_int d_anil)) d_int) (nomark _)) (d_one' (d_ret d_bl)) d_nil)
    (d_cons (d_if (d_cmpT (op_neD hr.units) neF_ok (d_lst (d_acons (d_call0 (ok_law_no T) (hr.mono (by decide)) (takes_of rfl rfl rfl rfl) rfl T.m_law_no T.F_law_no.kp T.n_law_no (d_acons d_int (d_acons (d_var 1 (pv 1)) (d_acons (d_var 11 (pv 11)) (d_acons d_non d_anil)))) (len_cons (len_cons (len_cons (len_cons len_nil))))) (d_acons (d_call0 (ok_law_no T) (hr.mono (by decide)) (takes_of rfl rfl rfl rfl) rfl T.m_law_no T.F_law_no.kp T.n_law_no (d_acons d_int (d_acons (d_var 1 (pv 1)) (d_acons (d_var 11 (pv 11)) (d_acons (d_var 12 (pv 12)) d_anil)))) (len_cons (len_cons (len_cons (len_cons len_nil))))) d_anil))) (d_lst (d_acons d_int (d_acons d_int d_anil))) (nomark _)) (d_one' (d_ret d_bl)) d_nil)
    (d_cons (d_if (d_cmpT (op_neD hr.units) neF_ok (d_call0 (ok_law_no T) (hr.mono (by decide)) (takes_of rfl rfl rfl rfl) rfl T.m_law_no T.F_law_no.kp T.n_law_no (d_acons d_int (d_acons (d_var 1 (pv 1)) (d_acons (d_tup (d_acons d_int (d_acons d_int d_anil))) (d_acons (d_var 12 (pv 12)) d_anil)))) (len_cons (len_cons (len_cons (len_cons len_nil))))) d_int (nomark _)) (d_one' (d_ret d_bl)) d_nil)
    (d_cons (d_if (d_cmpT (op_neD hr.units) neF_ok (d_call0 (ok_lay T) (hr.mono (by decide)) (takes_of rfl rfl rfl rfl) rfl T.m_lay T.F_lay.kp T.n_lay (d_acons (d_lst d_anil) (d_acons (d_tup (d_acons d_int (d_acons d_int d_anil))) (d_acons d_str d_anil))) (len_cons (len_cons (len_cons len_nil)))) (d_lst (d_acons (d_tup (d_acons d_int (d_acons d_int d_anil))) d_anil)) (nomark _)) (d_one' (d_ret d_bl)) d_nil)
    (d_one' (d_ret (d_cmp (op_eqD hr.units) eqF_ok (d_callK (n := 2) (ok_lay T) rfl (hr.mono (by decide)) (takes_of rfl rfl rfl rfl) rfl T.m_lay T.F_lay.kp T.k_lay_2.choose_spec (d_acons (d_lst (d_acons (d_tup (d_acons d_int (d_acons d_int d_anil))) d_anil)) (d_acons (d_tup (d_acons d_int (d_acons d_int d_anil))) d_anil)) (d_kcons d_str d_knil) (len_cons (len_cons len_nil)) (len_cons len_nil)) (d_lst (d_acons (d_tup (d_acons d_int (d_acons d_int d_anil))) (d_acons (d_tup (d_acons d_int (d_acons d_int d_anil))) d_anil))) (nomark _))))))))))))))))
end
theorem all_mk {l : PySem.W.OpenLaw} {w : World} {K : PySem.W.Frag} {h : Heap} {mg : Str → Option Value} {fa C0 C1 C2 C3 C4 : Addr} (X : K.In h) (G : h.Ns mainGlobals mg) (hfa : mg "law" = some (.ref fa))
    {t_MOST : Tok} {a_SIDES : Addr} {od_SIDES : Option Addr} {n_SIDES : Nat} {sl_SIDES : Array (Option Value)} {t_SIDES_0 t_SIDES_1 : Tok} {f0 : Addr} {od0 an0 : Option Addr} {sl0 : Array (Option Value)} {oc0 kV0 dc0 pm0 cd0 ct0 : Value} {f1 : Addr} {od1 an1 : Option Addr} {sl1 : Array (Option Value)} {oc1 kV1 dc1 pm1 cd1 ct1 : Value} {f2 : Addr} {od2 an2 : Option Addr} {sl2 : Array (Option Value)} {oc2 kV2 dc2 pm2 cd2 ct2 : Value} {f3 : Addr} {od3 an3 : Option Addr} {sl3 : Array (Option Value)} {oc3 kV3 dc3 pm3 cd3 ct3 : Value} {f4 : Addr} {od4 an4 : Option Addr} {sl4 : Array (Option Value)} {oc4 kV4 dc4 pm4 cd4 ct4 : Value} {f5 : Addr} {od5 an5 : Option Addr} {sl5 : Array (Option Value)} {oc5 kV5 dc5 pm5 cd5 ct5 : Value} {f6 : Addr} {od6 an6 : Option Addr} {sl6 : Array (Option Value)} {oc6 kV6 dc6 pm6 cd6 ct6 : Value} {f7 : Addr} {od7 an7 : Option Addr} {sl7 : Array (Option Value)} {oc7 kV7 dc7 pm7 cd7 ct7 : Value} {f8 : Addr} {od8 an8 : Option Addr} {sl8 : Array (Option Value)} {oc8 kV8 dc8 pm8 cd8 ct8 : Value} {f9 : Addr} {od9 an9 : Option Addr} {sl9 : Array (Option Value)} {oc9 kV9 dc9 pm9 cd9 ct9 : Value} {f10 : Addr} {od10 an10 : Option Addr} {sl10 : Array (Option Value)} {oc10 kV10 dc10 pm10 cd10 ct10 : Value} {f11 : Addr} {od11 an11 : Option Addr} {sl11 : Array (Option Value)} {oc11 kV11 dc11 pm11 cd11 ct11 : Value} {dT12 : Addr} {dod12 : Option Addr} {dn12 : Nat} {dsl12 : Array (Option Value)} {dt12_0 : Tok} {f12 : Addr} {od12 an12 : Option Addr} {sl12 : Array (Option Value)} {oc12 kV12 dc12 pm12 cd12 ct12 : Value} {f13 : Addr} {od13 an13 : Option Addr} {sl13 : Array (Option Value)} {oc13 kV13 dc13 pm13 cd13 ct13 : Value} {f14 : Addr} {od14 an14 : Option Addr} {sl14 : Array (Option Value)} {oc14 kV14 dc14 pm14 cd14 ct14 : Value} {f15 : Addr} {od15 an15 : Option Addr} {sl15 : Array (Option Value)} {oc15 kV15 dc15 pm15 cd15 ct15 : Value} {f16 : Addr} {od16 an16 : Option Addr} {sl16 : Array (Option Value)} {oc16 kV16 dc16 pm16 cd16 ct16 : Value} {f17 : Addr} {od17 an17 : Option Addr} {sl17 : Array (Option Value)} {oc17 kV17 dc17 pm17 cd17 ct17 : Value} {f18 : Addr} {od18 an18 : Option Addr} {sl18 : Array (Option Value)} {oc18 kV18 dc18 pm18 cd18 ct18 : Value} {f19 : Addr} {od19 an19 : Option Addr} {sl19 : Array (Option Value)} {oc19 kV19 dc19 pm19 cd19 ct19 : Value} {f20 : Addr} {od20 an20 : Option Addr} {sl20 : Array (Option Value)} {oc20 kV20 dc20 pm20 cd20 ct20 : Value} {f21 : Addr} {od21 an21 : Option Addr} {sl21 : Array (Option Value)} {oc21 kV21 dc21 pm21 cd21 ct21 : Value}
    (zb_all : PySem.W.nsIn K mainGlobals "all" = some none)
    (zb_bool : PySem.W.nsIn K mainGlobals "bool" = some none)
    (zb_enumerate : PySem.W.nsIn K mainGlobals "enumerate" = some none)
    (zb_int : PySem.W.nsIn K mainGlobals "int" = some none)
    (zb_isinstance : PySem.W.nsIn K mainGlobals "isinstance" = some none)
    (zb_len : PySem.W.nsIn K mainGlobals "len" = some none)
    (zb_list : PySem.W.nsIn K mainGlobals "list" = some none)
    (zb_max : PySem.W.nsIn K mainGlobals "max" = some none)
    (zb_min : PySem.W.nsIn K mainGlobals "min" = some none)
    (zb_range : PySem.W.nsIn K mainGlobals "range" = some none)
    (zb_set : PySem.W.nsIn K mainGlobals "set" = some none)
    (zb_sorted : PySem.W.nsIn K mainGlobals "sorted" = some none)
    (zb_str : PySem.W.nsIn K mainGlobals "str" = some none)
    (zb_tuple : PySem.W.nsIn K mainGlobals "tuple" = some none)
    (zb_zip : PySem.W.nsIn K mainGlobals "zip" = some none)
    (zc_MOST : PySem.W.nsIn K mainGlobals "MOST" = some (some (.int 6 t_MOST)))
    (zc_SIDES : PySem.W.nsIn K mainGlobals "SIDES" = some (some (.ref a_SIDES)))
    (zo_SIDES : K.lookup a_SIDES = some ⟨.type "tuple", od_SIDES, .seq #[.str "left" t_SIDES_0, .str "right" t_SIDES_1] n_SIDES, sl_SIDES⟩)
    (zx_NoChain : PySem.W.nsIn K mainGlobals "NoChain" = some (some (.ref C2)))
    (zx_NoFit : PySem.W.nsIn K mainGlobals "NoFit" = some (some (.ref C4)))
    (zx_NoSide : PySem.W.nsIn K mainGlobals "NoSide" = some (some (.ref C3)))
    (zx_NoTile : PySem.W.nsIn K mainGlobals "NoTile" = some (some (.ref C1)))
    (zx_TileError : PySem.W.nsIn K mainGlobals "TileError" = some (some (.ref C0)))
    (zq_NoChain : PySem.W.excIn K C2 [.type "ValueError", .type "Exception", .type "BaseException", .type "object"] "ValueError.__new__" = true)
    (zk_NoChain : PySem.W.keepIn K (.ref C2) = true)
    (zB_NoChain : PySem.W.subIn K (.ref C2) (.type "BaseException") = some true)
    (zt_NoChain : PySem.W.typeIn K (.ref C2) = some (.type "type"))
    (zq_NoFit : PySem.W.excIn K C4 [.type "ValueError", .type "Exception", .type "BaseException", .type "object"] "ValueError.__new__" = true)
    (zk_NoFit : PySem.W.keepIn K (.ref C4) = true)
    (zB_NoFit : PySem.W.subIn K (.ref C4) (.type "BaseException") = some true)
    (zt_NoFit : PySem.W.typeIn K (.ref C4) = some (.type "type"))
    (zq_NoSide : PySem.W.excIn K C3 [.type "ValueError", .type "Exception", .type "BaseException", .type "object"] "ValueError.__new__" = true)
    (zk_NoSide : PySem.W.keepIn K (.ref C3) = true)
    (zB_NoSide : PySem.W.subIn K (.ref C3) (.type "BaseException") = some true)
    (zt_NoSide : PySem.W.typeIn K (.ref C3) = some (.type "type"))
    (zq_NoTile : PySem.W.excIn K C1 [.type "ValueError", .type "Exception", .type "BaseException", .type "object"] "ValueError.__new__" = true)
    (zk_NoTile : PySem.W.keepIn K (.ref C1) = true)
    (zB_NoTile : PySem.W.subIn K (.ref C1) (.type "BaseException") = some true)
    (zt_NoTile : PySem.W.typeIn K (.ref C1) = some (.type "type"))
    (ze0_g : PySem.W.findIn K (.ref C0) "__getattribute__" = some (some (.builtin "BaseException.__getattribute__")))
    (ze0_k : PySem.W.findIn K (.ref C0) "__getattr__" = some none)
    (ze0_s : PySem.W.subIn K (.ref C0) (.type "BaseException") = some true)
    (ze0_d : PySem.W.hasDictIn K C0 = true)
    (ze0_a : PySem.W.findIn K (.ref C0) "__class__" = some (some (.builtin "object.__class__")))
    (ze0_m : PySem.W.mroIn K C0 (.type "object") = some true)
    (ze1_g : PySem.W.findIn K (.ref C1) "__getattribute__" = some (some (.builtin "BaseException.__getattribute__")))
    (ze1_k : PySem.W.findIn K (.ref C1) "__getattr__" = some none)
    (ze1_s : PySem.W.subIn K (.ref C1) (.type "BaseException") = some true)
    (ze1_d : PySem.W.hasDictIn K C1 = true)
    (ze1_a : PySem.W.findIn K (.ref C1) "__class__" = some (some (.builtin "object.__class__")))
    (ze1_m : PySem.W.mroIn K C1 (.type "object") = some true)
    (ze2_g : PySem.W.findIn K (.ref C2) "__getattribute__" = some (some (.builtin "BaseException.__getattribute__")))
    (ze2_k : PySem.W.findIn K (.ref C2) "__getattr__" = some none)
    (ze2_s : PySem.W.subIn K (.ref C2) (.type "BaseException") = some true)
    (ze2_d : PySem.W.hasDictIn K C2 = true)
    (ze2_a : PySem.W.findIn K (.ref C2) "__class__" = some (some (.builtin "object.__class__")))
    (ze2_m : PySem.W.mroIn K C2 (.type "object") = some true)
    (ze3_g : PySem.W.findIn K (.ref C3) "__getattribute__" = some (some (.builtin "BaseException.__getattribute__")))
    (ze3_k : PySem.W.findIn K (.ref C3) "__getattr__" = some none)
    (ze3_s : PySem.W.subIn K (.ref C3) (.type "BaseException") = some true)
    (ze3_d : PySem.W.hasDictIn K C3 = true)
    (ze3_a : PySem.W.findIn K (.ref C3) "__class__" = some (some (.builtin "object.__class__")))
    (ze3_m : PySem.W.mroIn K C3 (.type "object") = some true)
    (ze4_g : PySem.W.findIn K (.ref C4) "__getattribute__" = some (some (.builtin "BaseException.__getattribute__")))
    (ze4_k : PySem.W.findIn K (.ref C4) "__getattr__" = some none)
    (ze4_s : PySem.W.subIn K (.ref C4) (.type "BaseException") = some true)
    (ze4_d : PySem.W.hasDictIn K C4 = true)
    (ze4_a : PySem.W.findIn K (.ref C4) "__class__" = some (some (.builtin "object.__class__")))
    (ze4_m : PySem.W.mroIn K C4 (.type "object") = some true)
    (ze_n : PySem.W.specialIn K (.builtin "object.__class__") "__get__" = some (some (.builtin "getset_descriptor.__get__")))
    (ze_t : PySem.W.takesIn K (.builtin "object.__class__") = some true)
    (zKd_NoChain : PySem.W.hasDictIn K C2 = true)
    (zKt_NoChain : PySem.W.typeIn K (.ref C2) = some (.type "type"))
    (zKb_NoChain : PySem.W.subIn K (.ref C2) (.type "BaseException") = some true)
    (zS_NoChain_0 : PySem.W.subIn K (.ref C0) (.ref C2) = some false)
    (zS_NoChain_1 : PySem.W.subIn K (.ref C1) (.ref C2) = some false)
    (zS_NoChain_2 : PySem.W.subIn K (.ref C2) (.ref C2) = some true)
    (zS_NoChain_3 : PySem.W.subIn K (.ref C3) (.ref C2) = some false)
    (zS_NoChain_4 : PySem.W.subIn K (.ref C4) (.ref C2) = some false)
    (zKd_NoFit : PySem.W.hasDictIn K C4 = true)
    (zKt_NoFit : PySem.W.typeIn K (.ref C4) = some (.type "type"))
    (zKb_NoFit : PySem.W.subIn K (.ref C4) (.type "BaseException") = some true)
    (zS_NoFit_0 : PySem.W.subIn K (.ref C0) (.ref C4) = some false)
    (zS_NoFit_1 : PySem.W.subIn K (.ref C1) (.ref C4) = some false)
    (zS_NoFit_2 : PySem.W.subIn K (.ref C2) (.ref C4) = some false)
    (zS_NoFit_3 : PySem.W.subIn K (.ref C3) (.ref C4) = some false)
    (zS_NoFit_4 : PySem.W.subIn K (.ref C4) (.ref C4) = some true)
    (zKd_NoSide : PySem.W.hasDictIn K C3 = true)
    (zKt_NoSide : PySem.W.typeIn K (.ref C3) = some (.type "type"))
    (zKb_NoSide : PySem.W.subIn K (.ref C3) (.type "BaseException") = some true)
    (zS_NoSide_0 : PySem.W.subIn K (.ref C0) (.ref C3) = some false)
    (zS_NoSide_1 : PySem.W.subIn K (.ref C1) (.ref C3) = some false)
    (zS_NoSide_2 : PySem.W.subIn K (.ref C2) (.ref C3) = some false)
    (zS_NoSide_3 : PySem.W.subIn K (.ref C3) (.ref C3) = some true)
    (zS_NoSide_4 : PySem.W.subIn K (.ref C4) (.ref C3) = some false)
    (zKd_NoTile : PySem.W.hasDictIn K C1 = true)
    (zKt_NoTile : PySem.W.typeIn K (.ref C1) = some (.type "type"))
    (zKb_NoTile : PySem.W.subIn K (.ref C1) (.type "BaseException") = some true)
    (zS_NoTile_0 : PySem.W.subIn K (.ref C0) (.ref C1) = some false)
    (zS_NoTile_1 : PySem.W.subIn K (.ref C1) (.ref C1) = some true)
    (zS_NoTile_2 : PySem.W.subIn K (.ref C2) (.ref C1) = some false)
    (zS_NoTile_3 : PySem.W.subIn K (.ref C3) (.ref C1) = some false)
    (zS_NoTile_4 : PySem.W.subIn K (.ref C4) (.ref C1) = some false)
    (zKd_TileError : PySem.W.hasDictIn K C0 = true)
    (zKt_TileError : PySem.W.typeIn K (.ref C0) = some (.type "type"))
    (zKb_TileError : PySem.W.subIn K (.ref C0) (.type "BaseException") = some true)
    (zS_TileError_0 : PySem.W.subIn K (.ref C0) (.ref C0) = some true)
    (zS_TileError_1 : PySem.W.subIn K (.ref C1) (.ref C0) = some true)
    (zS_TileError_2 : PySem.W.subIn K (.ref C2) (.ref C0) = some true)
    (zS_TileError_3 : PySem.W.subIn K (.ref C3) (.ref C0) = some true)
    (zS_TileError_4 : PySem.W.subIn K (.ref C4) (.ref C0) = some true)
    (za0 : PySem.W.nsIn K mainGlobals "is_number" = some (some (.ref f0)))
    (zl0 : K.lookup f0 = some ⟨oc0, od0, .func (PySem.W.fnOf "is_number" "is_number" (defArgs s_is_number) (defBody s_is_number) (defScope s_is_number) .none kV0 dc0 pm0 an0 cd0 ct0), sl0⟩)
    (zd0 : PySem.W.codeIn K cd0 "is_number" = true)
    (zp0 : PySem.W.keepIn K (.ref f0) = true)
    (za1 : PySem.W.nsIn K mainGlobals "is_pair" = some (some (.ref f1)))
    (zl1 : K.lookup f1 = some ⟨oc1, od1, .func (PySem.W.fnOf "is_pair" "is_pair" (defArgs s_is_pair) (defBody s_is_pair) (defScope s_is_pair) .none kV1 dc1 pm1 an1 cd1 ct1), sl1⟩)
    (zd1 : PySem.W.codeIn K cd1 "is_pair" = true)
    (zp1 : PySem.W.keepIn K (.ref f1) = true)
    (za2 : PySem.W.nsIn K mainGlobals "is_tile" = some (some (.ref f2)))
    (zl2 : K.lookup f2 = some ⟨oc2, od2, .func (PySem.W.fnOf "is_tile" "is_tile" (defArgs s_is_tile) (defBody s_is_tile) (defScope s_is_tile) .none kV2 dc2 pm2 an2 cd2 ct2), sl2⟩)
    (zd2 : PySem.W.codeIn K cd2 "is_tile" = true)
    (zp2 : PySem.W.keepIn K (.ref f2) = true)
    (za3 : PySem.W.nsIn K mainGlobals "tile_of" = some (some (.ref f3)))
    (zl3 : K.lookup f3 = some ⟨oc3, od3, .func (PySem.W.fnOf "tile_of" "tile_of" (defArgs s_tile_of) (defBody s_tile_of) (defScope s_tile_of) .none kV3 dc3 pm3 an3 cd3 ct3), sl3⟩)
    (zd3 : PySem.W.codeIn K cd3 "tile_of" = true)
    (zp3 : PySem.W.keepIn K (.ref f3) = true)
    (za4 : PySem.W.nsIn K mainGlobals "need_tile" = some (some (.ref f4)))
    (zl4 : K.lookup f4 = some ⟨oc4, od4, .func (PySem.W.fnOf "need_tile" "need_tile" (defArgs s_need_tile) (defBody s_need_tile) (defScope s_need_tile) .none kV4 dc4 pm4 an4 cd4 ct4), sl4⟩)
    (zd4 : PySem.W.codeIn K cd4 "need_tile" = true)
    (zp4 : PySem.W.keepIn K (.ref f4) = true)
    (za5 : PySem.W.nsIn K mainGlobals "is_chain" = some (some (.ref f5)))
    (zl5 : K.lookup f5 = some ⟨oc5, od5, .func (PySem.W.fnOf "is_chain" "is_chain" (defArgs s_is_chain) (defBody s_is_chain) (defScope s_is_chain) .none kV5 dc5 pm5 an5 cd5 ct5), sl5⟩)
    (zd5 : PySem.W.codeIn K cd5 "is_chain" = true)
    (zp5 : PySem.W.keepIn K (.ref f5) = true)
    (za6 : PySem.W.nsIn K mainGlobals "need_chain" = some (some (.ref f6)))
    (zl6 : K.lookup f6 = some ⟨oc6, od6, .func (PySem.W.fnOf "need_chain" "need_chain" (defArgs s_need_chain) (defBody s_need_chain) (defScope s_need_chain) .none kV6 dc6 pm6 an6 cd6 ct6), sl6⟩)
    (zd6 : PySem.W.codeIn K cd6 "need_chain" = true)
    (zp6 : PySem.W.keepIn K (.ref f6) = true)
    (za7 : PySem.W.nsIn K mainGlobals "ends" = some (some (.ref f7)))
    (zl7 : K.lookup f7 = some ⟨oc7, od7, .func (PySem.W.fnOf "ends" "ends" (defArgs s_ends) (defBody s_ends) (defScope s_ends) .none kV7 dc7 pm7 an7 cd7 ct7), sl7⟩)
    (zd7 : PySem.W.codeIn K cd7 "ends" = true)
    (zp7 : PySem.W.keepIn K (.ref f7) = true)
    (za8 : PySem.W.nsIn K mainGlobals "tiles_of" = some (some (.ref f8)))
    (zl8 : K.lookup f8 = some ⟨oc8, od8, .func (PySem.W.fnOf "tiles_of" "tiles_of" (defArgs s_tiles_of) (defBody s_tiles_of) (defScope s_tiles_of) .none kV8 dc8 pm8 an8 cd8 ct8), sl8⟩)
    (zd8 : PySem.W.codeIn K cd8 "tiles_of" = true)
    (zp8 : PySem.W.keepIn K (.ref f8) = true)
    (za9 : PySem.W.nsIn K mainGlobals "fits" = some (some (.ref f9)))
    (zl9 : K.lookup f9 = some ⟨oc9, od9, .func (PySem.W.fnOf "fits" "fits" (defArgs s_fits) (defBody s_fits) (defScope s_fits) .none kV9 dc9 pm9 an9 cd9 ct9), sl9⟩)
    (zd9 : PySem.W.codeIn K cd9 "fits" = true)
    (zp9 : PySem.W.keepIn K (.ref f9) = true)
    (za10 : PySem.W.nsIn K mainGlobals "laid" = some (some (.ref f10)))
    (zl10 : K.lookup f10 = some ⟨oc10, od10, .func (PySem.W.fnOf "laid" "laid" (defArgs s_laid) (defBody s_laid) (defScope s_laid) .none kV10 dc10 pm10 an10 cd10 ct10), sl10⟩)
    (zd10 : PySem.W.codeIn K cd10 "laid" = true)
    (zp10 : PySem.W.keepIn K (.ref f10) = true)
    (za11 : PySem.W.nsIn K mainGlobals "need_side" = some (some (.ref f11)))
    (zl11 : K.lookup f11 = some ⟨oc11, od11, .func (PySem.W.fnOf "need_side" "need_side" (defArgs s_need_side) (defBody s_need_side) (defScope s_need_side) .none kV11 dc11 pm11 an11 cd11 ct11), sl11⟩)
    (zd11 : PySem.W.codeIn K cd11 "need_side" = true)
    (zp11 : PySem.W.keepIn K (.ref f11) = true)
    (za12 : PySem.W.nsIn K mainGlobals "lay" = some (some (.ref f12)))
    (zl12 : K.lookup f12 = some ⟨oc12, od12, .func (PySem.W.fnOf "lay" "lay" (defArgs s_lay) (defBody s_lay) (defScope s_lay) (.ref dT12) kV12 dc12 pm12 an12 cd12 ct12), sl12⟩)
    (zT12 : K.lookup dT12 = some ⟨.type "tuple", dod12, .seq #[.str "right" dt12_0] dn12, dsl12⟩)
    (zd12 : PySem.W.codeIn K cd12 "lay" = true)
    (zp12 : PySem.W.keepIn K (.ref f12) = true)
    (za13 : PySem.W.nsIn K mainGlobals "_law_drawn" = some (some (.ref f13)))
    (zl13 : K.lookup f13 = some ⟨oc13, od13, .func (PySem.W.fnOf "_law_drawn" "_law_drawn" (defArgs s_law_drawn) (defBody s_law_drawn) (defScope s_law_drawn) .none kV13 dc13 pm13 an13 cd13 ct13), sl13⟩)
    (zd13 : PySem.W.codeIn K cd13 "_law_drawn" = true)
    (zp13 : PySem.W.keepIn K (.ref f13) = true)
    (za14 : PySem.W.nsIn K mainGlobals "_law_set" = some (some (.ref f14)))
    (zl14 : K.lookup f14 = some ⟨oc14, od14, .func (PySem.W.fnOf "_law_set" "_law_set" (defArgs s_law_set) (defBody s_law_set) (defScope s_law_set) .none kV14 dc14 pm14 an14 cd14 ct14), sl14⟩)
    (zd14 : PySem.W.codeIn K cd14 "_law_set" = true)
    (zp14 : PySem.W.keepIn K (.ref f14) = true)
    (za15 : PySem.W.nsIn K mainGlobals "_law_order" = some (some (.ref f15)))
    (zl15 : K.lookup f15 = some ⟨oc15, od15, .func (PySem.W.fnOf "_law_order" "_law_order" (defArgs s_law_order) (defBody s_law_order) (defScope s_law_order) .none kV15 dc15 pm15 an15 cd15 ct15), sl15⟩)
    (zd15 : PySem.W.codeIn K cd15 "_law_order" = true)
    (zp15 : PySem.W.keepIn K (.ref f15) = true)
    (za16 : PySem.W.nsIn K mainGlobals "_law_tiles" = some (some (.ref f16)))
    (zl16 : K.lookup f16 = some ⟨oc16, od16, .func (PySem.W.fnOf "_law_tiles" "_law_tiles" (defArgs s_law_tiles) (defBody s_law_tiles) (defScope s_law_tiles) .none kV16 dc16 pm16 an16 cd16 ct16), sl16⟩)
    (zd16 : PySem.W.codeIn K cd16 "_law_tiles" = true)
    (zp16 : PySem.W.keepIn K (.ref f16) = true)
    (za17 : PySem.W.nsIn K mainGlobals "_law_fits" = some (some (.ref f17)))
    (zl17 : K.lookup f17 = some ⟨oc17, od17, .func (PySem.W.fnOf "_law_fits" "_law_fits" (defArgs s_law_fits) (defBody s_law_fits) (defScope s_law_fits) .none kV17 dc17 pm17 an17 cd17 ct17), sl17⟩)
    (zd17 : PySem.W.codeIn K cd17 "_law_fits" = true)
    (zp17 : PySem.W.keepIn K (.ref f17) = true)
    (za18 : PySem.W.nsIn K mainGlobals "_law_laid" = some (some (.ref f18)))
    (zl18 : K.lookup f18 = some ⟨oc18, od18, .func (PySem.W.fnOf "_law_laid" "_law_laid" (defArgs s_law_laid) (defBody s_law_laid) (defScope s_law_laid) .none kV18 dc18 pm18 an18 cd18 ct18), sl18⟩)
    (zd18 : PySem.W.codeIn K cd18 "_law_laid" = true)
    (zp18 : PySem.W.keepIn K (.ref f18) = true)
    (za19 : PySem.W.nsIn K mainGlobals "_law_chain" = some (some (.ref f19)))
    (zl19 : K.lookup f19 = some ⟨oc19, od19, .func (PySem.W.fnOf "_law_chain" "_law_chain" (defArgs s_law_chain) (defBody s_law_chain) (defScope s_law_chain) .none kV19 dc19 pm19 an19 cd19 ct19), sl19⟩)
    (zd19 : PySem.W.codeIn K cd19 "_law_chain" = true)
    (zp19 : PySem.W.keepIn K (.ref f19) = true)
    (za20 : PySem.W.nsIn K mainGlobals "_law_no" = some (some (.ref f20)))
    (zl20 : K.lookup f20 = some ⟨oc20, od20, .func (PySem.W.fnOf "_law_no" "_law_no" (defArgs s_law_no) (defBody s_law_no) (defScope s_law_no) .none kV20 dc20 pm20 an20 cd20 ct20), sl20⟩)
    (zd20 : PySem.W.codeIn K cd20 "_law_no" = true)
    (zp20 : PySem.W.keepIn K (.ref f20) = true)
    (za21 : PySem.W.nsIn K mainGlobals "law" = some (some (.ref f21)))
    (zl21 : K.lookup f21 = some ⟨oc21, od21, .func (PySem.W.fnOf "law" "law" (defArgs s_law) (defBody s_law) (defScope s_law) .none kV21 dc21 pm21 an21 cd21 ct21), sl21⟩)
    (zd21 : PySem.W.codeIn K cd21 "law" = true)
    (zp21 : PySem.W.keepIn K (.ref f21) = true)
    : ∃ fd : FuncData, (∀ (s : Shared) (v : Value), BindsTo s fd ⟨[v], []⟩ [("script", v)]) ∧ ∀ base : Heap, K.In base → base.Ns mainGlobals mg → FnOk l.prog w K mg base (L2.CX l.prog w) 8 fa fd ["script"] (spLaw K) := by
  have e := hfa.symm.trans (PySem.W.mg_of X G za21)
  cases e
  have T : Txt ⟨K, (fun k => ([C0, C1, C2, C3, C4] : List Addr).getD k C0)⟩ mg (fun k => ([f0, f1, f2, f3, f4, f5, f6, f7, f8, f9, f10, f11, f12, f13, f14, f15, f16, f17, f18, f19, f20, fa] : List Addr).getD k 0) (fun k => ([PySem.W.fnOf "is_number" "is_number" (defArgs s_is_number) (defBody s_is_number) (defScope s_is_number) .none kV0 dc0 pm0 an0 cd0 ct0, PySem.W.fnOf "is_pair" "is_pair" (defArgs s_is_pair) (defBody s_is_pair) (defScope s_is_pair) .none kV1 dc1 pm1 an1 cd1 ct1, PySem.W.fnOf "is_tile" "is_tile" (defArgs s_is_tile) (defBody s_is_tile) (defScope s_is_tile) .none kV2 dc2 pm2 an2 cd2 ct2, PySem.W.fnOf "tile_of" "tile_of" (defArgs s_tile_of) (defBody s_tile_of) (defScope s_tile_of) .none kV3 dc3 pm3 an3 cd3 ct3, PySem.W.fnOf "need_tile" "need_tile" (defArgs s_need_tile) (defBody s_need_tile) (defScope s_need_tile) .none kV4 dc4 pm4 an4 cd4 ct4, PySem.W.fnOf "is_chain" "is_chain" (defArgs s_is_chain) (defBody s_is_chain) (defScope s_is_chain) .none kV5 dc5 pm5 an5 cd5 ct5, PySem.W.fnOf "need_chain" "need_chain" (defArgs s_need_chain) (defBody s_need_chain) (defScope s_need_chain) .none kV6 dc6 pm6 an6 cd6 ct6, PySem.W.fnOf "ends" "ends" (defArgs s_ends) (defBody s_ends) (defScope s_ends) .none kV7 dc7 pm7 an7 cd7 ct7, PySem.W.fnOf "tiles_of" "tiles_of" (defArgs s_tiles_of) (defBody s_tiles_of) (defScope s_tiles_of) .none kV8 dc8 pm8 an8 cd8 ct8, PySem.W.fnOf "fits" "fits" (defArgs s_fits) (defBody s_fits) (defScope s_fits) .none kV9 dc9 pm9 an9 cd9 ct9, PySem.W.fnOf "laid" "laid" (defArgs s_laid) (defBody s_laid) (defScope s_laid) .none kV10 dc10 pm10 an10 cd10 ct10, PySem.W.fnOf "need_side" "need_side" (defArgs s_need_side) (defBody s_need_side) (defScope s_need_side) .none kV11 dc11 pm11 an11 cd11 ct11, PySem.W.fnOf "lay" "lay" (defArgs s_lay) (defBody s_lay) (defScope s_lay) (.ref dT12) kV12 dc12 pm12 an12 cd12 ct12, PySem.W.fnOf "_law_drawn" "_law_drawn" (defArgs s_law_drawn) (defBody s_law_drawn) (defScope s_law_drawn) .none kV13 dc13 pm13 an13 cd13 ct13, PySem.W.fnOf "_law_set" "_law_set" (defArgs s_law_set) (defBody s_law_set) (defScope s_law_set) .none kV14 dc14 pm14 an14 cd14 ct14, PySem.W.fnOf "_law_order" "_law_order" (defArgs s_law_order) (defBody s_law_order) (defScope s_law_order) .none kV15 dc15 pm15 an15 cd15 ct15, PySem.W.fnOf "_law_tiles" "_law_tiles" (defArgs s_law_tiles) (defBody s_law_tiles) (defScope s_law_tiles) .none kV16 dc16 pm16 an16 cd16 ct16, PySem.W.fnOf "_law_fits" "_law_fits" (defArgs s_law_fits) (defBody s_law_fits) (defScope s_law_fits) .none kV17 dc17 pm17 an17 cd17 ct17, PySem.W.fnOf "_law_laid" "_law_laid" (defArgs s_law_laid) (defBody s_law_laid) (defScope s_law_laid) .none kV18 dc18 pm18 an18 cd18 ct18, PySem.W.fnOf "_law_chain" "_law_chain" (defArgs s_law_chain) (defBody s_law_chain) (defScope s_law_chain) .none kV19 dc19 pm19 an19 cd19 ct19, PySem.W.fnOf "_law_no" "_law_no" (defArgs s_law_no) (defBody s_law_no) (defScope s_law_no) .none kV20 dc20 pm20 an20 cd20 ct20, PySem.W.fnOf "law" "law" (defArgs s_law) (defBody s_law) (defScope s_law) .none kV21 dc21 pm21 an21 cd21 ct21] : List FuncData).getD k (PySem.W.fnOf "law" "law" (defArgs s_law) (defBody s_law) (defScope s_law) .none kV21 dc21 pm21 an21 cd21 ct21)) :=
    { b_all := PySem.W.mg_none_of X G zb_all,
      b_bool := PySem.W.mg_none_of X G zb_bool,
      b_enumerate := PySem.W.mg_none_of X G zb_enumerate,
      b_int := PySem.W.mg_none_of X G zb_int,
      b_isinstance := PySem.W.mg_none_of X G zb_isinstance,
      b_len := PySem.W.mg_none_of X G zb_len,
      b_list := PySem.W.mg_none_of X G zb_list,
      b_max := PySem.W.mg_none_of X G zb_max,
      b_min := PySem.W.mg_none_of X G zb_min,
      b_range := PySem.W.mg_none_of X G zb_range,
      b_set := PySem.W.mg_none_of X G zb_set,
      b_sorted := PySem.W.mg_none_of X G zb_sorted,
      b_str := PySem.W.mg_none_of X G zb_str,
      b_tuple := PySem.W.mg_none_of X G zb_tuple,
      b_zip := PySem.W.mg_none_of X G zb_zip,
      c_MOST := glob_int (PySem.W.mg_of X G zc_MOST),
      c_SIDES := ⟨.ref a_SIDES, _, PySem.W.mg_of X G zc_SIDES, rfl, fun H => .tup (xs := [V.str "left", V.str "right"]) (.inr ⟨_, _, _, zo_SIDES, rfl, rfl, (show (2 : Nat) ≤ sizeLine from by decide), (.cons ⟨_, rfl⟩ (.cons ⟨_, rfl⟩ .nil))⟩) (.cons (.str _) (.cons (.str _) .nil))⟩,
      x_NoChain := PySem.W.mg_of X G zx_NoChain,
      x_NoFit := PySem.W.mg_of X G zx_NoFit,
      x_NoSide := PySem.W.mg_of X G zx_NoSide,
      x_NoTile := PySem.W.mg_of X G zx_NoTile,
      x_TileError := PySem.W.mg_of X G zx_TileError,
      xq_NoChain := zq_NoChain,
      xk_NoChain := zk_NoChain,
      xb_NoChain := zB_NoChain,
      xt_NoChain := zt_NoChain,
      xq_NoFit := zq_NoFit,
      xk_NoFit := zk_NoFit,
      xb_NoFit := zB_NoFit,
      xt_NoFit := zt_NoFit,
      xq_NoSide := zq_NoSide,
      xk_NoSide := zk_NoSide,
      xb_NoSide := zB_NoSide,
      xt_NoSide := zt_NoSide,
      xq_NoTile := zq_NoTile,
      xk_NoTile := zk_NoTile,
      xb_NoTile := zB_NoTile,
      xt_NoTile := zt_NoTile,
      xc := (fun k => match k with | 0 => ⟨ze0_g, ze0_k, ze0_s, ze0_d, ze0_a, ze_n, ze_t, ze0_m⟩ | 1 => ⟨ze1_g, ze1_k, ze1_s, ze1_d, ze1_a, ze_n, ze_t, ze1_m⟩ | 2 => ⟨ze2_g, ze2_k, ze2_s, ze2_d, ze2_a, ze_n, ze_t, ze2_m⟩ | 3 => ⟨ze3_g, ze3_k, ze3_s, ze3_d, ze3_a, ze_n, ze_t, ze3_m⟩ | 4 => ⟨ze4_g, ze4_k, ze4_s, ze4_d, ze4_a, ze_n, ze_t, ze4_m⟩ | _ + 5 => ⟨ze0_g, ze0_k, ze0_s, ze0_d, ze0_a, ze_n, ze_t, ze0_m⟩),
      kit_NoChain := (fun k => match k with | 0 => kit_mk zKd_NoChain zKt_NoChain zS_NoChain_2 zS_NoChain_0 | 1 => kit_mk zKd_NoChain zKt_NoChain zS_NoChain_2 zS_NoChain_1 | 2 => kit_mk zKd_NoChain zKt_NoChain zS_NoChain_2 zS_NoChain_2 | 3 => kit_mk zKd_NoChain zKt_NoChain zS_NoChain_2 zS_NoChain_3 | 4 => kit_mk zKd_NoChain zKt_NoChain zS_NoChain_2 zS_NoChain_4 | _ + 5 => kit_mk zKd_NoChain zKt_NoChain zS_NoChain_2 zS_NoChain_0),
      kit_NoFit := (fun k => match k with | 0 => kit_mk zKd_NoFit zKt_NoFit zS_NoFit_4 zS_NoFit_0 | 1 => kit_mk zKd_NoFit zKt_NoFit zS_NoFit_4 zS_NoFit_1 | 2 => kit_mk zKd_NoFit zKt_NoFit zS_NoFit_4 zS_NoFit_2 | 3 => kit_mk zKd_NoFit zKt_NoFit zS_NoFit_4 zS_NoFit_3 | 4 => kit_mk zKd_NoFit zKt_NoFit zS_NoFit_4 zS_NoFit_4 | _ + 5 => kit_mk zKd_NoFit zKt_NoFit zS_NoFit_4 zS_NoFit_0),
      kit_NoSide := (fun k => match k with | 0 => kit_mk zKd_NoSide zKt_NoSide zS_NoSide_3 zS_NoSide_0 | 1 => kit_mk zKd_NoSide zKt_NoSide zS_NoSide_3 zS_NoSide_1 | 2 => kit_mk zKd_NoSide zKt_NoSide zS_NoSide_3 zS_NoSide_2 | 3 => kit_mk zKd_NoSide zKt_NoSide zS_NoSide_3 zS_NoSide_3 | 4 => kit_mk zKd_NoSide zKt_NoSide zS_NoSide_3 zS_NoSide_4 | _ + 5 => kit_mk zKd_NoSide zKt_NoSide zS_NoSide_3 zS_NoSide_0),
      kit_NoTile := (fun k => match k with | 0 => kit_mk zKd_NoTile zKt_NoTile zS_NoTile_1 zS_NoTile_0 | 1 => kit_mk zKd_NoTile zKt_NoTile zS_NoTile_1 zS_NoTile_1 | 2 => kit_mk zKd_NoTile zKt_NoTile zS_NoTile_1 zS_NoTile_2 | 3 => kit_mk zKd_NoTile zKt_NoTile zS_NoTile_1 zS_NoTile_3 | 4 => kit_mk zKd_NoTile zKt_NoTile zS_NoTile_1 zS_NoTile_4 | _ + 5 => kit_mk zKd_NoTile zKt_NoTile zS_NoTile_1 zS_NoTile_0),
      exm_TileError := (fun k => match k with | 0 => PySem.W.exm_ref zKb_TileError zKd_TileError zKt_TileError zS_TileError_0 | 1 => PySem.W.exm_ref zKb_TileError zKd_TileError zKt_TileError zS_TileError_1 | 2 => PySem.W.exm_ref zKb_TileError zKd_TileError zKt_TileError zS_TileError_2 | 3 => PySem.W.exm_ref zKb_TileError zKd_TileError zKt_TileError zS_TileError_3 | 4 => PySem.W.exm_ref zKb_TileError zKd_TileError zKt_TileError zS_TileError_4 | _ + 5 => PySem.W.exm_ref zKb_TileError zKd_TileError zKt_TileError zS_TileError_0),
      m_is_number := PySem.W.mg_of X G za0,
      F_is_number := fun_mk (st := s_is_number) zl0 zd0 zp0,
      n_is_number := (fun_mk (st := s_is_number) zl0 zd0 zp0).binds (ps := ["thing", "least", "most"]) fun _ _ _ _ _ _ us hl => match us, hl with | [_, _, _], _ => rfl,
      m_is_pair := PySem.W.mg_of X G za1,
      F_is_pair := fun_mk (st := s_is_pair) zl1 zd1 zp1,
      n_is_pair := (fun_mk (st := s_is_pair) zl1 zd1 zp1).binds (ps := ["thing"]) fun _ _ _ _ _ _ us hl => match us, hl with | [_], _ => rfl,
      m_is_tile := PySem.W.mg_of X G za2,
      F_is_tile := fun_mk (st := s_is_tile) zl2 zd2 zp2,
      n_is_tile := (fun_mk (st := s_is_tile) zl2 zd2 zp2).binds (ps := ["thing"]) fun _ _ _ _ _ _ us hl => match us, hl with | [_], _ => rfl,
      m_tile_of := PySem.W.mg_of X G za3,
      F_tile_of := fun_mk (st := s_tile_of) zl3 zd3 zp3,
      n_tile_of := (fun_mk (st := s_tile_of) zl3 zd3 zp3).binds (ps := ["pair"]) fun _ _ _ _ _ _ us hl => match us, hl with | [_], _ => rfl,
      m_need_tile := PySem.W.mg_of X G za4,
      F_need_tile := fun_mk (st := s_need_tile) zl4 zd4 zp4,
      n_need_tile := (fun_mk (st := s_need_tile) zl4 zd4 zp4).binds (ps := ["tile"]) fun _ _ _ _ _ _ us hl => match us, hl with | [_], _ => rfl,
      m_is_chain := PySem.W.mg_of X G za5,
      F_is_chain := fun_mk (st := s_is_chain) zl5 zd5 zp5,
      n_is_chain := (fun_mk (st := s_is_chain) zl5 zd5 zp5).binds (ps := ["thing"]) fun _ _ _ _ _ _ us hl => match us, hl with | [_], _ => rfl,
      m_need_chain := PySem.W.mg_of X G za6,
      F_need_chain := fun_mk (st := s_need_chain) zl6 zd6 zp6,
      n_need_chain := (fun_mk (st := s_need_chain) zl6 zd6 zp6).binds (ps := ["chain"]) fun _ _ _ _ _ _ us hl => match us, hl with | [_], _ => rfl,
      m_ends := PySem.W.mg_of X G za7,
      F_ends := fun_mk (st := s_ends) zl7 zd7 zp7,
      n_ends := (fun_mk (st := s_ends) zl7 zd7 zp7).binds (ps := ["chain"]) fun _ _ _ _ _ _ us hl => match us, hl with | [_], _ => rfl,
      m_tiles_of := PySem.W.mg_of X G za8,
      F_tiles_of := fun_mk (st := s_tiles_of) zl8 zd8 zp8,
      n_tiles_of := (fun_mk (st := s_tiles_of) zl8 zd8 zp8).binds (ps := ["chain"]) fun _ _ _ _ _ _ us hl => match us, hl with | [_], _ => rfl,
      m_fits := PySem.W.mg_of X G za9,
      F_fits := fun_mk (st := s_fits) zl9 zd9 zp9,
      n_fits := (fun_mk (st := s_fits) zl9 zd9 zp9).binds (ps := ["chain", "tile"]) fun _ _ _ _ _ _ us hl => match us, hl with | [_, _], _ => rfl,
      m_laid := PySem.W.mg_of X G za10,
      F_laid := fun_mk (st := s_laid) zl10 zd10 zp10,
      n_laid := (fun_mk (st := s_laid) zl10 zd10 zp10).binds (ps := ["chain", "tile", "side"]) fun _ _ _ _ _ _ us hl => match us, hl with | [_, _, _], _ => rfl,
      m_need_side := PySem.W.mg_of X G za11,
      F_need_side := fun_mk (st := s_need_side) zl11 zd11 zp11,
      n_need_side := (fun_mk (st := s_need_side) zl11 zd11 zp11).binds (ps := ["side"]) fun _ _ _ _ _ _ us hl => match us, hl with | [_], _ => rfl,
      m_lay := PySem.W.mg_of X G za12,
      F_lay := funD_mk (st := s_lay) (its := [.str "right" dt12_0]) (dvs := [V.str "right"]) zl12 zd12 zp12 zT12 rfl (.cons ⟨_, rfl⟩ .nil) (by simp),
      n_lay := bindsFull (ps := ["chain", "tile", "where"]) (funD_mk (st := s_lay) (its := [.str "right" dt12_0]) (dvs := [V.str "right"]) zl12 zd12 zp12 zT12 rfl (.cons ⟨_, rfl⟩ .nil) (by simp)) (by simp) fun _ _ _ _ _ _ _ us its hl hi => match us, hl, its, hi with | [_, _, _], _, [_], _ => ⟨_, rfl, rfl⟩,
      d_lay_2 := (funD_mk (st := s_lay) (its := [.str "right" dt12_0]) (dvs := [V.str "right"]) zl12 zd12 zp12 zT12 rfl (.cons ⟨_, rfl⟩ .nil) (by simp)).binds1 (ps := ["chain", "tile", "where"]) 2 0 (by simp) (by decide) fun _ _ _ _ _ _ _ us its hl hi => match us, hl, its, hi with | [_, _], _, [_], _ => ⟨_, rfl, rfl⟩,
      k_lay_2 := (funD_mk (st := s_lay) (its := [.str "right" dt12_0]) (dvs := [V.str "right"]) zl12 zd12 zp12 zT12 rfl (.cons ⟨_, rfl⟩ .nil) (by simp)).kbindsD (ps := ["chain", "tile", "where"]) 2 ["where"] (fun {α : Type} (a b c : List α) => a ++ c) (by simp) (fun a _ c => a.append c) fun _ _ _ _ _ _ _ us its ws hl hi hw => match us, hl, its, hi, ws, hw with | [_, _], _, [_], _, [_], _ => ⟨_, rfl, rfl⟩,
      m_law_drawn := PySem.W.mg_of X G za13,
      F_law_drawn := fun_mk (st := s_law_drawn) zl13 zd13 zp13,
      n_law_drawn := (fun_mk (st := s_law_drawn) zl13 zd13 zp13).binds (ps := ["script", "k", "many"]) fun _ _ _ _ _ _ us hl => match us, hl with | [_, _, _], _ => rfl,
      m_law_set := PySem.W.mg_of X G za14,
      F_law_set := fun_mk (st := s_law_set) zl14 zd14 zp14,
      n_law_set := (fun_mk (st := s_law_set) zl14 zd14 zp14).binds (ps := ["top"]) fun _ _ _ _ _ _ us hl => match us, hl with | [_], _ => rfl,
      m_law_order := PySem.W.mg_of X G za15,
      F_law_order := fun_mk (st := s_law_order) zl15 zd15 zp15,
      n_law_order := (fun_mk (st := s_law_order) zl15 zd15 zp15).binds (ps := ["script", "at", "top"]) fun _ _ _ _ _ _ us hl => match us, hl with | [_, _, _], _ => rfl,
      m_law_tiles := PySem.W.mg_of X G za16,
      F_law_tiles := fun_mk (st := s_law_tiles) zl16 zd16 zp16,
      n_law_tiles := (fun_mk (st := s_law_tiles) zl16 zd16 zp16).binds (ps := ["script", "at"]) fun _ _ _ _ _ _ us hl => match us, hl with | [_, _], _ => rfl,
      m_law_fits := PySem.W.mg_of X G za17,
      F_law_fits := fun_mk (st := s_law_fits) zl17 zd17 zp17,
      n_law_fits := (fun_mk (st := s_law_fits) zl17 zd17 zp17).binds (ps := ["chain", "tile"]) fun _ _ _ _ _ _ us hl => match us, hl with | [_, _], _ => rfl,
      m_law_laid := PySem.W.mg_of X G za18,
      F_law_laid := fun_mk (st := s_law_laid) zl18 zd18 zp18,
      n_law_laid := (fun_mk (st := s_law_laid) zl18 zd18 zp18).binds (ps := ["chain", "tile", "side"]) fun _ _ _ _ _ _ us hl => match us, hl with | [_, _, _], _ => rfl,
      m_law_chain := PySem.W.mg_of X G za19,
      F_law_chain := fun_mk (st := s_law_chain) zl19 zd19 zp19,
      n_law_chain := (fun_mk (st := s_law_chain) zl19 zd19 zp19).binds (ps := ["script", "at", "tiles"]) fun _ _ _ _ _ _ us hl => match us, hl with | [_, _, _], _ => rfl,
      m_law_no := PySem.W.mg_of X G za20,
      F_law_no := fun_mk (st := s_law_no) zl20 zd20 zp20,
      n_law_no := (fun_mk (st := s_law_no) zl20 zd20 zp20).binds (ps := ["way", "chain", "tile", "side"]) fun _ _ _ _ _ _ us hl => match us, hl with | [_, _, _, _], _ => rfl,
      m_law := PySem.W.mg_of X G za21,
      F_law := fun_mk (st := s_law) zl21 zd21 zp21,
      n_law := (fun_mk (st := s_law) zl21 zd21 zp21).binds (ps := ["script"]) fun _ _ _ _ _ _ us hl => match us, hl with | [_], _ => rfl }
  exact ⟨_, fun s v => .of_eq rfl, fun base _ _ => (ok_law (P := l.prog) (w := w) (base := base) T).imp fun vs H Q E h => law_sp h⟩
theorem walk {l : PySem.W.OpenLaw} {q : Program} {loose : List Str} {XP : (Str → Option Value) → Heap → Prop} {YP : World → Heap → Prop} {d : DefRec} {K : Params → PySem.W.Frag} (hn : l.most = some 63) (hdf : d.params.defaults = [])
    (hY : ∀ (w : World) (h : Heap), YP w h → (K w.params).In h)
    (F : ∀ (w : World) (mg : Str → Option Value) (fa : Addr) (h : Heap), (K w.params).In h → h.Ns mainGlobals mg → mg d.name = some (.ref fa) →
      ∃ fd : FuncData, (∀ (s : Shared) (u : Value), BindsTo s fd ⟨[u], []⟩ [("script", u)]) ∧ ∀ base : Heap, (K w.params).In base → base.Ns mainGlobals mg → FnOk l.prog w (K w.params) mg base (L2.CX l.prog w) 8 fa fd ["script"] (spLaw (K w.params))) :
    PySem.W.WalkO q loose XP YP l.row.toRowW d [] (fun f vs => PySem.call f vs) :=
  L2.walk_of (n := 63) (k := 8) (x := "script") (CX := fun w => L2.CX l.prog w) (sp := fun w => spLaw (K w.params)) hn (by decide) hdf ⟨rfl, by decide, by decide⟩ hY F (fun _ _ a ns hl ho hS => ⟨a, ns, rfl, hS, ho, hl, fun _ => rfl⟩) fun _ _ _ _ _ z => by
    obtain ⟨_, _, _, _, _, _, _, _, _, _, _, _, z⟩ := z
    exact z.elim

end Dom
open PySem PySem.W PyProof.Rows in
set_option maxRecDepth 100000 in
set_option maxHeartbeats 0 in
theorem PySem.Challenge.cw_dominohall_k11_fits_holds : PySem.Challenge.rw_dominohall_k11_fits.Holds := by
  w_on; o_law; k_head; (case hw => w_witness2)
  k_fill
  refine Dom.walk (l := PySem.Challenge.rw_dominohall_k11_fits) rfl rfl (fun w h Y => PySem.W.kIn_of Y) ?F
  case F =>
    intro w mg fa h KX G hmg
    refine' Dom.all_mk KX G hmg ?zb_all ?zb_bool ?zb_enumerate ?zb_int ?zb_isinstance ?zb_len ?zb_list ?zb_max ?zb_min ?zb_range ?zb_set ?zb_sorted ?zb_str ?zb_tuple ?zb_zip ?zc_MOST ?zc_SIDES ?zo_SIDES ?zx_NoChain ?zx_NoFit ?zx_NoSide ?zx_NoTile ?zx_TileError ?zq_NoChain ?zk_NoChain ?zB_NoChain ?zt_NoChain ?zq_NoFit ?zk_NoFit ?zB_NoFit ?zt_NoFit ?zq_NoSide ?zk_NoSide ?zB_NoSide ?zt_NoSide ?zq_NoTile ?zk_NoTile ?zB_NoTile ?zt_NoTile ?ze0_g ?ze0_k ?ze0_s ?ze0_d ?ze0_a ?ze0_m ?ze1_g ?ze1_k ?ze1_s ?ze1_d ?ze1_a ?ze1_m ?ze2_g ?ze2_k ?ze2_s ?ze2_d ?ze2_a ?ze2_m ?ze3_g ?ze3_k ?ze3_s ?ze3_d ?ze3_a ?ze3_m ?ze4_g ?ze4_k ?ze4_s ?ze4_d ?ze4_a ?ze4_m ?ze_n ?ze_t ?zKd_NoChain ?zKt_NoChain ?zKb_NoChain ?zS_NoChain_0 ?zS_NoChain_1 ?zS_NoChain_2 ?zS_NoChain_3 ?zS_NoChain_4 ?zKd_NoFit ?zKt_NoFit ?zKb_NoFit ?zS_NoFit_0 ?zS_NoFit_1 ?zS_NoFit_2 ?zS_NoFit_3 ?zS_NoFit_4 ?zKd_NoSide ?zKt_NoSide ?zKb_NoSide ?zS_NoSide_0 ?zS_NoSide_1 ?zS_NoSide_2 ?zS_NoSide_3 ?zS_NoSide_4 ?zKd_NoTile ?zKt_NoTile ?zKb_NoTile ?zS_NoTile_0 ?zS_NoTile_1 ?zS_NoTile_2 ?zS_NoTile_3 ?zS_NoTile_4 ?zKd_TileError ?zKt_TileError ?zKb_TileError ?zS_TileError_0 ?zS_TileError_1 ?zS_TileError_2 ?zS_TileError_3 ?zS_TileError_4 ?za0 ?zl0 ?zd0 ?zp0 ?za1 ?zl1 ?zd1 ?zp1 ?za2 ?zl2 ?zd2 ?zp2 ?za3 ?zl3 ?zd3 ?zp3 ?za4 ?zl4 ?zd4 ?zp4 ?za5 ?zl5 ?zd5 ?zp5 ?za6 ?zl6 ?zd6 ?zp6 ?za7 ?zl7 ?zd7 ?zp7 ?za8 ?zl8 ?zd8 ?zp8 ?za9 ?zl9 ?zd9 ?zp9 ?za10 ?zl10 ?zd10 ?zp10 ?za11 ?zl11 ?zd11 ?zp11 ?za12 ?zl12 ?zT12 ?zd12 ?zp12 ?za13 ?zl13 ?zd13 ?zp13 ?za14 ?zl14 ?zd14 ?zp14 ?za15 ?zl15 ?zd15 ?zp15 ?za16 ?zl16 ?zd16 ?zp16 ?za17 ?zl17 ?zd17 ?zp17 ?za18 ?zl18 ?zd18 ?zp18 ?za19 ?zl19 ?zd19 ?zp19 ?za20 ?zl20 ?zd20 ?zp20 ?za21 ?zl21 ?zd21 ?zp21
    (case zb_all => k_is)
    (case zb_bool => k_is)
    (case zb_enumerate => k_is)
    (case zb_int => k_is)
    (case zb_isinstance => k_is)
    (case zb_len => k_is)
    (case zb_list => k_is)
    (case zb_max => k_is)
    (case zb_min => k_is)
    (case zb_range => k_is)
    (case zb_set => k_is)
    (case zb_sorted => k_is)
    (case zb_str => k_is)
    (case zb_tuple => k_is)
    (case zb_zip => k_is)
    (case zc_MOST => k_is)
    (case zc_SIDES => k_is)
    (case zo_SIDES => k_is)
    (case zx_NoChain => k_is)
    (case zx_NoFit => k_is)
    (case zx_NoSide => k_is)
    (case zx_NoTile => k_is)
    (case zx_TileError => k_is)
    (case zq_NoChain => k_exc)
    (case zk_NoChain => k_is)
    (case zB_NoChain => k_is)
    (case zt_NoChain => k_is)
    (case zq_NoFit => k_exc)
    (case zk_NoFit => k_is)
    (case zB_NoFit => k_is)
    (case zt_NoFit => k_is)
    (case zq_NoSide => k_exc)
    (case zk_NoSide => k_is)
    (case zB_NoSide => k_is)
    (case zt_NoSide => k_is)
    (case zq_NoTile => k_exc)
    (case zk_NoTile => k_is)
    (case zB_NoTile => k_is)
    (case zt_NoTile => k_is)
    (case ze0_g => k_is)
    (case ze0_k => k_is)
    (case ze0_s => k_is)
    (case ze0_d => k_is)
    (case ze0_a => k_is)
    (case ze0_m => k_is)
    (case ze1_g => k_is)
    (case ze1_k => k_is)
    (case ze1_s => k_is)
    (case ze1_d => k_is)
    (case ze1_a => k_is)
    (case ze1_m => k_is)
    (case ze2_g => k_is)
    (case ze2_k => k_is)
    (case ze2_s => k_is)
    (case ze2_d => k_is)
    (case ze2_a => k_is)
    (case ze2_m => k_is)
    (case ze3_g => k_is)
    (case ze3_k => k_is)
    (case ze3_s => k_is)
    (case ze3_d => k_is)
    (case ze3_a => k_is)
    (case ze3_m => k_is)
    (case ze4_g => k_is)
    (case ze4_k => k_is)
    (case ze4_s => k_is)
    (case ze4_d => k_is)
    (case ze4_a => k_is)
    (case ze4_m => k_is)
    (case ze_n => k_is)
    (case ze_t => k_is)
    (case zKd_NoChain => k_is)
    (case zKt_NoChain => k_is)
    (case zKb_NoChain => k_is)
    (case zS_NoChain_0 => first | rfl | k_is)
    (case zS_NoChain_1 => first | rfl | k_is)
    (case zS_NoChain_2 => first | rfl | k_is)
    (case zS_NoChain_3 => first | rfl | k_is)
    (case zS_NoChain_4 => first | rfl | k_is)
    (case zKd_NoFit => k_is)
    (case zKt_NoFit => k_is)
    (case zKb_NoFit => k_is)
    (case zS_NoFit_0 => first | rfl | k_is)
    (case zS_NoFit_1 => first | rfl | k_is)
    (case zS_NoFit_2 => first | rfl | k_is)
    (case zS_NoFit_3 => first | rfl | k_is)
    (case zS_NoFit_4 => first | rfl | k_is)
    (case zKd_NoSide => k_is)
    (case zKt_NoSide => k_is)
    (case zKb_NoSide => k_is)
    (case zS_NoSide_0 => first | rfl | k_is)
    (case zS_NoSide_1 => first | rfl | k_is)
    (case zS_NoSide_2 => first | rfl | k_is)
    (case zS_NoSide_3 => first | rfl | k_is)
    (case zS_NoSide_4 => first | rfl | k_is)
    (case zKd_NoTile => k_is)
    (case zKt_NoTile => k_is)
    (case zKb_NoTile => k_is)
    (case zS_NoTile_0 => first | rfl | k_is)
    (case zS_NoTile_1 => first | rfl | k_is)
    (case zS_NoTile_2 => first | rfl | k_is)
    (case zS_NoTile_3 => first | rfl | k_is)
    (case zS_NoTile_4 => first | rfl | k_is)
    (case zKd_TileError => k_is)
    (case zKt_TileError => k_is)
    (case zKb_TileError => k_is)
    (case zS_TileError_0 => first | rfl | k_is)
    (case zS_TileError_1 => first | rfl | k_is)
    (case zS_TileError_2 => first | rfl | k_is)
    (case zS_TileError_3 => first | rfl | k_is)
    (case zS_TileError_4 => first | rfl | k_is)
    (case za0 => k_is)
    (case zl0 => k_is)
    (case zd0 => k_is)
    (case zp0 => k_is)
    (case za1 => k_is)
    (case zl1 => k_is)
    (case zd1 => k_is)
    (case zp1 => k_is)
    (case za2 => k_is)
    (case zl2 => k_is)
    (case zd2 => k_is)
    (case zp2 => k_is)
    (case za3 => k_is)
    (case zl3 => k_is)
    (case zd3 => k_is)
    (case zp3 => k_is)
    (case za4 => k_is)
    (case zl4 => k_is)
    (case zd4 => k_is)
    (case zp4 => k_is)
    (case za5 => k_is)
    (case zl5 => k_is)
    (case zd5 => k_is)
    (case zp5 => k_is)
    (case za6 => k_is)
    (case zl6 => k_is)
    (case zd6 => k_is)
    (case zp6 => k_is)
    (case za7 => k_is)
    (case zl7 => k_is)
    (case zd7 => k_is)
    (case zp7 => k_is)
    (case za8 => k_is)
    (case zl8 => k_is)
    (case zd8 => k_is)
    (case zp8 => k_is)
    (case za9 => k_is)
    (case zl9 => k_is)
    (case zd9 => k_is)
    (case zp9 => k_is)
    (case za10 => k_is)
    (case zl10 => k_is)
    (case zd10 => k_is)
    (case zp10 => k_is)
    (case za11 => k_is)
    (case zl11 => k_is)
    (case zd11 => k_is)
    (case zp11 => k_is)
    (case za12 => k_is)
    (case zl12 => k_is)
    (case zT12 => k_is)
    (case zd12 => k_is)
    (case zp12 => k_is)
    (case za13 => k_is)
    (case zl13 => k_is)
    (case zd13 => k_is)
    (case zp13 => k_is)
    (case za14 => k_is)
    (case zl14 => k_is)
    (case zd14 => k_is)
    (case zp14 => k_is)
    (case za15 => k_is)
    (case zl15 => k_is)
    (case zd15 => k_is)
    (case zp15 => k_is)
    (case za16 => k_is)
    (case zl16 => k_is)
    (case zd16 => k_is)
    (case zp16 => k_is)
    (case za17 => k_is)
    (case zl17 => k_is)
    (case zd17 => k_is)
    (case zp17 => k_is)
    (case za18 => k_is)
    (case zl18 => k_is)
    (case zd18 => k_is)
    (case zp18 => k_is)
    (case za19 => k_is)
    (case zl19 => k_is)
    (case zd19 => k_is)
    (case zp19 => k_is)
    (case za20 => k_is)
    (case zl20 => k_is)
    (case zd20 => k_is)
    (case zp20 => k_is)
    (case za21 => k_is)
    (case zl21 => k_is)
    (case zd21 => k_is)
    (case zp21 => k_is)
