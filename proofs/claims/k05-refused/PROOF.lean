import PyProof.Rows.All
import Wide.All
import OpenK.AllK
import Wide.FinOn
import HandS.ForMost
import HandS.ForExc
import HandS.Deep
import HandS.IsInst
import HandS.ExcIs
import HandS.More
import HandS.Style
import HandS.RaiseOp
import HandS.Conv
import HandS.Codes
import HandS.EndBits
import HandS.Wide
import HandS.TupMul
import PySem.Challenge.RW_slidetray_k05_refused
set_option Elab.async false
set_option linter.all false
set_option maxRecDepth 100000
set_option maxHeartbeats 4000000
namespace DL
open PySem PySem.Spec L2
open PyProof.Rows hiding St

/-! ### data stays data when more is known -/
section
variable {K : PySem.W.Frag} {H H' : Hp}
theorem rd_mono {a : Addr} {u : HO} (e : Same H H') (h : Rd H a u) : Rd H' a u := by
  rcases h with h | ⟨o, h⟩
  · exact .inl (e _ _ h)
  · exact .inr ⟨o, e _ _ h⟩
theorem sqt_mono {a : Addr} {xs : List V} (e : Same H H') (h : SqT K H a xs) : SqT K H' a xs := by
  rcases h with h | h
  · exact .inl (rd_mono e h)
  · exact .inr h
end
mutual
/-- data at a value: lists are tracked, tuples tracked or written -/
inductive Dq (K : PySem.W.Frag) (H : Hp) : V → PyData → Prop
  | non : Dq K H .non .none
  | bl (b : Bool) : Dq K H (.bl b) (.bool b)
  | int (i : Int) : Dq K H (.int i) (.int i)
  | str (x : Str) : Dq K H (.str x) (.str x)
  | lst {a : Addr} {xs : List V} {ds : List PyData} : H a = some (.lst xs) → DqAll K H xs ds → Dq K H (.ref a) (.list ds)
  | tup {a : Addr} {xs : List V} {ds : List PyData} : SqT K H a xs → DqAll K H xs ds → Dq K H (.ref a) (.tuple ds)
inductive DqAll (K : PySem.W.Frag) (H : Hp) : List V → List PyData → Prop
  | nil : DqAll K H [] []
  | cons {v : V} {vs : List V} {d : PyData} {ds : List PyData} : Dq K H v d → DqAll K H vs ds → DqAll K H (v :: vs) (d :: ds)
end
section
variable {K : PySem.W.Frag} {H H' : Hp}
mutual
theorem dp_mono (e : Same H H') : ∀ {v : V} {d : PyData}, Dq K H v d → Dq K H' v d
  | _, _, .non => .non
  | _, _, .bl b => .bl b
  | _, _, .int i => .int i
  | _, _, .str x => .str x
  | _, _, .lst h q => .lst (e _ _ h) (dpAll_mono e q)
  | _, _, .tup h q => .tup (sqt_mono e h) (dpAll_mono e q)
theorem dpAll_mono (e : Same H H') : ∀ {vs : List V} {ds : List PyData}, DqAll K H vs ds → DqAll K H' vs ds
  | _, _, .nil => .nil
  | _, _, .cons h q => .cons (dp_mono e h) (dpAll_mono e q)
end
mutual
theorem dq_dp : ∀ {v : V} {d : PyData}, Dq K H v d → Dp K H v d
  | _, _, .non => .non
  | _, _, .bl b => .bl b
  | _, _, .int i => .int i
  | _, _, .str x => .str x
  | _, _, .lst h q => .lst (.inl (.inl h)) (dqAll_dp q)
  | _, _, .tup h q => .tup h (dqAll_dp q)
theorem dqAll_dp : ∀ {vs : List V} {ds : List PyData}, DqAll K H vs ds → DpAll K H vs ds
  | _, _, .nil => .nil
  | _, _, .cons h q => .cons (dq_dp h) (dqAll_dp q)
end
end

/-! ### assertions on values that stay -/
structure As where
  p : Hp → V → Prop
  mono : ∀ {H H' : Hp} {v : V}, Same H H' → p H v → p H' v
def Dt (K : PySem.W.Frag) (d : PyData) : As := ⟨fun H v => Dq K H v d, fun e h => dp_mono e h⟩
abbrev Pa (H : Hp) : List V → List As → Prop := Paired fun v a => a.p H v
theorem pa_mono {H H' : Hp} (e : Same H H') : ∀ {vs : List V} {as : List As}, Pa H vs as → Pa H' vs as
  | _, _, .nil => .nil
  | _, _, .cons h q => .cons (As.mono _ e h) (pa_mono e q)
def LsA (as : List As) : As := ⟨fun H v => ∃ p vs, v = .ref p ∧ H p = some (.lst vs) ∧ Pa H vs as, fun e ⟨p, vs, a, b, c⟩ => ⟨p, vs, a, e _ _ b, pa_mono e c⟩⟩
def TpA (K : PySem.W.Frag) (as : List As) : As := ⟨fun H v => ∃ p vs, v = .ref p ∧ SqT K H p vs ∧ Pa H vs as, fun e ⟨p, vs, a, b, c⟩ => ⟨p, vs, a, sqt_mono e b, pa_mono e c⟩⟩
def As.le (a b : As) : Prop := ∀ H v, a.p H v → b.p H v
theorem As.le_refl (a : As) : a.le a := fun _ _ h => h
theorem dpAll_pa {K : PySem.W.Frag} {H : Hp} : ∀ {vs : List V} {ds : List PyData}, Pa H vs (ds.map (Dt K)) → DqAll K H vs ds
  | [], [], _ => .nil
  | _ :: _, _ :: _, .cons h q => .cons h (dpAll_pa q)
  | [], _ :: _, h => nomatch h
  | _ :: _, [], h => nomatch h
theorem pa_dpAll {K : PySem.W.Frag} {H : Hp} : ∀ {vs : List V} {ds : List PyData}, DqAll K H vs ds → Pa H vs (ds.map (Dt K))
  | _, _, .nil => .nil
  | _, _, .cons h q => .cons h (pa_dpAll q)
theorem lsA_le {K : PySem.W.Frag} {ds : List PyData} : (LsA (ds.map (Dt K))).le (Dt K (.list ds)) := fun _ _ ⟨_, _, e, h, q⟩ => by subst e; exact .lst h (dpAll_pa q)
theorem lsA_ge {K : PySem.W.Frag} {ds : List PyData} : (Dt K (.list ds)).le (LsA (ds.map (Dt K))) := fun _ _ h => by
  cases h with
  | lst h q => exact ⟨_, _, rfl, h, pa_dpAll q⟩
theorem tpA_le {K : PySem.W.Frag} {ds : List PyData} : (TpA K (ds.map (Dt K))).le (Dt K (.tuple ds)) := fun _ _ ⟨_, _, e, h, q⟩ => by subst e; exact .tup h (dpAll_pa q)
theorem tpA_ge {K : PySem.W.Frag} {ds : List PyData} : (Dt K (.tuple ds)).le (TpA K (ds.map (Dt K))) := fun _ _ h => by
  cases h with
  | tup h q => exact ⟨_, _, rfl, h, pa_dpAll q⟩
theorem dt_int {K : PySem.W.Frag} {H : Hp} {v : V} {i : Int} (h : (Dt K (.int i)).p H v) : v = .int i := by cases (show Dq K H v (.int i) from h); rfl
theorem dt_bl {K : PySem.W.Frag} {H : Hp} {v : V} {i : Bool} (h : (Dt K (.bool i)).p H v) : v = .bl i := by cases (show Dq K H v (.bool i) from h); rfl
theorem dt_str {K : PySem.W.Frag} {H : Hp} {v : V} {i : Str} (h : (Dt K (.str i)).p H v) : v = .str i := by cases (show Dq K H v (.str i) from h); rfl
theorem dt_non {K : PySem.W.Frag} {H : Hp} {v : V} (h : (Dt K .none).p H v) : v = .non := by cases (show Dq K H v .none from h); rfl

/-! ### things of one's own: they may still change -/
structure Ow where
  p : Hp → Hp → V → List Addr → Prop
  fr : ∀ {Hf H : Hp} {v : V} {A : List Addr}, p Hf H v A → ∀ a ∈ A, Hf a = none ∧ H a ≠ none
  mono : ∀ {Hf H Hf' H' : Hp} {v : V} {A : List Addr}, p Hf H v A → Same Hf Hf' → (∀ a ∈ A, Hf' a = none) → (∀ a ∈ A, H' a = H a) → p Hf' H' v A
/-- an own list of things that stay -/
def OL (as : List As) : Ow where
  p := fun Hf H v A => ∃ p vs, v = .ref p ∧ A = [p] ∧ Hf p = none ∧ H p = some (.lst vs) ∧ Pa Hf vs as
  fr := fun ⟨p, vs, _, eA, hf, hh, _⟩ a ha => by
    subst eA
    obtain rfl : a = p := by simpa using ha
    exact ⟨hf, by rw [hh]; exact fun z => nomatch z⟩
  mono := fun ⟨p, vs, e, eA, hf, hh, hp⟩ s n k => by
    subst eA
    exact ⟨p, vs, e, rfl, n p (by simp), (k p (by simp)).trans hh, pa_mono s hp⟩

inductive Sl where
  | un
  | as (a : As)
  | ow (o : Ow)

def SlOk (Hf H : Hp) (o : Option V) (A : List Addr) : Sl → Prop
  | .un => A = []
  | .as a => A = [] ∧ ∃ v, o = some v ∧ a.p Hf v
  | .ow w => ∃ v, o = some v ∧ w.p Hf H v A

structure Ext (Hf H Hf' H' : Hp) : Prop where
  f : Same Hf Hf'
  h : Same H H'
  z : Same Hf' H'
  n : ∀ a, H a ≠ none → Hf a = none → Hf' a = none
theorem Ext.refl {Hf H : Hp} (z : Same Hf H) : Ext Hf H Hf H := ⟨.refl _, .refl _, z, fun _ _ h => h⟩
theorem Ext.trans {Hf H Hf1 H1 Hf2 H2 : Hp} (a : Ext Hf H Hf1 H1) (b : Ext Hf1 H1 Hf2 H2) : Ext Hf H Hf2 H2 :=
  ⟨a.f.trans b.f, a.h.trans b.h, b.z, fun x hx hf => b.n x (by
    cases e : H x with
    | none => exact absurd e hx
    | some o => rw [a.h x o e]; exact fun z => nomatch z) (a.n x hx hf)⟩
/-- a new object, that stays -/
theorem Ext.new {Hf H : Hp} {p : Addr} {o : HO} (z : Same Hf H) (h : H p = none) : Ext Hf H (upd Hf p o) (upd H p o) where
  f := fun a u e => by rw [upd_ne (ne_of_none (z a u e) h)]; exact e
  h := fun a u e => by rw [upd_ne (ne_of_none e h)]; exact e
  z := fun a u e => by
    by_cases c : a = p
    · subst c; rw [upd_same] at e ⊢; exact e
    · rw [upd_ne c] at e ⊢; exact z a u e
  n := fun a ha hf => by
    have c : a ≠ p := fun e => ha (by rw [e]; exact h)
    rw [upd_ne c]; exact hf
/-- a new object that stays out of what is fixed -/
theorem Ext.loose {Hf H : Hp} {p : Addr} {o : HO} (z : Same Hf H) (h : H p = none) : Ext Hf H Hf (upd H p o) where
  f := .refl _
  h := fun a u e => by rw [upd_ne (ne_of_none e h)]; exact e
  z := fun a u e => by rw [upd_ne (ne_of_none (z a u e) h)]; exact z a u e
  n := fun a _ hf => hf

structure Env (Hf H : Hp) (σ : St) (Γ : List Sl) (A : Nat → List Addr) : Prop where
  z : Same Hf H
  len : σ.length = Γ.length
  ok : ∀ i s, Γ[i]? = some s → SlOk Hf H (σ.getD i none) (A i) s
  dj : ∀ i j, i ≠ j → ∀ a ∈ A i, a ∉ A j
  out : ∀ i, Γ.length ≤ i → A i = []

theorem SlOk.ext {Hf H Hf' H' : Hp} {o : Option V} {A : List Addr} {s : Sl} (e : Ext Hf H Hf' H') (h : SlOk Hf H o A s) : SlOk Hf' H' o A s := by
  cases s with
  | un => exact h
  | as a =>
    obtain ⟨hA, v, ev, q⟩ := h
    exact ⟨hA, v, ev, a.mono e.f q⟩
  | ow w =>
    obtain ⟨v, ev, q⟩ := h
    have fr := w.fr q
    refine ⟨v, ev, w.mono q e.f (fun a ha => e.n a (fr a ha).2 (fr a ha).1) fun a ha => ?_⟩
    cases x : H a with
    | none => exact absurd x (fr a ha).2
    | some u => exact e.h a u x
theorem Env.ext {Hf H Hf' H' : Hp} {σ : St} {Γ : List Sl} {A : Nat → List Addr} (h : Env Hf H σ Γ A) (e : Ext Hf H Hf' H') : Env Hf' H' σ Γ A :=
  ⟨e.z, h.len, fun i s q => (h.ok i s q).ext e, h.dj, h.out⟩
theorem Env.as {Hf H : Hp} {σ : St} {Γ : List Sl} {A : Nat → List Addr} (h : Env Hf H σ Γ A) {i : Nat} {a : As} (e : Γ[i]? = some (.as a)) : ∃ v, σ[i]? = some (some v) ∧ a.p Hf v := by
  obtain ⟨_, v, ev, q⟩ := h.ok i _ e
  refine ⟨v, ?_, q⟩
  have hl : i < σ.length := by rw [h.len]; exact (List.getElem?_eq_some_iff.mp e).1
  rw [List.getD_eq_getElem?_getD, List.getElem?_eq_getElem hl, Option.getD_some] at ev
  rw [List.getElem?_eq_getElem hl, ev]
theorem Env.ow {Hf H : Hp} {σ : St} {Γ : List Sl} {A : Nat → List Addr} (h : Env Hf H σ Γ A) {i : Nat} {w : Ow} (e : Γ[i]? = some (.ow w)) : ∃ v, σ[i]? = some (some v) ∧ w.p Hf H v (A i) := by
  obtain ⟨v, ev, q⟩ := h.ok i _ e
  refine ⟨v, ?_, q⟩
  have hl : i < σ.length := by rw [h.len]; exact (List.getElem?_eq_some_iff.mp e).1
  rw [List.getD_eq_getElem?_getD, List.getElem?_eq_getElem hl, Option.getD_some] at ev
  rw [List.getElem?_eq_getElem hl, ev]

/-- a slot is stored; its own addresses from then on -/
def atN {α : Type} (A : Nat → α) (i : Nat) (x : α) : Nat → α := fun j => if j = i then x else A j
theorem Env.put {Hf H : Hp} {σ : St} {Γ : List Sl} {A : Nat → List Addr} (h : Env Hf H σ Γ A) (i : Nat) (o : Option V) (s : Sl) (B : List Addr) (hs : SlOk Hf H o B s) (hd : ∀ j, j ≠ i → ∀ a ∈ B, a ∉ A j) (hi : i < Γ.length) :
    Env Hf H (σ.set i o) (Γ.set i s) (atN A i B) := by
  refine ⟨h.z, by rw [List.length_set, List.length_set, h.len], fun j t e => ?_, fun j k n a ha hk => ?_, fun j hj => ?_⟩
  · by_cases c : i = j
    · subst c
      have hl : i < Γ.length := by
        have := (List.getElem?_eq_some_iff.mp e).1
        rwa [List.length_set] at this
      rw [List.getElem?_set_self hl] at e
      obtain rfl := Option.some.inj e
      have hl2 : i < σ.length := by rw [h.len]; exact hl
      rw [List.getD_eq_getElem?_getD, List.getElem?_set_self hl2, Option.getD_some]
      show SlOk Hf H o (if i = i then B else A i) s
      rw [if_pos rfl]; exact hs
    · rw [List.getElem?_set_ne c] at e
      rw [List.getD_eq_getElem?_getD, List.getElem?_set_ne c, ← List.getD_eq_getElem?_getD]
      show SlOk Hf H _ (if j = i then B else A j) t
      rw [if_neg (fun z => c z.symm)]
      exact h.ok j t e
  · have ha' : a ∈ (if j = i then B else A j) := ha
    have hk' : a ∈ (if k = i then B else A k) := hk
    by_cases c : j = i
    · rw [if_pos c] at ha'
      have ck : k ≠ i := fun z => n (c.trans z.symm)
      rw [if_neg ck] at hk'
      exact hd k ck a ha' hk'
    · rw [if_neg c] at ha'
      by_cases d : k = i
      · rw [if_pos d] at hk'
        exact hd j c a hk' ha'
      · rw [if_neg d] at hk'
        exact h.dj j k n a ha' hk'
  · rw [List.length_set] at hj
    show (if j = i then B else A j) = []
    rw [if_neg (by omega)]
    exact h.out j hj

/-! ### where one started: what must stand at the end -/
structure Cb where
  f : Hp
  h : Hp
  W : List Addr
structure Bok (c : Cb) (Hf H : Hp) : Prop where
  f : Same c.f Hf
  h : ∀ a o, a ∉ c.W → c.h a = some o → H a = some o
  n : ∀ a, c.h a ≠ none → c.f a = none → Hf a = none
  k : ∀ a, c.h a ≠ none → H a ≠ none
  z : Same Hf H
theorem Bok.ext {c : Cb} {Hf H Hf' H' : Hp} (b : Bok c Hf H) (e : Ext Hf H Hf' H') : Bok c Hf' H' where
  f := b.f.trans e.f
  h := fun a o w q => e.h a o (b.h a o w q)
  n := fun a q x => e.n a (b.k a q) (b.n a q x)
  k := fun a q x => by
    cases y : H a with
    | none => exact b.k a q y
    | some o => rw [e.h a o y] at x; exact nomatch x
  z := e.z
structure StOk (c : Cb) (Hf H : Hp) (σ : St) (Γ : List Sl) : Prop where
  b : Bok c Hf H
  e : ∃ A, Env Hf H σ Γ A ∧ ∀ i, ∀ a ∈ A i, c.h a = none ∨ a ∈ c.W
theorem StOk.ext {c : Cb} {Hf H Hf' H' : Hp} {σ : St} {Γ : List Sl} (s : StOk c Hf H σ Γ) (e : Ext Hf H Hf' H') : StOk c Hf' H' σ Γ :=
  ⟨s.b.ext e, let ⟨A, h, q⟩ := s.e; ⟨A, h.ext e, q⟩⟩
theorem StOk.putAs {c : Cb} {Hf H : Hp} {σ : St} {Γ : List Sl} (s : StOk c Hf H σ Γ) (i : Nat) {v : V} {a : As} (h : a.p Hf v) : StOk c Hf H (σ.set i (some v)) (Γ.set i (.as a)) := by
  by_cases hi : i < Γ.length
  rotate_left
  · obtain ⟨A, he, hq⟩ := s.e
    have hl := he.len
    rw [List.set_eq_of_length_le (by omega), List.set_eq_of_length_le (by omega)]
    exact s
  obtain ⟨A, he, hq⟩ := s.e
  refine ⟨s.b, atN A i [], he.put i (some v) (.as a) [] ⟨rfl, v, rfl, h⟩ (fun _ _ _ z => nomatch z) hi, fun j x hx => ?_⟩
  by_cases c : j = i
  · have hx' : x ∈ (if j = i then [] else A j) := hx
    rw [if_pos c] at hx'; cases hx'
  · have hx' : x ∈ (if j = i then [] else A j) := hx
    rw [if_neg c] at hx'; exact hq j x hx'
theorem StOk.putUn {c : Cb} {Hf H : Hp} {σ : St} {Γ : List Sl} (s : StOk c Hf H σ Γ) (i : Nat) (o : Option V) : StOk c Hf H (σ.set i o) (Γ.set i .un) := by
  by_cases hi : i < Γ.length
  rotate_left
  · obtain ⟨A, he, hq⟩ := s.e
    have hl := he.len
    rw [List.set_eq_of_length_le (by omega), List.set_eq_of_length_le (by omega)]
    exact s
  obtain ⟨A, he, hq⟩ := s.e
  refine ⟨s.b, atN A i [], he.put i o .un [] rfl (fun _ _ _ z => nomatch z) hi, fun j x hx => ?_⟩
  by_cases c : j = i
  · have hx' : x ∈ (if j = i then [] else A j) := hx
    rw [if_pos c] at hx'; cases hx'
  · have hx' : x ∈ (if j = i then [] else A j) := hx
    rw [if_neg c] at hx'; exact hq j x hx'
/-- forgetting: each slot of Γ' is unknown, or as in Γ, or weaker -/
def Sl.le : Sl → Sl → Prop
  | _, .un => True
  | .as a, .as b => a.le b
  | .ow a, .ow b => ∀ Hf H v A, a.p Hf H v A → b.p Hf H v A
  | _, _ => False
theorem Sl.le_refl (s : Sl) : s.le s := by
  cases s with
  | un => trivial
  | as a => exact a.le_refl
  | ow w => exact fun _ _ _ _ h => h
inductive GLe : List Sl → List Sl → Prop
  | nil : GLe [] []
  | cons {s t : Sl} {a b : List Sl} : s.le t → GLe a b → GLe (s :: a) (t :: b)
theorem GLe.refl : ∀ {Γ : List Sl}, GLe Γ Γ
  | [] => .nil
  | s :: _ => .cons s.le_refl GLe.refl
theorem GLe.len {a b : List Sl} (h : GLe a b) : a.length = b.length := by
  induction h with
  | nil => rfl
  | cons _ _ ih => rw [List.length_cons, List.length_cons, ih]
theorem GLe.get {a b : List Sl} (h : GLe a b) : ∀ {i : Nat} {t : Sl}, b[i]? = some t → ∃ s, a[i]? = some s ∧ s.le t := by
  induction h with
  | nil => intro i t e; simp at e
  | cons h1 h2 ih =>
    intro i t e
    cases i with
    | zero => obtain rfl := Option.some.inj e; exact ⟨_, rfl, h1⟩
    | succ i => exact ih e
theorem StOk.weak {c : Cb} {Hf H : Hp} {σ : St} {Γ Γ' : List Sl} (s : StOk c Hf H σ Γ) (g : GLe Γ Γ') : StOk c Hf H σ Γ' := by
  obtain ⟨A, he, hq⟩ := s.e
  refine ⟨s.b, fun i => match Γ'[i]? with | some (.ow _) => A i | _ => [], ⟨he.z, by rw [he.len, g.len], fun i t e => ?_, fun i j n a ha hj => ?_, fun i hi => by simp only [List.getElem?_eq_none hi]⟩, fun i a ha => ?_⟩
  · obtain ⟨u, hu, le⟩ := g.get e
    have k := he.ok i u hu
    cases t with
    | un => simp only [e]; rfl
    | as b =>
      simp only [e]
      cases u with
      | as a => obtain ⟨_, v, ev, q⟩ := k; exact ⟨rfl, v, ev, le _ _ q⟩
      | un => exact le.elim
      | ow w => exact le.elim
    | ow b =>
      simp only [e]
      cases u with
      | ow w => obtain ⟨v, ev, q⟩ := k; exact ⟨v, ev, le _ _ _ _ q⟩
      | un => exact le.elim
      | as w => exact le.elim
  · have h1 : a ∈ A i := by
      revert ha
      split
      · exact id
      · exact fun z => nomatch z
    have h2 : a ∈ A j := by
      revert hj
      split
      · exact id
      · exact fun z => nomatch z
    exact he.dj i j n a h1 h2
  · refine hq i a ?_
    have ha2 : a ∈ (match Γ'[i]? with | some (.ow _) => A i | _ => []) := ha
    revert ha2
    split
    · exact id
    · exact fun z => nomatch z
/-- a new thing of one's own goes into a slot -/
theorem StOk.putOw {c : Cb} {Hf H : Hp} {σ : St} {Γ : List Sl} (s : StOk c Hf H σ Γ) (i : Nat) {v : V} {w : Ow} {B : List Addr} (h : w.p Hf H v B) (hB : ∀ a ∈ B, c.h a = none ∨ a ∈ c.W)
    (hn : ∀ A : Nat → List Addr, Env Hf H σ Γ A → ∀ j, j ≠ i → ∀ a ∈ B, a ∉ A j) : StOk c Hf H (σ.set i (some v)) (Γ.set i (.ow w)) := by
  by_cases hi : i < Γ.length
  rotate_left
  · obtain ⟨A, he, hq⟩ := s.e
    have hl := he.len
    rw [List.set_eq_of_length_le (by omega), List.set_eq_of_length_le (by omega)]
    exact s
  obtain ⟨A, he, hq⟩ := s.e
  refine ⟨s.b, atN A i B, he.put i (some v) (.ow w) B ⟨v, rfl, h⟩ (hn A he) hi, fun j x hx => ?_⟩
  by_cases c : j = i
  · have hx' : x ∈ (if j = i then B else A j) := hx
    rw [if_pos c] at hx'; exact hB x hx'
  · have hx' : x ∈ (if j = i then B else A j) := hx
    rw [if_neg c] at hx'; exact hq j x hx'
end DL

namespace DL
open PySem PySem.Spec L2
open PyProof.Rows hiding St

/-! ### what an expression gives -/
def EvA (te : TE) (Γ : List Sl) (a : As) : Prop := ∀ Hf H σ A, Env Hf H σ Γ A → ∀ Q : VK, (∀ v Hf' H', Ext Hf H Hf' H' → a.p Hf' v → Q v H') → te σ H Q
def EvB (tt : TT) (Γ : List Sl) (b : Bool) : Prop := ∀ Hf H σ A, Env Hf H σ Γ A → ∀ Q : Bool → Hp → Prop, (∀ Hf' H', Ext Hf H Hf' H' → Q b H') → tt σ H Q
def EvS (ta : TA) (Γ : List Sl) (as : List As) : Prop := ∀ Hf H σ A, Env Hf H σ Γ A → ∀ Q : List V → Hp → Prop, (∀ vs Hf' H', Ext Hf H Hf' H' → Pa Hf' vs as → Q vs H') → ta σ H Q
/-- a list that can be read, its items stay (it may be one's own) -/
def EvL (te : TE) (Γ : List Sl) (as : List As) : Prop := ∀ Hf H σ A, Env Hf H σ Γ A → ∀ Q : VK, (∀ p vs Hf' H', Ext Hf H Hf' H' → H' p = some (.lst vs) → Pa Hf' vs as → Q (.ref p) H') → te σ H Q
/-- a new thing of one's own -/
def EvW (te : TE) (Γ : List Sl) (w : Ow) : Prop := ∀ Hf H σ A, Env Hf H σ Γ A → ∀ Q : VK, (∀ v Hf' H' B, Ext Hf H Hf' H' → (∀ a ∈ B, H a = none) → w.p Hf' H' v B → Q v H') → te σ H Q
def EvO (to : TO) (Γ : List Sl) (o : Option Int) : Prop := ∀ Hf H σ A, Env Hf H σ Γ A → ∀ Q : Option Int → Hp → Prop, (∀ Hf' H', Ext Hf H Hf' H' → Q o H') → to σ H Q

section
variable {K : PySem.W.Frag} {Γ : List Sl} {ta tb te : TE} {tt tu : TT} {a b z : As}
theorem EvA.le (h : EvA te Γ a) (l : a.le b) : EvA te Γ b := fun Hf H σ A e Q q => h Hf H σ A e Q fun v Hf' H' x y => q v Hf' H' x (l _ _ y)
theorem EvA.is {d d' : PyData} (h : EvA te Γ (Dt K d)) (e : d = d') : EvA te Γ (Dt K d') := e ▸ h
theorem EvB.is {c d : Bool} (h : EvB tt Γ c) (e : c = d) : EvB tt Γ d := e ▸ h
theorem ev_var {i : Nat} (h : Γ[i]? = some (.as a)) : EvA (tVar i) Γ a := fun Hf H σ A e Q q => by
  obtain ⟨v, ev, p⟩ := e.as h
  exact ⟨v, ev, q v Hf H (.refl e.z) p⟩
theorem ev_int {i : Int} : EvA (tC (.int i)) Γ (Dt K (.int i)) := fun Hf H σ A e Q q => q _ Hf H (.refl e.z) (.int i)
theorem ev_bl {i : Bool} : EvA (tC (.bl i)) Γ (Dt K (.bool i)) := fun Hf H σ A e Q q => q _ Hf H (.refl e.z) (.bl i)
theorem ev_str {i : Str} : EvA (tC (.str i)) Γ (Dt K (.str i)) := fun Hf H σ A e Q q => q _ Hf H (.refl e.z) (.str i)
theorem ev_non : EvA (tC .non) Γ (Dt K .none) := fun Hf H σ A e Q q => q _ Hf H (.refl e.z) .non
/-- any constant -/
def CtA (v : V) : As := ⟨fun _ u => u = v, fun _ h => h⟩
theorem ev_ct {v : V} : EvA (tC v) Γ (CtA v) := fun Hf H σ A e Q q => q _ Hf H (.refl e.z) rfl

/-! two-place operations by values -/
def RvA (r : R2) (a b z : As) : Prop := ∀ Hf H x y, Same Hf H → a.p Hf x → b.p Hf y → ∀ Q : VK, (∀ v Hf' H', Ext Hf H Hf' H' → z.p Hf' v → Q v H') → r x y H Q
theorem ev_op {r : R2} (ha : EvA ta Γ a) (hb : EvA tb Γ b) (hr : RvA r a b z) : EvA (tOp r ta tb) Γ z := fun Hf H σ A e Q q =>
  ha Hf H σ A e _ fun x Hf1 H1 e1 px => hb Hf1 H1 σ A (e.ext e1) _ fun y Hf2 H2 e2 py => hr Hf2 H2 x y e2.z (a.mono e2.f px) py Q fun v Hf3 H3 e3 pv => q v Hf3 H3 ((e1.trans e2).trans e3) pv
theorem rv_I0 {g : Int → Int → V} {i j : Int} {d : PyData} (hd : ∀ H, Dq K H (g i j) d) : RvA (rI0 g) (Dt K (.int i)) (Dt K (.int j)) (Dt K d) := fun Hf H x y hz px py Q q => by
  cases dt_int px; cases dt_int py
  exact ⟨i, j, rfl, rfl, q _ Hf H (.refl hz) (hd _)⟩
theorem rv_I {C : Int → Int → Prop} {g : Int → Int → V} {i j : Int} {d : PyData} (hc : C i j) (hd : ∀ H, Dq K H (g i j) d) : RvA (rI C g) (Dt K (.int i)) (Dt K (.int j)) (Dt K d) := fun Hf H x y hz px py Q q => by
  cases dt_int px; cases dt_int py
  exact ⟨i, j, rfl, rfl, hc, q _ Hf H (.refl hz) (hd _)⟩
theorem ev_I0i {g : Int → Int → Int} {i j : Int} (ha : EvA ta Γ (Dt K (.int i))) (hb : EvA tb Γ (Dt K (.int j))) : EvA (tOp (rI0 fun i j => .int (g i j)) ta tb) Γ (Dt K (.int (g i j))) := ev_op ha hb (rv_I0 fun _ => .int _)
theorem ev_I0b {g : Int → Int → Bool} {i j : Int} (ha : EvA ta Γ (Dt K (.int i))) (hb : EvA tb Γ (Dt K (.int j))) : EvA (tOp (rI0 fun i j => .bl (g i j)) ta tb) Γ (Dt K (.bool (g i j))) := ev_op ha hb (rv_I0 fun _ => .bl _)
theorem ev_Ii {C : Int → Int → Prop} {g : Int → Int → Int} {i j : Int} (ha : EvA ta Γ (Dt K (.int i))) (hb : EvA tb Γ (Dt K (.int j))) (hc : C i j) : EvA (tOp (rI C fun i j => .int (g i j)) ta tb) Γ (Dt K (.int (g i j))) := ev_op ha hb (rv_I hc fun _ => .int _)
theorem ev_addS {x y : Str} {r : R2} (hr : r = (fun x y H Q => ∃ i j, x = .str i ∧ y = .str j ∧ i.length + j.length ≤ sizeLine ∧ Q (.str (i ++ j)) H) := by rfl) (ha : EvA ta Γ (Dt K (.str x))) (hb : EvA tb Γ (Dt K (.str y))) (hl : x.length + y.length ≤ sizeLine) : EvA (tOp r ta tb) Γ (Dt K (.str (x ++ y))) := by
  subst hr
  exact ev_op ha hb fun Hf H u v hz px py Q q => by
    cases dt_str px; cases dt_str py
    exact ⟨x, y, rfl, rfl, hl, q _ Hf H (.refl hz) (.str _)⟩
/-- == and != of data -/
theorem ev_eqD {d e : PyData} (ha : EvA ta Γ (Dt K d)) (hb : EvA tb Γ (Dt K e)) (sd : SeqAt.shaped d = true) (se : SeqAt.shaped e = true) : EvA (tOp (rEqD K) ta tb) Γ (Dt K (.bool (PyData.eqv d e))) :=
  ev_op ha hb fun Hf H x y hz px py Q q => ⟨d, e, dq_dp (dp_mono hz px), dq_dp (dp_mono hz py), sd, se, q _ Hf H (.refl hz) (.bl _)⟩
theorem ev_neD {d e : PyData} (ha : EvA ta Γ (Dt K d)) (hb : EvA tb Γ (Dt K e)) (sd : SeqAt.shaped d = true) (se : SeqAt.shaped e = true) : EvA (tOp (rNeD K) ta tb) Γ (Dt K (.bool (!PyData.eqv d e))) :=
  ev_op ha hb fun Hf H x y hz px py Q q => ⟨d, e, dq_dp (dp_mono hz px), dq_dp (dp_mono hz py), sd, se, q _ Hf H (.refl hz) (.bl _)⟩
/-- one side a list of one's own -/
theorem ev_neL {ds : List PyData} {e : PyData} (ha : EvL ta Γ (ds.map (Dt K))) (hb : EvA tb Γ (Dt K e)) (sd : SeqAt.shaped (.list ds) = true) (se : SeqAt.shaped e = true) : EvA (tOp (rNeD K) ta tb) Γ (Dt K (.bool (!PyData.eqv (.list ds) e))) := fun Hf H σ A en Q q =>
  ha Hf H σ A en _ fun p vs Hf1 H1 e1 hp px => hb Hf1 H1 σ A (en.ext e1) _ fun y Hf2 H2 e2 py =>
    ⟨.list ds, e, dq_dp (.lst (e2.h _ _ hp) (dpAll_mono (e2.f.trans e2.z) (dpAll_pa px))), dq_dp (dp_mono e2.z py), sd, se, q _ Hf2 H2 (e1.trans e2) (.bl _)⟩
/-- == of scalars: rEq -/
theorem ev_eqS {x y : V} {d e : PyData} (ha : EvA ta Γ (Dt K d)) (hb : EvA tb Γ (Dt K e)) (hx : ∀ H v, Dq K H v d → v = x) (hy : ∀ H v, Dq K H v e → v = y) (hs : scal x y = true) : EvA (tOp rEq ta tb) Γ (Dt K (.bool (decide (x = y)))) :=
  ev_op ha hb fun Hf H u v hz px py Q q => by
    cases hx _ _ px; cases hy _ _ py
    exact ⟨hs, q _ Hf H (.refl hz) (.bl _)⟩
theorem ev_neS {x y : V} {d e : PyData} (ha : EvA ta Γ (Dt K d)) (hb : EvA tb Γ (Dt K e)) (hx : ∀ H v, Dq K H v d → v = x) (hy : ∀ H v, Dq K H v e → v = y) (hs : scal x y = true) : EvA (tOp rNe ta tb) Γ (Dt K (.bool (!decide (x = y)))) :=
  ev_op ha hb fun Hf H u v hz px py Q q => by
    cases hx _ _ px; cases hy _ _ py
    exact ⟨hs, q _ Hf H (.refl hz) (.bl _)⟩
theorem ev_eqI {i j : Int} (ha : EvA ta Γ (Dt K (.int i))) (hb : EvA tb Γ (Dt K (.int j))) : EvA (tOp rEq ta tb) Γ (Dt K (.bool (decide (i = j)))) :=
  (ev_eqS (x := .int i) (y := .int j) ha hb (fun _ _ h => dt_int h) (fun _ _ h => dt_int h) rfl).is (by congr 1; exact decide_eq_decide.mpr ⟨fun h => V.int.inj h, fun h => by rw [h]⟩)
theorem ev_neI {i j : Int} (ha : EvA ta Γ (Dt K (.int i))) (hb : EvA tb Γ (Dt K (.int j))) : EvA (tOp rNe ta tb) Γ (Dt K (.bool (!decide (i = j)))) :=
  (ev_neS (x := .int i) (y := .int j) ha hb (fun _ _ h => dt_int h) (fun _ _ h => dt_int h) rfl).is (by congr 2; exact decide_eq_decide.mpr ⟨fun h => V.int.inj h, fun h => by rw [h]⟩)
theorem ev_eqT {i j : Str} (ha : EvA ta Γ (Dt K (.str i))) (hb : EvA tb Γ (Dt K (.str j))) : EvA (tOp rEq ta tb) Γ (Dt K (.bool (decide (i = j)))) :=
  (ev_eqS (x := .str i) (y := .str j) ha hb (fun _ _ h => dt_str h) (fun _ _ h => dt_str h) rfl).is (by congr 1; exact decide_eq_decide.mpr ⟨fun h => V.str.inj h, fun h => by rw [h]⟩)
theorem ev_neT {i j : Str} (ha : EvA ta Γ (Dt K (.str i))) (hb : EvA tb Γ (Dt K (.str j))) : EvA (tOp rNe ta tb) Γ (Dt K (.bool (!decide (i = j)))) :=
  (ev_neS (x := .str i) (y := .str j) ha hb (fun _ _ h => dt_str h) (fun _ _ h => dt_str h) rfl).is (by congr 2; exact decide_eq_decide.mpr ⟨fun h => V.str.inj h, fun h => by rw [h]⟩)
def isNone : PyData → Bool
  | .none => true
  | _ => false
theorem dq_non {H : Hp} {v : V} {d : PyData} (h : Dq K H v d) : decide (v = .non) = isNone d := by
  cases h <;> rfl
theorem ev_isN {d : PyData} {r : R2} (hr : r = (fun x y H Q => y = .non ∧ Q (.bl (decide (x = .non))) H) := by rfl) (ha : EvA ta Γ (Dt K d)) (hb : EvA tb Γ (Dt K .none)) : EvA (tOp r ta tb) Γ (Dt K (.bool (isNone d))) := by
  subst hr
  exact ev_op ha hb fun Hf H x y hz px py Q q => ⟨dt_non py, by rw [dq_non px]; exact q _ Hf H (.refl hz) (.bl _)⟩
theorem ev_notN {d : PyData} {r : R2} (hr : r = (fun x y H Q => y = .non ∧ Q (.bl (!decide (x = .non))) H) := by rfl) (ha : EvA ta Γ (Dt K d)) (hb : EvA tb Γ (Dt K .none)) : EvA (tOp r ta tb) Γ (Dt K (.bool (!isNone d))) := by
  subst hr
  exact ev_op ha hb fun Hf H x y hz px py Q q => ⟨dt_non py, by rw [dq_non px]; exact q _ Hf H (.refl hz) (.bl _)⟩
/-- x in xs, data of any depth -/
theorem ev_inD {d : PyData} {ds : List PyData} (ha : EvA ta Γ (Dt K d)) (hb : EvA tb Γ (Dt K (.list ds))) (sd : SeqAt.shaped d = true) (se : SeqAt.shaped (.list ds) = true) : EvA (tOp (rInD K) ta tb) Γ (Dt K (.bool (ds.any fun z => PyData.eqv z d))) :=
  ev_op ha hb fun Hf H x y hz px py Q q => ⟨d, ds, dq_dp (dp_mono hz px), dq_dp (dp_mono hz py), sd, se, q _ Hf H (.refl hz) (.bl _)⟩
theorem ev_notInD {d : PyData} {ds : List PyData} (ha : EvA ta Γ (Dt K d)) (hb : EvA tb Γ (Dt K (.list ds))) (sd : SeqAt.shaped d = true) (se : SeqAt.shaped (.list ds) = true) : EvA (tOp (rNotInD K) ta tb) Γ (Dt K (.bool (!ds.any fun z => PyData.eqv z d))) :=
  ev_op ha hb fun Hf H x y hz px py Q q => ⟨d, ds, dq_dp (dp_mono hz px), dq_dp (dp_mono hz py), sd, se, q _ Hf H (.refl hz) (.bl _)⟩
/-- a chain of two comparisons of whole numbers -/
theorem ev_chain {g g' : Int → Int → Bool} {i j k : Int} {tc : TE} (ha : EvA ta Γ (Dt K (.int i))) (hb : EvA tb Γ (Dt K (.int j))) (hc : EvA tc Γ (Dt K (.int k))) :
    EvA (tChain (rI0 fun i j => .bl (g i j)) (rI0 fun i j => .bl (g' i j)) ta tb tc) Γ (Dt K (.bool (g i j && g' j k))) := fun Hf H σ A e Q q =>
  ha Hf H σ A e _ fun x Hf1 H1 e1 px => hb Hf1 H1 σ A (e.ext e1) _ fun y Hf2 H2 e2 py => by
    cases dt_int px; cases dt_int py
    refine ⟨i, j, rfl, rfl, g i j, rfl, ?_⟩
    cases hg : g i j with
    | false => rw [hg] at q; exact iteF (q _ Hf2 H2 (e1.trans e2) (.bl _))
    | true =>
      rw [hg] at q
      refine iteT (hc Hf2 H2 σ A (e.ext (e1.trans e2)) _ fun w Hf3 H3 e3 pw => ?_)
      cases dt_int pw
      exact ⟨j, k, rfl, rfl, q _ Hf3 H3 ((e1.trans e2).trans e3) (.bl _)⟩
theorem ev_neg {i : Int} {r : V → Hp → VK → Prop} (hr : r = (rU fun i => .int (-i)) := by rfl) (ha : EvA ta Γ (Dt K (.int i))) : EvA (tUn r ta) Γ (Dt K (.int (-i))) := fun Hf H σ A e Q q => by
  subst hr
  exact ha Hf H σ A e _ fun x Hf1 H1 e1 px => by
    cases dt_int px
    exact ⟨i, rfl, q _ Hf1 H1 e1 (.int _)⟩

/-! items -/
theorem pa_get {H : Hp} : ∀ {vs : List V} {as : List As}, Pa H vs as → ∀ {j : Nat} {a : As}, as[j]? = some a → ∃ v, vs[j]? = some v ∧ a.p H v
  | _, _, .nil, j, a, h => by simp at h
  | _, _, .cons h q, 0, a, e => by obtain rfl := Option.some.inj e; exact ⟨_, rfl, h⟩
  | _, _, .cons h q, j + 1, a, e => pa_get q e
theorem pa_len {H : Hp} {vs : List V} {as : List As} (h : Pa H vs as) : vs.length = as.length := Paired.length h
theorem atI_map {α β : Type} {xs : List α} {ys : List β} {i : Int} {y : β} (hl : xs.length = ys.length) (h : atI ys i = some y) : ∃ j, ixN xs.length i = some j ∧ ys[j]? = some y := by
  unfold atI at h
  rw [hl]
  cases e : ixN ys.length i with
  | none => rw [e] at h; cases h
  | some j => rw [e] at h; exact ⟨j, rfl, h⟩
theorem ev_ixL {as : List As} {i : Int} (ha : EvL ta Γ as) (hb : EvA tb Γ (Dt K (.int i))) (h : atI as i = some a) : EvA (tOp (rIxL K) ta tb) Γ a := fun Hf H σ A e Q q =>
  ha Hf H σ A e _ fun p vs Hf1 H1 e1 hp pv => hb Hf1 H1 σ A (e.ext e1) _ fun y Hf2 H2 e2 py => by
    cases dt_int py
    have pv2 := pa_mono e2.f pv
    obtain ⟨j, hj, hy⟩ := atI_map (pa_len pv2) h
    obtain ⟨v, ev, av⟩ := pa_get pv2 hy
    refine ⟨p, vs, i, v, rfl, rfl, .inl (.inl (e2.h _ _ hp)), ?_, q v Hf2 H2 (e1.trans e2) av⟩
    unfold atI
    rw [hj]; exact ev
theorem ev_ixT {ds : List PyData} {i : Int} {d : PyData} (ha : EvA ta Γ (Dt K (.tuple ds))) (hb : EvA tb Γ (Dt K (.int i))) (h : atI ds i = some d) : EvA (tOp (rIxT K) ta tb) Γ (Dt K d) := fun Hf H σ A e Q q =>
  ha Hf H σ A e _ fun x Hf1 H1 e1 px => hb Hf1 H1 σ A (e.ext e1) _ fun y Hf2 H2 e2 py => by
    cases dt_int py
    obtain ⟨p, vs, rfl, hp, pv⟩ := tpA_ge _ _ px
    have pv2 := pa_mono e2.f pv
    obtain ⟨j, hj, hy⟩ := atI_map (xs := vs) (by rw [pa_len pv2, List.length_map]) h
    obtain ⟨v, ev, av⟩ := pa_get (a := Dt K d) pv2 (by rw [List.getElem?_map, hy]; rfl)
    refine ⟨p, vs, i, v, rfl, rfl, sqt_mono (e2.f.trans e2.z) hp, ?_, q v Hf2 H2 (e1.trans e2) av⟩
    unfold atI
    rw [hj]; exact ev
theorem ev_ixS {x : Str} {i : Int} {c : Nat} (ha : EvA ta Γ (Dt K (.str x))) (hb : EvA tb Γ (Dt K (.int i))) (hl : x.length ≤ sizeLine) (h : atI x.cps.toList i = some c) : EvA (tOp rIxS ta tb) Γ (Dt K (.str ⟨#[c]⟩)) :=
  ev_op ha hb fun Hf H u v hz px py Q q => by
    cases dt_str px; cases dt_int py
    exact ⟨x, i, c, rfl, rfl, hl, h, q _ Hf H (.refl hz) (.str _)⟩
/-- a list that stays may be read -/
theorem el_as {as : List As} (h : EvA te Γ (LsA as)) : EvL te Γ as := fun Hf H σ A e Q q => h Hf H σ A e _ fun v Hf1 H1 e1 ⟨p, vs, ev, hp, pv⟩ => by subst ev; exact q p vs Hf1 H1 e1 (e1.z _ _ hp) pv
theorem el_dt {ds : List PyData} (h : EvA te Γ (Dt K (.list ds))) : EvL te Γ (ds.map (Dt K)) := el_as (h.le lsA_ge)
theorem el_ow {i : Nat} {as : List As} (h : Γ[i]? = some (.ow (OL as))) : EvL (tVar i) Γ as := fun Hf H σ A e Q q => by
  obtain ⟨v, ev, p, vs, rfl, _, hf, hp, pv⟩ := e.ow h
  exact ⟨_, ev, q p vs Hf H (.refl e.z) hp pv⟩
theorem el_w {as : List As} (h : EvW te Γ (OL as)) : EvL te Γ as := fun Hf H σ A e Q q => h Hf H σ A e Q fun v Hf' H' B e1 hb ⟨p, vs, ev, _, _, hp, pv⟩ => by subst ev; exact q p vs Hf' H' e1 hp pv
/-- what is new may stay -/
theorem fix1 {Hf H : Hp} {p : Addr} {o : HO} (z : Same Hf H) (hf : Hf p = none) (hp : H p = some o) : Same Hf (upd Hf p o) ∧ Same (upd Hf p o) H := by
  refine ⟨fun a u e => ?_, fun a u e => ?_⟩
  · rw [upd_ne (ne_of_none e hf)]; exact e
  · by_cases c : a = p
    · subst c; rw [upd_same] at e; rw [hp]; exact e
    · rw [upd_ne c] at e; exact z a u e
theorem Ext.fix {Hf H Hf' H' : Hp} {p : Addr} {o : HO} (e : Ext Hf H Hf' H') (h : H p = none) (hf : Hf' p = none) (hp : H' p = some o) : Ext Hf H (upd Hf' p o) H' :=
  ⟨e.f.trans (fix1 e.z hf hp).1, e.h, (fix1 e.z hf hp).2, fun a ha hn => by
    have c : a ≠ p := fun x => ha (by rw [x]; exact h)
    rw [upd_ne c]; exact e.n a ha hn⟩
theorem ev_fix {as : List As} (h : EvW te Γ (OL as)) : EvA te Γ (LsA as) := fun Hf H σ A e Q q => h Hf H σ A e Q fun v Hf' H' B e1 hb ⟨p, vs, ev, eB, hf, hp, pv⟩ => by
  subst ev eB
  have hn := hb p (by simp)
  exact q _ _ H' (e1.fix hn hf hp) ⟨p, vs, rfl, upd_same, pa_mono (fix1 e1.z hf hp).1 pv⟩
theorem ev_fixD {ds : List PyData} (h : EvW te Γ (OL (ds.map (Dt K)))) : EvA te Γ (Dt K (.list ds)) := (ev_fix h).le lsA_le

/-! argument lists, displays -/
theorem es_nil : EvS tNil Γ [] := fun Hf H σ A e Q q => q [] Hf H (.refl e.z) .nil
theorem es_cons {tr : TA} {as : List As} (h : EvA te Γ a) (hr : EvS tr Γ as) : EvS (tCons te tr) Γ (a :: as) := fun Hf H σ A e Q q =>
  h Hf H σ A e _ fun v Hf1 H1 e1 pv => hr Hf1 H1 σ A (e.ext e1) _ fun vs Hf2 H2 e2 pvs => q _ Hf2 H2 (e1.trans e2) (.cons (a.mono e2.f pv) pvs)
theorem ew_lst {t : TA} {as : List As} (h : EvS t Γ as) (hl : as.length ≤ sizeLine) : EvW (tLst t) Γ (OL as) := fun Hf H σ A e Q q =>
  h Hf H σ A e _ fun vs Hf1 H1 e1 pvs => ⟨by rw [pa_len pvs]; exact hl, fun p hp =>
    q _ Hf1 (upd H1 p (.lst vs)) [p] (e1.trans (.loose e1.z hp)) (fun a ha => by
      obtain rfl : a = p := by simpa using ha
      exact e1.h.free hp) ⟨p, vs, rfl, rfl, e1.z.free hp, upd_same, pvs⟩⟩
theorem ev_lst {t : TA} {ds : List PyData} (h : EvS t Γ (ds.map (Dt K))) (hl : ds.length ≤ sizeLine) : EvA (tLst t) Γ (Dt K (.list ds)) := ev_fixD (ew_lst h (by rw [List.length_map]; exact hl))
theorem ev_tupA {t : TA} {as : List As} (h : EvS t Γ as) (hl : as.length ≤ sizeLine) : EvA (tTup t) Γ (TpA K as) := fun Hf H σ A e Q q =>
  h Hf H σ A e _ fun vs Hf1 H1 e1 pvs => ⟨by rw [pa_len pvs]; exact hl, fun p hp =>
    q _ _ _ (e1.trans (.new e1.z hp)) ⟨p, vs, rfl, .inl (.inl upd_same), pa_mono (Ext.new (o := .tup vs) e1.z hp).f pvs⟩⟩
theorem ev_tup {t : TA} {ds : List PyData} (h : EvS t Γ (ds.map (Dt K))) (hl : ds.length ≤ sizeLine) : EvA (tTup t) Γ (Dt K (.tuple ds)) := (ev_tupA (K := K) h (by rw [List.length_map]; exact hl)).le tpA_le
/-- argument lists of data -/
def EvDs (K : PySem.W.Frag) (ta : TA) (Γ : List Sl) (ds : List PyData) : Prop := EvS ta Γ (ds.map (Dt K))
theorem ed_nil : EvDs K tNil Γ [] := es_nil
theorem ed_cons {tr : TA} {d : PyData} {ds : List PyData} (h : EvA te Γ (Dt K d)) (hr : EvDs K tr Γ ds) : EvDs K (tCons te tr) Γ (d :: ds) := es_cons h hr

/-! tests -/
theorem eb_test {c : Bool} (h : EvA te Γ (Dt K (.bool c))) : EvB (tTest te) Γ c := fun Hf H σ A e Q q => h Hf H σ A e _ fun v Hf1 H1 e1 pv => by cases dt_bl pv; exact ⟨c, rfl, q Hf1 H1 e1⟩
theorem eb_B {c : Bool} (h : EvA te Γ (Dt K (.bool c))) : EvB (tB te) Γ c := fun Hf H σ A e Q q => h Hf H σ A e _ fun v Hf1 H1 e1 pv => by cases dt_bl pv; exact ⟨c, rfl, q Hf1 H1 e1⟩
theorem eb_yes : EvB tYes Γ true := fun Hf H σ A e Q q => q Hf H (.refl e.z)
theorem eb_not {c : Bool} (h : EvB tt Γ c) : EvB (tNot tt) Γ (!c) := fun Hf H σ A e Q q => h Hf H σ A e _ fun Hf1 H1 e1 => q Hf1 H1 e1
theorem eb_and {c d : Bool} (h : EvB tt Γ c) (h2 : c = true → EvB tu Γ d) : EvB (tAnd tt tu) Γ (c && d) := fun Hf H σ A e Q q => h Hf H σ A e _ fun Hf1 H1 e1 => by
  cases c with
  | true => exact iteT (h2 rfl Hf1 H1 σ A (e.ext e1) _ fun Hf2 H2 e2 => q Hf2 H2 (e1.trans e2))
  | false => exact iteF (q Hf1 H1 e1)
theorem eb_or {c d : Bool} (h : EvB tt Γ c) (h2 : c = false → EvB tu Γ d) : EvB (tOr tt tu) Γ (c || d) := fun Hf H σ A e Q q => h Hf H σ A e _ fun Hf1 H1 e1 => by
  cases c with
  | false => exact iteF (h2 rfl Hf1 H1 σ A (e.ext e1) _ fun Hf2 H2 e2 => q Hf2 H2 (e1.trans e2))
  | true => exact iteT (q Hf1 H1 e1)
/-- whichever way it goes -/
theorem eb_and' {c d : Bool} (h : EvB tt Γ c) (h2 : EvB tu Γ d) : EvB (tAnd tt tu) Γ (c && d) := eb_and h fun _ => h2
theorem eb_or' {c d : Bool} (h : EvB tt Γ c) (h2 : EvB tu Γ d) : EvB (tOr tt tu) Γ (c || d) := eb_or h fun _ => h2
theorem ev_andV {c d : Bool} (h : EvA ta Γ (Dt K (.bool c))) (h2 : c = true → EvA tb Γ (Dt K (.bool d))) : EvA (tAndV ta tb) Γ (Dt K (.bool (c && d))) := fun Hf H σ A e Q q => h Hf H σ A e _ fun v Hf1 H1 e1 pv => by
  cases dt_bl pv
  refine ⟨c, rfl, ?_⟩
  cases c with
  | true => exact iteT (h2 rfl Hf1 H1 σ A (e.ext e1) _ fun v2 Hf2 H2 e2 p2 => q v2 Hf2 H2 (e1.trans e2) p2)
  | false => exact iteF (q _ Hf1 H1 e1 (.bl _))
theorem ev_orV {c d : Bool} (h : EvA ta Γ (Dt K (.bool c))) (h2 : c = false → EvA tb Γ (Dt K (.bool d))) : EvA (tOrV ta tb) Γ (Dt K (.bool (c || d))) := fun Hf H σ A e Q q => h Hf H σ A e _ fun v Hf1 H1 e1 pv => by
  cases dt_bl pv
  refine ⟨c, rfl, ?_⟩
  cases c with
  | false => exact iteF (h2 rfl Hf1 H1 σ A (e.ext e1) _ fun v2 Hf2 H2 e2 p2 => q v2 Hf2 H2 (e1.trans e2) p2)
  | true => exact iteT (q _ Hf1 H1 e1 (.bl _))
theorem ev_notV {c : Bool} (h : EvA ta Γ (Dt K (.bool c))) : EvA (tNotV ta) Γ (Dt K (.bool (!c))) := fun Hf H σ A e Q q => h Hf H σ A e _ fun v Hf1 H1 e1 pv => by
  cases dt_bl pv
  exact ⟨c, rfl, q _ Hf1 H1 e1 (.bl _)⟩
theorem ev_if {c : Bool} (h : EvB tt Γ c) (h1 : c = true → EvA ta Γ z) (h2 : c = false → EvA tb Γ z) : EvA (tIf tt ta tb) Γ z := fun Hf H σ A e Q q => h Hf H σ A e _ fun Hf1 H1 e1 => by
  cases c with
  | true => exact iteT (h1 rfl Hf1 H1 σ A (e.ext e1) _ fun v2 Hf2 H2 e2 p2 => q v2 Hf2 H2 (e1.trans e2) p2)
  | false => exact iteF (h2 rfl Hf1 H1 σ A (e.ext e1) _ fun v2 Hf2 H2 e2 p2 => q v2 Hf2 H2 (e1.trans e2) p2)

/-! calls of built-ins by values -/
def RcA (r : List V → Hp → VK → Prop) (as : List As) (z : As) : Prop := ∀ Hf H vs, Same Hf H → Pa Hf vs as → ∀ Q : VK, (∀ v Hf' H', Ext Hf H Hf' H' → z.p Hf' v → Q v H') → r vs H Q
theorem ev_cb {r : List V → Hp → VK → Prop} {t : TA} {as : List As} (h : EvS t Γ as) (hr : RcA r as z) : EvA (tCB r t) Γ z := fun Hf H σ A e Q q =>
  h Hf H σ A e _ fun vs Hf1 H1 e1 pv => hr Hf1 H1 vs e1.z pv Q fun v Hf2 H2 e2 p => q v Hf2 H2 (e1.trans e2) p
theorem pa1 {H : Hp} {vs : List V} {a : As} (h : Pa H vs [a]) : ∃ v, vs = [v] ∧ a.p H v := by
  cases h with
  | cons h q => cases q; exact ⟨_, rfl, h⟩
theorem pa2 {H : Hp} {vs : List V} {a b : As} (h : Pa H vs [a, b]) : ∃ v w, vs = [v, w] ∧ a.p H v ∧ b.p H w := by
  cases h with
  | cons h q =>
    obtain ⟨w, rfl, hw⟩ := pa1 q
    exact ⟨_, w, rfl, h, hw⟩
def tyN : PyData → String
  | .none => "NoneType" | .bool _ => "bool" | .int _ => "int" | .str _ => "str" | .list _ => "list" | .tuple _ => "tuple" | .dict _ => "dict"
theorem dq_ty {H : Hp} {v : V} {d : PyData} (h : Dq K H v d) : TyX K H v (.type (tyN d)) := by
  cases h with
  | non => exact .base .non
  | bl b => exact .base (.bl b)
  | int i => exact .base (.int i)
  | str x => exact .base (.str x)
  | lst h q => exact .base (.lst h)
  | tup h q =>
    rcases h with (h | ⟨o, h⟩) | ⟨o, its, n, h, hc, _⟩
    · exact .base (.tup h)
    · exact .fTuple h
    · exact .kTuple h hc
theorem ev_isi {d : PyData} {T : String} {c : Bool} (ha : EvA ta Γ (Dt K d)) (hT : EvA tb Γ (CtA (.ty T))) (hk : kitB (tyN d) T = some c) : EvA (tCB (rIsi K) (tCons ta (tCons tb tNil))) Γ (Dt K (.bool c)) :=
  ev_cb (es_cons ha (es_cons hT es_nil)) fun Hf H vs hz pv Q q => by
    obtain ⟨v, w, rfl, hv, hw⟩ := pa2 pv
    obtain rfl : w = .ty T := hw
    exact ⟨v, .ty T, _, _, c, rfl, .ty T, dq_ty (dp_mono hz hv), kit_ty hk, q _ Hf H (.refl hz) (.bl c)⟩
theorem ev_lenL {r : List V → Hp → VK → Prop} {as : List As} (hr : r = (fun xs H Q => ∃ p ys, xs = [.ref p] ∧ (SqL K H p ys ∨ SqT K H p ys) ∧ Q (.int ys.length) H) := by rfl) (h : EvL te Γ as) : EvA (tCB r (tCons te tNil)) Γ (Dt K (.int as.length)) := fun Hf H σ A e Q q => by
  subst hr
  exact h Hf H σ A e _ fun p vs Hf1 H1 e1 hp pv => ⟨p, vs, rfl, .inl (.inl (.inl hp)), by rw [pa_len pv]; exact q _ Hf1 H1 e1 (.int _)⟩
theorem ev_lenT {r : List V → Hp → VK → Prop} {ds : List PyData} (hr : r = (fun xs H Q => ∃ p ys, xs = [.ref p] ∧ (SqL K H p ys ∨ SqT K H p ys) ∧ Q (.int ys.length) H) := by rfl) (h : EvA te Γ (Dt K (.tuple ds))) : EvA (tCB r (tCons te tNil)) Γ (Dt K (.int ds.length)) := fun Hf H σ A e Q q => by
  subst hr
  exact h Hf H σ A e _ fun v Hf1 H1 e1 pv => by
    obtain ⟨p, vs, rfl, hp, pp⟩ := tpA_ge _ _ pv
    have hl : vs.length = ds.length := by rw [pa_len pp, List.length_map]
    exact ⟨p, vs, rfl, .inr (sqt_mono e1.z hp), by rw [hl]; exact q _ Hf1 H1 e1 (.int _)⟩
theorem ev_lenS {r : List V → Hp → VK → Prop} {x : Str} (hr : r = (fun xs H Q => ∃ z, xs = [.str z] ∧ z.length ≤ sizeLine ∧ Q (.int z.length) H) := by rfl) (h : EvA te Γ (Dt K (.str x))) (hl : x.length ≤ sizeLine) : EvA (tCB r (tCons te tNil)) Γ (Dt K (.int x.length)) := fun Hf H σ A e Q q => by
  subst hr
  exact h Hf H σ A e _ fun v Hf1 H1 e1 pv => by
    cases dt_str pv
    exact ⟨x, rfl, hl, q _ Hf1 H1 e1 (.int _)⟩
/-- list(xs), of a list or a tuple of things that stay -/
theorem ew_list {r : List V → Hp → VK → Prop} {as : List As} (hr : r = (fun xs H Q => ∃ p ys, xs = [.ref p] ∧ (SqL K H p ys ∨ SqT K H p ys) ∧ ∀ l, H l = none → Q (.ref l) (upd H l (.lst ys))) := by rfl) (h : EvL te Γ as) : EvW (tCB r (tCons te tNil)) Γ (OL as) := fun Hf H σ A e Q q => by
  subst hr
  exact h Hf H σ A e _ fun p vs Hf1 H1 e1 hp pv => ⟨p, vs, rfl, .inl (.inl (.inl hp)), fun l hl =>
    q _ Hf1 (upd H1 l (.lst vs)) [l] (e1.trans (.loose e1.z hl)) (fun a ha => by
      obtain rfl : a = l := by simpa using ha
      exact e1.h.free hl) ⟨l, vs, rfl, rfl, e1.z.free hl, upd_same, pv⟩⟩

/-! slices -/
theorem eo_none : EvO tNoPart Γ none := fun Hf H σ A e Q q => q Hf H (.refl e.z)
theorem eo_some {i : Int} (h : EvA te Γ (Dt K (.int i))) : EvO (tPart te) Γ (some i) := fun Hf H σ A e Q q => h Hf H σ A e _ fun v Hf1 H1 e1 pv => by
  cases dt_int pv
  exact ⟨i, rfl, q Hf1 H1 e1⟩
theorem pa_drop {H : Hp} : ∀ {vs : List V} {as : List As} (n : Nat), Pa H vs as → Pa H (vs.drop n) (as.drop n)
  | _, _, 0, h => h
  | _, _, n + 1, .nil => by simpa using Paired.nil
  | _, _, n + 1, .cons h q => pa_drop n q
theorem pa_take {H : Hp} : ∀ {vs : List V} {as : List As} (n : Nat), Pa H vs as → Pa H (vs.take n) (as.take n)
  | _, _, 0, h => by simpa using Paired.nil
  | _, _, n + 1, .nil => by simpa using Paired.nil
  | _, _, n + 1, .cons h q => .cons h (pa_take n q)
def cutA (as : List α) (lo hi : Option Int) : List α := (as.drop (HT.sIx as.length 0 lo)).take (HT.sIx as.length as.length hi - HT.sIx as.length 0 lo)
theorem ew_sl {tl th : TO} {as : List As} {lo hi : Option Int} (h : EvL te Γ as) (h1 : EvO tl Γ lo) (h2 : EvO th Γ hi) : EvW (tSl (rSlL K) te tl th) Γ (OL (cutA as lo hi)) := fun Hf H σ A e Q q =>
  h Hf H σ A e _ fun p vs Hf1 H1 e1 hp pv => h1 Hf1 H1 σ A (e.ext e1) _ fun Hf2 H2 e2 => h2 Hf2 H2 σ A (e.ext (e1.trans e2)) _ fun Hf3 H3 e3 => ⟨p, vs, rfl, .inl (.inl ((e2.trans e3).h _ _ hp)), fun l hl => by
    have E := (e1.trans e2).trans e3
    refine q _ Hf3 (upd H3 l (.lst (cutV vs lo hi))) [l] (E.trans (.loose e3.z hl)) (fun a ha => by
      obtain rfl : a = l := by simpa using ha
      exact E.h.free hl) ⟨l, _, rfl, rfl, e3.z.free hl, upd_same, ?_⟩
    have hv := pa_len pv
    unfold cutV cutA
    rw [hv]
    exact pa_take _ (pa_drop _ (pa_mono (e2.trans e3).f pv))⟩
theorem cutA_map {α β : Type} (f : α → β) (xs : List α) (lo hi : Option Int) : cutA (xs.map f) lo hi = (cutA xs lo hi).map f := by
  unfold cutA
  rw [List.length_map, List.map_take, List.map_drop]
theorem ev_slS {tl th : TO} {x : Str} {lo hi : Option Int} (h : EvA te Γ (Dt K (.str x))) (h1 : EvO tl Γ lo) (h2 : EvO th Γ hi) (hl : x.length ≤ sizeLine) : EvA (tSl rSlS te tl th) Γ (Dt K (.str (cutS x lo hi))) := fun Hf H σ A e Q q =>
  h Hf H σ A e _ fun v Hf1 H1 e1 pv => by
    cases dt_str pv
    exact h1 Hf1 H1 σ A (e.ext e1) _ fun Hf2 H2 e2 => h2 Hf2 H2 σ A (e.ext (e1.trans e2)) _ fun Hf3 H3 e3 => ⟨x, rfl, hl, q _ Hf3 H3 ((e1.trans e2).trans e3) (.str _)⟩
/-! xs + ys -/
theorem pa_app {H : Hp} : ∀ {vs ws : List V} {as bs : List As}, Pa H vs as → Pa H ws bs → Pa H (vs ++ ws) (as ++ bs)
  | _, _, _, _, .nil, h => h
  | _, _, _, _, .cons x y, h => .cons x (pa_app y h)
theorem ew_cat {as bs : List As} (ha : EvL ta Γ as) (hb : EvL tb Γ bs) (hl : as.length + bs.length ≤ sizeLine) : EvW (tOp rCat ta tb) Γ (OL (as ++ bs)) := fun Hf H σ A e Q q =>
  ha Hf H σ A e _ fun p vs Hf1 H1 e1 hp pv => hb Hf1 H1 σ A (e.ext e1) _ fun p2 ws Hf2 H2 e2 hp2 pw => ⟨p, p2, vs, ws, rfl, rfl, e2.h _ _ hp, hp2, by rw [pa_len pv, pa_len pw]; exact hl, fun l hl => by
    have E := e1.trans e2
    exact q _ Hf2 (upd H2 l (.lst (vs ++ ws))) [l] (E.trans (.loose e2.z hl)) (fun a ha => by
      obtain rfl : a = l := by simpa using ha
      exact E.h.free hl) ⟨l, _, rfl, rfl, e2.z.free hl, upd_same, pa_app (pa_mono e2.f pv) pw⟩⟩
end

/-! ### what is walked -/
def EvI (wi : TI) (Γ : List Sl) (xs : List As) : Prop := ∀ Hf H σ A, Env Hf H σ Γ A → ∀ R : It → Hp → Prop, (∀ J Hf' H', Ext Hf H Hf' H' →
    (∀ Hf2 H2, Same Hf' Hf2 → Same Hf2 H2 → ∀ i, (i < xs.length → J.go i H2 ∧ ∀ x H3, J.yld i H2 x H3 → ∃ Hf3, Ext Hf2 H2 Hf3 H3 ∧ ∀ a, xs[i]? = some a → a.p Hf3 x) ∧ (xs.length ≤ i → J.stop i H2)) → R J H') → wi σ H R
section
variable {K : PySem.W.Frag} {Γ : List Sl} {ta tb te : TE}
theorem ei_list {xs : List As} (h : EvA te Γ (LsA xs)) : EvI (iList K te) Γ xs := fun Hf H σ A e R q =>
  h Hf H σ A e _ fun v Hf1 H1 e1 ⟨p, vs, ev, hp, pv⟩ => by
    subst ev
    have hl := pa_len pv
    refine ⟨p, rfl, ⟨vs, .inl (.inl (e1.z _ _ hp))⟩, q _ Hf1 H1 e1 fun Hf2 H2 s1 s2 i => ⟨fun hi => ?_, fun hi => ?_⟩⟩
    · have hs : SqL K H2 p vs := .inl (.inl (s2 _ _ (s1 _ _ hp)))
      have hv : i < vs.length := by omega
      refine ⟨⟨vs, vs[i], hs, List.getElem?_eq_getElem hv⟩, fun x H3 hy => ?_⟩
      obtain ⟨rfl, hx⟩ := hy
      refine ⟨Hf2, .refl s2, fun a ha => ?_⟩
      obtain ⟨w, hw, pw⟩ := pa_get pv ha
      have := hx vs hs
      rw [hw] at this
      obtain rfl := Option.some.inj this
      exact a.mono s1 pw
    · exact ⟨vs, .inl (.inl (s2 _ _ (s1 _ _ hp))), by omega⟩
theorem ei_listD {ds : List PyData} (h : EvA te Γ (Dt K (.list ds))) : EvI (iList K te) Γ (ds.map (Dt K)) := ei_list (h.le lsA_ge)
theorem ei_tup {ds : List PyData} (h : EvA te Γ (Dt K (.tuple ds))) : EvI (iTup K te) Γ (ds.map (Dt K)) := fun Hf H σ A e R q =>
  h Hf H σ A e _ fun v Hf1 H1 e1 pv => by
    obtain ⟨p, vs, rfl, hp, pv⟩ := tpA_ge _ _ pv
    have hl := pa_len pv
    refine ⟨p, rfl, ⟨vs, sqt_mono e1.z hp⟩, q _ Hf1 H1 e1 fun Hf2 H2 s1 s2 i => ⟨fun hi => ?_, fun hi => ?_⟩⟩
    · have hs : SqT K H2 p vs := sqt_mono (s1.trans s2) hp
      have hv : i < vs.length := by omega
      refine ⟨⟨vs, vs[i], hs, List.getElem?_eq_getElem hv⟩, fun x H3 hy => ?_⟩
      obtain ⟨rfl, hx⟩ := hy
      refine ⟨Hf2, .refl s2, fun a ha => ?_⟩
      obtain ⟨w, hw, pw⟩ := pa_get pv ha
      have := hx vs hs
      rw [hw] at this
      obtain rfl := Option.some.inj this
      exact a.mono s1 pw
    · exact ⟨vs, sqt_mono (s1.trans s2) hp, by omega⟩
/-- the signs of a text -/
def chs (K : PySem.W.Frag) (x : Str) : List As := x.cps.toList.map fun c => Dt K (.str ⟨#[c]⟩)
theorem ei_str {x : Str} (h : EvA te Γ (Dt K (.str x))) : EvI (iStr te) Γ (chs K x) := fun Hf H σ A e R q =>
  h Hf H σ A e _ fun v Hf1 H1 e1 pv => by
    cases dt_str pv
    have hl : (chs K x).length = x.cps.size := by unfold chs; rw [List.length_map, Array.length_toList]
    refine ⟨x, rfl, q _ Hf1 H1 e1 fun Hf2 H2 s1 s2 i => ⟨fun hi => ⟨by show i < x.cps.size; omega, fun y H3 hy => ?_⟩, fun hi => by show x.cps.size ≤ i; omega⟩⟩
    obtain ⟨rfl, c, hc, rfl⟩ := hy
    refine ⟨Hf2, .refl s2, fun a ha => ?_⟩
    unfold chs at ha
    rw [List.getElem?_map, Array.getElem?_toList, hc] at ha
    obtain rfl := Option.some.inj ha
    exact .str _
theorem ei_rng1 {t : TA} {n : Int} (h : EvS t Γ [Dt K (.int n)]) (hb : -(2 ^ 62) ≤ n ∧ n < 2 ^ 62) : EvI (iRng1 t) Γ ((List.range n.toNat).map fun i => Dt K (.int ((i : Nat) : Int))) := fun Hf H σ A e R q =>
  h Hf H σ A e _ fun vs Hf1 H1 e1 pv => by
    obtain ⟨v, rfl, hv⟩ := pa1 pv
    cases dt_int hv
    refine ⟨n, rfl, hb.1, hb.2, q _ Hf1 H1 e1 fun Hf2 H2 s1 s2 i => ⟨fun hi => ?_, fun hi => ?_⟩⟩
    · rw [List.length_map, List.length_range] at hi
      refine ⟨hi, fun y H3 hy => ?_⟩
      obtain ⟨rfl, rfl⟩ := hy
      refine ⟨Hf2, .refl s2, fun a ha => ?_⟩
      rw [List.getElem?_map, List.getElem?_range hi] at ha
      obtain rfl := Option.some.inj ha
      rw [Int.zero_add]
      exact .int _
    · rw [List.length_map, List.length_range] at hi
      exact hi
theorem ei_enum {t : TA} {xs : List As} (h : EvS t Γ [LsA xs]) : EvI (iEnum K t) Γ ((List.range xs.length).map fun i => TpA K [Dt K (.int ((i : Nat) : Int)), xs.getD i (Dt K .none)]) := fun Hf H σ A e R q =>
  h Hf H σ A e _ fun vs Hf1 H1 e1 pv => by
    obtain ⟨v, rfl, p, ws, rfl, hp, pw⟩ := pa1 pv
    have hl := pa_len pw
    refine ⟨p, ws, rfl, .inl (.inl (e1.z _ _ hp)), q _ Hf1 H1 e1 fun Hf2 H2 s1 s2 i => ⟨fun hi => ?_, fun hi => ?_⟩⟩
    · rw [List.length_map, List.length_range] at hi
      have hs : SqL K H2 p ws := .inl (.inl (s2 _ _ (s1 _ _ hp)))
      have hv : i < ws.length := by omega
      refine ⟨⟨ws, ws[i], hs, List.getElem?_eq_getElem hv⟩, fun y H3 hy => ?_⟩
      obtain ⟨T, x, rfl, hT, rfl, hx⟩ := hy
      refine ⟨_, .new s2 hT, fun a ha => ?_⟩
      rw [List.getElem?_map, List.getElem?_range hi] at ha
      obtain rfl := Option.some.inj ha
      refine ⟨T, _, rfl, .inl (.inl upd_same), .cons (.int _) (.cons ?_ .nil)⟩
      have hxs : xs[i]? = some (xs.getD i (Dt K .none)) := by rw [List.getD_eq_getElem?_getD, List.getElem?_eq_getElem hi]; rfl
      obtain ⟨w, hw, pw'⟩ := pa_get pw hxs
      have := hx ws hs
      rw [hw] at this
      obtain rfl := Option.some.inj this
      exact (xs.getD i (Dt K .none)).mono (s1.trans (Ext.new (o := .tup _) s2 hT).f) pw'
    · rw [List.length_map, List.length_range] at hi
      exact ⟨ws, .inl (.inl (s2 _ _ (s1 _ _ hp))), by omega⟩
end

/-! ### targets -/
def EvG (g : TG) (a : As) (Γ Γ' : List Sl) : Prop := ∀ Hf H σ A, Env Hf H σ Γ A → ∀ v, a.p Hf v → ∀ Q : L2.St → Hp → Prop, (∀ σ' A', Env Hf H σ' Γ' A' → (∀ i x, x ∈ A' i → x ∈ A i) → Q σ' H) → g v σ H Q
def EvGs (g : TGs) (as : List As) (Γ Γ' : List Sl) : Prop := ∀ Hf H σ A, Env Hf H σ Γ A → ∀ vs, Pa Hf vs as → ∀ Q : L2.St → Hp → Prop, (∀ σ' A', Env Hf H σ' Γ' A' → (∀ i x, x ∈ A' i → x ∈ A i) → Q σ' H) → g vs σ H Q
section
variable {K : PySem.W.Frag} {Γ Γ' Γ1 : List Sl} {a : As}
theorem Env.putAs {Hf H : Hp} {σ : L2.St} {A : Nat → List Addr} (h : Env Hf H σ Γ A) (i : Nat) {v : V} (p : a.p Hf v) : ∃ A', Env Hf H (σ.set i (some v)) (Γ.set i (.as a)) A' ∧ ∀ j x, x ∈ A' j → x ∈ A j := by
  by_cases hi : i < Γ.length
  · refine ⟨_, h.put i (some v) (.as a) [] ⟨rfl, v, rfl, p⟩ (fun _ _ _ z => nomatch z) hi, fun j x hx => ?_⟩
    have hx' : x ∈ (if j = i then [] else A j) := hx
    by_cases c : j = i
    · rw [if_pos c] at hx'; cases hx'
    · rw [if_neg c] at hx'; exact hx'
  · have hl := h.len
    rw [List.set_eq_of_length_le (by omega), List.set_eq_of_length_le (by omega)]
    exact ⟨A, h, fun _ _ x => x⟩
theorem Env.putUn {Hf H : Hp} {σ : L2.St} {A : Nat → List Addr} (h : Env Hf H σ Γ A) (i : Nat) (o : Option V) : ∃ A', Env Hf H (σ.set i o) (Γ.set i .un) A' ∧ ∀ j x, x ∈ A' j → x ∈ A j := by
  by_cases hi : i < Γ.length
  · refine ⟨_, h.put i o .un [] rfl (fun _ _ _ z => nomatch z) hi, fun j x hx => ?_⟩
    have hx' : x ∈ (if j = i then [] else A j) := hx
    by_cases c : j = i
    · rw [if_pos c] at hx'; cases hx'
    · rw [if_neg c] at hx'; exact hx'
  · have hl := h.len
    rw [List.set_eq_of_length_le (by omega), List.set_eq_of_length_le (by omega)]
    exact ⟨A, h, fun _ _ x => x⟩
theorem eg_name {i : Nat} : EvG (gName i) a Γ (Γ.set i (.as a)) := fun Hf H σ A e v p Q q => let ⟨A', h, s⟩ := e.putAs i p; q _ A' h s
theorem eg_nil : EvGs gNil [] Γ Γ := fun Hf H σ A e vs p Q q => by cases p; exact ⟨rfl, q σ A e fun _ _ x => x⟩
theorem eg_cons {t : TG} {u : TGs} {as : List As} (h : EvG t a Γ Γ1) (hr : EvGs u as Γ1 Γ') : EvGs (gCons t u) (a :: as) Γ Γ' := fun Hf H σ A e vs p Q q => by
  cases p with
  | cons p ps => exact ⟨_, _, rfl, h Hf H σ A e _ p _ fun σ1 A1 e1 s1 => hr Hf H σ1 A1 e1 _ ps _ fun σ2 A2 e2 s2 => q σ2 A2 e2 fun i x hx => s1 i x (s2 i x hx)⟩
theorem eg_tupA {n : Nat} {t : TGs} {as : List As} (h : EvGs t as Γ Γ') (hn : as.length = n) : EvG (gTup K n t) (TpA K as) Γ Γ' := fun Hf H σ A e v p Q q => by
  obtain ⟨b, vs, rfl, hp, pv⟩ := p
  exact ⟨b, vs, rfl, sqt_mono e.z hp, by rw [pa_len pv]; exact hn, h Hf H σ A e vs pv Q q⟩
theorem EvG.le {g : TG} {b : As} (h : EvG g a Γ Γ') (l : b.le a) : EvG g b Γ Γ' := fun Hf H σ A e v p Q q => h Hf H σ A e v (l _ _ p) Q q
theorem eg_tup {n : Nat} {t : TGs} {ds : List PyData} (h : EvGs t (ds.map (Dt K)) Γ Γ') (hn : ds.length = n) : EvG (gTup K n t) (Dt K (.tuple ds)) Γ Γ' := (eg_tupA h (by rw [List.length_map]; exact hn)).le tpA_ge
/-- a comprehension's own slots -/
def wipeG (Γ : List Sl) : List Nat → List Sl
  | [] => Γ
  | v :: vs => (wipeG Γ vs).set v .un
theorem Env.wipe {Hf H : Hp} {σ : L2.St} {A : Nat → List Addr} (h : Env Hf H σ Γ A) : ∀ vs : List Nat, ∃ A', Env Hf H (L2.wipe σ vs) (wipeG Γ vs) A' ∧ ∀ j x, x ∈ A' j → x ∈ A j
  | [] => ⟨A, h, fun _ _ x => x⟩
  | v :: vs => by
    obtain ⟨A1, h1, s1⟩ := h.wipe vs
    obtain ⟨A2, h2, s2⟩ := h1.putUn v none
    exact ⟨A2, h2, fun j x hx => s1 j x (s2 j x hx)⟩
/-- a target keeps to the comprehension's own slots -/
def GW (g : TG) (vs : List Nat) : Prop := ∀ v σ0 σ H Q, L2.wipe σ vs = L2.wipe σ0 vs → g v σ H Q → g v σ H fun σ2 H2 => L2.wipe σ2 vs = L2.wipe σ0 vs ∧ Q σ2 H2
def GWs (g : TGs) (vs : List Nat) : Prop := ∀ ws σ0 σ H Q, L2.wipe σ vs = L2.wipe σ0 vs → g ws σ H Q → g ws σ H fun σ2 H2 => L2.wipe σ2 vs = L2.wipe σ0 vs ∧ Q σ2 H2
theorem wipe_get (σ : L2.St) : ∀ (vs : List Nat) (i : Nat), (L2.wipe σ vs)[i]? = if i ∈ vs ∧ i < σ.length then some none else σ[i]?
  | [], i => by simp [L2.wipe]
  | v :: vs, i => by
    show ((L2.wipe σ vs).set v none)[i]? = _
    rw [List.getElem?_set, wipe_get σ vs i, wipe_length]
    by_cases c : v = i
    · subst c
      by_cases d : v < σ.length
      · simp [d]
      · simp [d]
    · have : i ∈ v :: vs ↔ i ∈ vs := by simp [Ne.symm c]
      simp only [if_neg c, this]
theorem wipe_set {σ : L2.St} {vs : List Nat} {i : Nat} {o : Option V} (h : i ∈ vs) : L2.wipe (σ.set i o) vs = L2.wipe σ vs := by
  apply List.ext_getElem?
  intro j
  rw [wipe_get, wipe_get, List.length_set]
  by_cases c : i = j
  · subst c
    by_cases d : i < σ.length
    · simp [h, d]
    · rw [List.set_eq_of_length_le (by omega)]
  · rw [List.getElem?_set_ne c]
theorem gw_name {i : Nat} {vs : List Nat} (h : i ∈ vs) : GW (gName i) vs := fun v σ0 σ H Q e q => ⟨(wipe_set h).trans e, q⟩
theorem gw_nil {vs : List Nat} : GWs gNil vs := fun ws σ0 σ H Q e q => ⟨q.1, e, q.2⟩
theorem gw_cons {t : TG} {u : TGs} {vs : List Nat} (hm : ∀ v σ H (Q Q' : L2.St → Hp → Prop), (∀ s h, Q s h → Q' s h) → t v σ H Q → t v σ H Q') (h : GW t vs) (hr : GWs u vs) : GWs (gCons t u) vs := fun ws σ0 σ H Q e q => by
  obtain ⟨v, r, rfl, q⟩ := q
  exact ⟨v, r, rfl, hm _ _ _ _ _ (fun s h' p => hr r σ0 s h' Q p.1 p.2) (h v σ0 σ H _ e q)⟩
theorem gw_tup {n : Nat} {t : TGs} {vs : List Nat} (h : GWs t vs) : GW (gTup K n t) vs := fun v σ0 σ H Q e q => by
  obtain ⟨a, xs, rfl, h1, h2, q⟩ := q
  exact ⟨a, xs, rfl, h1, h2, h xs σ0 σ H Q e q⟩
theorem gm_name {i : Nat} : ∀ v σ H (Q Q' : L2.St → Hp → Prop), (∀ s h, Q s h → Q' s h) → gName i v σ H Q → gName i v σ H Q' := fun v σ H Q Q' m q => m _ _ q
theorem gms_nil : ∀ v σ H (Q Q' : L2.St → Hp → Prop), (∀ s h, Q s h → Q' s h) → gNil v σ H Q → gNil v σ H Q' := fun v σ H Q Q' m q => ⟨q.1, m _ _ q.2⟩
theorem gms_cons {t : TG} {u : TGs} (hm : ∀ v σ H (Q Q' : L2.St → Hp → Prop), (∀ s h, Q s h → Q' s h) → t v σ H Q → t v σ H Q') (hr : ∀ v σ H (Q Q' : L2.St → Hp → Prop), (∀ s h, Q s h → Q' s h) → u v σ H Q → u v σ H Q') :
    ∀ v σ H (Q Q' : L2.St → Hp → Prop), (∀ s h, Q s h → Q' s h) → gCons t u v σ H Q → gCons t u v σ H Q' := fun v σ H Q Q' m q => by
  obtain ⟨x, r, rfl, q⟩ := q
  exact ⟨x, r, rfl, hm _ _ _ _ _ (fun s h' p => hr _ _ _ _ _ m p) q⟩
theorem gm_tup {n : Nat} {t : TGs} (hr : ∀ v σ H (Q Q' : L2.St → Hp → Prop), (∀ s h, Q s h → Q' s h) → t v σ H Q → t v σ H Q') :
    ∀ v σ H (Q Q' : L2.St → Hp → Prop), (∀ s h, Q s h → Q' s h) → gTup K n t v σ H Q → gTup K n t v σ H Q' := fun v σ H Q Q' m q => by
  obtain ⟨a, xs, rfl, h1, h2, q⟩ := q
  exact ⟨a, xs, rfl, h1, h2, hr _ _ _ _ _ m q⟩
end

/-! ### comprehensions: zs tells of each turn what it gives (none: left out) -/
section
variable {K : PySem.W.Frag} {Γ : List Sl}
theorem ew_lc {wi : TI} {g : TG} {tt : TT} {te : TE} {vs : List Nat} {xs : List As} (zs : List (Option As)) (hw : GW g vs) (hi : EvI wi Γ xs) (hl : zs.length = xs.length) (hz : xs.length ≤ 10000000)
    (h : ∀ (i : Nat) (a : As), xs[i]? = some a → ∃ Γ1, EvG g a (wipeG Γ vs) Γ1 ∧ ∀ z, zs[i]? = some z → match z with | none => EvB tt Γ1 false | some y => EvB tt Γ1 true ∧ EvA te Γ1 y) :
    EvW (tLc wi g tt te vs) Γ (OL (zs.filterMap id)) := fun Hf H σ A e Q q =>
  hi Hf H σ A e _ fun J Hf1 H1 e1 hJ D hD => by
    have hD1 : Hf1 D = none := e1.z.free hD
    have hDH : H D = none := e1.h.free hD
    refine ⟨fun i m H' => i + m = xs.length ∧ ∃ Hf' acc, Ext Hf1 H1 Hf' H' ∧ Hf' D = none ∧ H' D = some (.lst acc) ∧ Pa Hf' acc ((zs.take i).filterMap id), ⟨xs.length, ?_⟩, fun i m H' hW => ?_⟩
    · exact ⟨by omega, Hf1, [], .loose e1.z hD, hD1, upd_same, .nil⟩
    · obtain ⟨him, Hf', acc, E, hfD, hHD, pacc⟩ := hW
      have hJi := hJ Hf' H' E.f E.z i
      by_cases c : i < xs.length
      · right
        refine ⟨(hJi.1 c).1, fun H'' => ∃ Hf' acc, Ext Hf1 H1 Hf' H'' ∧ Hf' D = none ∧ H'' D = some (.lst acc) ∧ Pa Hf' acc ((zs.take (i + 1)).filterMap id), fun H'' hN => ⟨m - 1, by omega, by omega, hN⟩, fun x H2 hy => ?_⟩
        obtain ⟨Hf2, E2, hx⟩ := (hJi.1 c).2 x H2 hy
        have ha := List.getElem?_eq_getElem c
        have px := hx _ ha
        obtain ⟨Γ1, hg, ht⟩ := h i _ ha
        have hzi : zs[i]? = some zs[i] := List.getElem?_eq_getElem (by omega)
        have ht := ht _ hzi
        have e2 := e.ext ((e1.trans E).trans E2)
        obtain ⟨A1, ew, s1⟩ := e2.wipe vs
        have hDne : H' D ≠ none := by rw [hHD]; exact fun z => nomatch z
        have hfD2 := E2.n D hDne hfD
        have hHD2 := E2.h _ _ hHD
        have hww : L2.wipe (L2.wipe σ vs) vs = L2.wipe σ vs := by
          apply List.ext_getElem?
          intro j
          rw [wipe_get, wipe_length, wipe_get]
          by_cases d : j ∈ vs ∧ j < σ.length
          · rw [if_pos d, if_pos d]
          · rw [if_neg d, if_neg d]
        refine hw x σ _ H2 _ hww (hg Hf2 H2 _ A1 ew x px _ fun σ2 A2 e3 s2 => ?_)
        · have tk : (zs.take (i + 1)).filterMap id = (zs.take i).filterMap id ++ (match zs[i] with | none => [] | some y => [y]) := by
            rw [List.take_add_one, hzi, List.filterMap_append]
            cases zs[i] <;> rfl
          cases hzv : zs[i] with
          | none =>
            rw [hzv] at ht tk
            refine ht Hf2 H2 σ2 A2 e3 _ fun Hf3 H3 e4 => iteF ⟨Hf3, acc, (E.trans E2).trans e4, e4.n D (by rw [hHD2]; exact fun z => nomatch z) hfD2, e4.h _ _ hHD2, ?_⟩
            rw [tk, List.append_nil]
            exact pa_mono (E2.f.trans e4.f) pacc
          | some y =>
            rw [hzv] at ht tk
            refine ht.1 Hf2 H2 σ2 A2 e3 _ fun Hf3 H3 e4 => iteT (ht.2 Hf3 H3 σ2 A2 (e3.ext e4) _ fun v Hf4 H4 e5 pv => ?_)
            have E5 := E2.trans (e4.trans e5)
            have hfD4 := E5.n D hDne hfD
            have hHD4 := E5.h _ _ hHD
            have hal : acc.length ≤ i := by
              rw [pa_len pacc]
              exact Nat.le_trans (List.length_filterMap_le _ _) (by rw [List.length_take]; omega)
            refine ⟨acc, hHD4, Nat.lt_of_le_of_lt hal (by rw [sizeLine_eq]; omega), Hf4, acc ++ [v], ⟨(E.trans E5).f, fun a o ha => ?_, fun a o ha => ?_, (E.trans E5).n⟩, hfD4, upd_same, ?_⟩
            · rw [upd_ne (ne_of_none ha hD)]
              exact (E.trans E5).h a o ha
            · rw [upd_ne (ne_of_none ha hfD4)]
              exact e5.z a o ha
            · rw [tk]
              exact pa_app (pa_mono E5.f pacc) (.cons pv .nil)
      · left
        refine ⟨hJi.2 (by omega), ?_⟩
        rw [List.take_of_length_le (by omega)] at pacc
        exact q _ Hf' H' [D] (e1.trans E) (fun a ha => by
          obtain rfl : a = D := by simpa using ha
          exact hDH) ⟨D, acc, rfl, rfl, hfD, hHD, pacc⟩
/-- no test: each turn gives -/
theorem ew_lcA {wi : TI} {g : TG} {te : TE} {vs : List Nat} {xs : List As} (ys : List As) (hw : GW g vs) (hi : EvI wi Γ xs) (hl : ys.length = xs.length) (hz : xs.length ≤ 10000000)
    (h : ∀ (i : Nat) (a : As), xs[i]? = some a → ∃ Γ1, EvG g a (wipeG Γ vs) Γ1 ∧ ∀ y, ys[i]? = some y → EvA te Γ1 y) : EvW (tLc wi g tYes te vs) Γ (OL ys) := by
  have k := ew_lc (tt := tYes) (te := te) (ys.map some) hw hi (by rw [List.length_map]; exact hl) hz (fun i a ha => by
    obtain ⟨Γ1, hg, hy⟩ := h i a ha
    refine ⟨Γ1, hg, fun z hz' => ?_⟩
    rw [List.getElem?_map] at hz'
    cases hc : ys[i]? with
    | none => rw [hc] at hz'; cases hz'
    | some y =>
      rw [hc] at hz'
      obtain rfl := Option.some.inj hz'
      exact ⟨eb_yes, hy y hc⟩)
  rwa [show (ys.map some).filterMap id = ys by simp] at k
end
end DL

namespace DL
open PySem PySem.Spec L2
open PyProof.Rows hiding St

/-! ### statements -/
/-- what is wanted behind a statement -/
structure Kt where
  nx : List Sl → Prop
  rt : As → Prop
  ro : Ow → Prop
  bk : List Sl → Prop
  ct : List Sl → Prop
structure KOk (c : Cb) (k : Kt) (D : Ends) : Prop where
  nx : ∀ Γ, k.nx Γ → ∀ σ H Hf, StOk c Hf H σ Γ → D.nx σ H
  rt : ∀ a, k.rt a → ∀ v H Hf, Bok c Hf H → a.p Hf v → D.rt v H
  ro : ∀ o, k.ro o → ∀ v H Hf B, Bok c Hf H → (∀ a ∈ B, c.h a = none ∨ a ∈ c.W) → o.p Hf H v B → D.rt v H
  bk : ∀ Γ, k.bk Γ → ∀ σ H Hf, StOk c Hf H σ Γ → D.bk σ H
  ct : ∀ Γ, k.ct Γ → ∀ σ H Hf, StOk c Hf H σ Γ → D.ct σ H
def Rn (c : Cb) (ts : TS) (Γ : List Sl) (k : Kt) : Prop := ∀ D σ H Hf, StOk c Hf H σ Γ → KOk c k D → ts D σ H

section
variable {c : Cb} {K : PySem.W.Frag} {Γ Γ' : List Sl} {k : Kt} {te : TE} {tt : TT} {t u : TS} {a : As} {w : Ow} {g : TG}
theorem StOk.env {Hf H : Hp} {σ : L2.St} (s : StOk c Hf H σ Γ) : ∃ A, Env Hf H σ Γ A ∧ ∀ i, ∀ a ∈ A i, c.h a = none ∨ a ∈ c.W := s.e
theorem rn_weak (h : Rn c t Γ' k) (g : GLe Γ Γ') : Rn c t Γ k := fun D σ H Hf s q => h D σ H Hf (s.weak g) q
theorem rn_seq (h : Rn c t Γ { k with nx := fun Γ' => Rn c u Γ' k }) : Rn c (tSeq t u) Γ k := fun D σ H Hf s q =>
  h _ σ H Hf s ⟨fun Γ' r σ' H' Hf' s' => r D σ' H' Hf' s' q, q.rt, q.ro, q.bk, q.ct⟩
theorem rn_next (h : k.nx Γ) : Rn c tNext Γ k := fun D σ H Hf s q => q.nx Γ h σ H Hf s
theorem rn_asg {i : Nat} (h : EvA te Γ a) (n : k.nx (Γ.set i (.as a))) : Rn c (tAsg te (gName i)) Γ k := fun D σ H Hf s q => by
  obtain ⟨A, e, _⟩ := s.env
  exact h Hf H σ A e _ fun v Hf1 H1 e1 pv => q.nx _ n _ _ Hf1 ((s.ext e1).putAs i pv)
/-- any target of names -/
theorem rn_asgG (h : EvA te Γ a) (hg : EvG g a Γ Γ') (n : k.nx Γ') : Rn c (tAsg te g) Γ k := fun D σ H Hf s q => by
  obtain ⟨A, e, ha⟩ := s.env
  exact h Hf H σ A e _ fun v Hf1 H1 e1 pv => hg Hf1 H1 σ A (e.ext e1) v pv _ fun σ' A' e' sub => q.nx _ n _ _ Hf1 ⟨s.b.ext e1, A', e', fun i x hx => ha i x (sub i x hx)⟩
theorem owned_live {Hf H : Hp} {σ : L2.St} {A : Nat → List Addr} (e : Env Hf H σ Γ A) {j : Nat} {x : Addr} (hx : x ∈ A j) : H x ≠ none ∧ Hf x = none := by
  by_cases hj : j < Γ.length
  · have hk := e.ok j _ (List.getElem?_eq_getElem hj)
    cases hs : Γ[j] with
    | un => rw [hs] at hk; rw [show A j = [] from hk] at hx; cases hx
    | as a => rw [hs] at hk; rw [show A j = [] from hk.1] at hx; cases hx
    | ow w =>
      rw [hs] at hk
      obtain ⟨v, _, p⟩ := hk
      exact ⟨(w.fr p x hx).2, (w.fr p x hx).1⟩
  · rw [e.out j (by omega)] at hx; cases hx
theorem st_putOw {Hf H : Hp} {σ : L2.St} {A : Nat → List Addr} {B : List Addr} {i : Nat} {v : V} (b : Bok c Hf H) (e : Env Hf H σ Γ A) (ha : ∀ i, ∀ a ∈ A i, c.h a = none ∨ a ∈ c.W) (p : w.p Hf H v B) (hB : ∀ a ∈ B, c.h a = none ∨ a ∈ c.W)
    (hd : ∀ j, j ≠ i → ∀ a ∈ B, a ∉ A j) : StOk c Hf H (σ.set i (some v)) (Γ.set i (.ow w)) := by
  by_cases hi : i < Γ.length
  · refine ⟨b, atN A i B, e.put i (some v) (.ow w) B ⟨v, rfl, p⟩ hd hi, fun j x hx => ?_⟩
    have hx' : x ∈ (if j = i then B else A j) := hx
    by_cases c : j = i
    · rw [if_pos c] at hx'; exact hB x hx'
    · rw [if_neg c] at hx'; exact ha j x hx'
  · have hl := e.len
    rw [List.set_eq_of_length_le (by omega), List.set_eq_of_length_le (by omega)]
    exact ⟨b, A, e, ha⟩
theorem fresh_c {Hf H : Hp} {x : Addr} (b : Bok c Hf H) (h : H x = none) : c.h x = none := by
  cases y : c.h x with
  | none => rfl
  | some o => exact absurd h (b.k x (by rw [y]; exact fun z => nomatch z))
/-- a new thing of one's own -/
theorem rn_asgW {i : Nat} (h : EvW te Γ w) (n : k.nx (Γ.set i (.ow w))) : Rn c (tAsg te (gName i)) Γ k := fun D σ H Hf s q => by
  obtain ⟨A, e, ha⟩ := s.env
  exact h Hf H σ A e _ fun v Hf1 H1 B e1 hB pv => q.nx _ n _ _ Hf1 (st_putOw (s.b.ext e1) (e.ext e1) ha pv (fun x hx => .inl (fresh_c s.b (hB x hx))) fun j _ x hx hj => (owned_live e hj).1 (hB x hx))
theorem rn_drop (h : EvA te Γ a) (n : k.nx Γ) : Rn c (tDrop te) Γ k := fun D σ H Hf s q => by
  obtain ⟨A, e, _⟩ := s.env
  exact h Hf H σ A e _ fun v Hf1 H1 e1 pv => q.nx _ n _ _ Hf1 (s.ext e1)
theorem rn_ret (h : EvA te Γ a) (n : k.rt a) : Rn c (tRet te) Γ k := fun D σ H Hf s q => by
  obtain ⟨A, e, _⟩ := s.env
  exact h Hf H σ A e _ fun v Hf1 H1 e1 pv => q.rt a n v _ Hf1 (s.b.ext e1) pv
theorem rn_retN (n : k.rt (Dt K .none)) : Rn c tRetN Γ k := fun D σ H Hf s q => q.rt _ n _ H Hf s.b .non
theorem rn_retW (h : EvW te Γ w) (n : k.ro w) : Rn c (tRet te) Γ k := fun D σ H Hf s q => by
  obtain ⟨A, e, _⟩ := s.env
  exact h Hf H σ A e _ fun v Hf1 H1 B e1 hB pv => q.ro w n v _ Hf1 B (s.b.ext e1) (fun x hx => .inl (fresh_c s.b (hB x hx))) pv
theorem rn_retO {i : Nat} (h : Γ[i]? = some (.ow w)) (n : k.ro w) : Rn c (tRet (tVar i)) Γ k := fun D σ H Hf s q => by
  obtain ⟨A, e, ha⟩ := s.env
  obtain ⟨v, ev, p⟩ := e.ow h
  exact ⟨v, ev, q.ro w n v H Hf (A i) s.b (ha i) p⟩
theorem rn_if {b : Bool} (h : EvB tt Γ b) (h1 : b = true → Rn c t Γ k) (h2 : b = false → Rn c u Γ k) : Rn c (tIfS tt t u) Γ k := fun D σ H Hf s q => by
  obtain ⟨A, e, _⟩ := s.env
  refine h Hf H σ A e _ fun Hf1 H1 e1 => ?_
  cases b with
  | true => exact iteT (h1 rfl D σ H1 Hf1 (s.ext e1) q)
  | false => exact iteF (h2 rfl D σ H1 Hf1 (s.ext e1) q)
theorem rn_break (h : k.bk Γ) : Rn c tBreak Γ k := fun D σ H Hf s q => q.bk Γ h σ H Hf s
theorem rn_cont (h : k.ct Γ) : Rn c tCont Γ k := fun D σ H Hf s q => q.ct Γ h σ H Hf s
theorem rn_par {i j : Nat} {ta : TA} {b : As} (h : EvS ta Γ [a, b]) (n : k.nx ((Γ.set i (.as a)).set j (.as b))) : Rn c (tPar i j ta) Γ k := fun D σ H Hf s q => by
  obtain ⟨A, e, _⟩ := s.env
  refine h Hf H σ A e _ fun vs Hf1 H1 e1 pv => ?_
  obtain ⟨v, u, rfl, p1, p2⟩ := pa2 pv
  exact ⟨v, u, rfl, q.nx _ n _ _ Hf1 (((s.ext e1).putAs i p1).putAs j p2)⟩

/-- a thing of one's own, in slot i, turns: w to w2, at the addresses it has -/
def Turns (w w2 : Ow) (f : Hp → Hp → V → List Addr → Hp → Prop) : Prop := ∀ Hf H v A, w.p Hf H v A → ∀ H', f Hf H v A H' → w2.p Hf H' v A
theorem st_turn {Hf H H' : Hp} {σ : L2.St} {A : Nat → List Addr} {i : Nat} {v : V} {w2 : Ow} (b : Bok c Hf H) (e : Env Hf H σ Γ A) (ha : ∀ i, ∀ a ∈ A i, c.h a = none ∨ a ∈ c.W) (hi : Γ[i]? = some (.ow w)) (hv : σ[i]? = some (some v))
    (hk : ∀ a, a ∉ A i → H' a = H a) (hn : ∀ a ∈ A i, H' a ≠ none) (p : w2.p Hf H' v (A i)) : StOk c Hf H' σ (Γ.set i (.ow w2)) := by
  have hil : i < Γ.length := (List.getElem?_eq_some_iff.mp hi).1
  have hfr : ∀ a ∈ A i, Hf a = none := fun a h => (owned_live e h).2
  have z' : Same Hf H' := fun a o h => by
    have : a ∉ A i := fun hm => by rw [hfr a hm] at h; cases h
    rw [hk a this]; exact e.z a o h
  refine ⟨⟨b.f, fun a o hw h => ?_, b.n, fun a h => ?_, z'⟩, A, ⟨z', by rw [e.len, List.length_set], fun j s hs => ?_, e.dj, fun j hj => e.out j (by rw [List.length_set] at hj; exact hj)⟩, ha⟩
  · have : a ∉ A i := fun hm => by
      rcases ha i a hm with x | x
      · rw [x] at h; cases h
      · exact hw x
    rw [hk a this]; exact b.h a o hw h
  · by_cases hm : a ∈ A i
    · exact hn a hm
    · rw [hk a hm]; exact b.k a h
  · by_cases cj : i = j
    · subst cj
      rw [List.getElem?_set_self hil] at hs
      obtain rfl := Option.some.inj hs
      refine ⟨v, ?_, p⟩
      rw [List.getD_eq_getElem?_getD, hv]; rfl
    · rw [List.getElem?_set_ne cj] at hs
      have k := e.ok j s hs
      cases s with
      | un => exact k
      | as a => exact k
      | ow w3 =>
        obtain ⟨v3, ev3, p3⟩ := k
        have fr3 := w3.fr p3
        exact ⟨v3, ev3, w3.mono p3 (.refl _) (fun a ha => (fr3 a ha).1) fun a h3 => hk a fun hm => e.dj i j cj a hm h3⟩
/-- a thing of one's own stays from now on as it is -/
theorem st_fixL {Hf H : Hp} {σ : L2.St} {i : Nat} {as : List As} (s : StOk c Hf H σ Γ) (h : Γ[i]? = some (.ow (OL as))) (hW : c.W = []) : ∃ Hf', StOk c Hf' H σ (Γ.set i (.as (LsA as))) := by
  obtain ⟨A, e, ha⟩ := s.e
  have hil : i < Γ.length := (List.getElem?_eq_some_iff.mp h).1
  obtain ⟨v, ev, p, vs, rfl, eA, hf, hp, pv⟩ := e.ow h
  obtain ⟨f1, f2⟩ := fix1 e.z hf hp
  have hcp : c.h p = none := (ha i p (by rw [eA]; simp)).elim id fun z => by rw [hW] at z; cases z
  refine ⟨upd Hf p (.lst vs), ⟨s.b.f.trans f1, s.b.h, fun a h1 h2 => ?_, s.b.k, f2⟩, atN A i [], ⟨f2, by rw [e.len, List.length_set], fun j t ht => ?_, fun j k n a hj hk => ?_, fun j hj => ?_⟩, fun j a hj => ?_⟩
  · have hne : a ≠ p := fun z => h1 (by rw [z]; exact hcp)
    rw [upd_ne hne]; exact s.b.n a h1 h2
  · by_cases cj : i = j
    · subst cj
      rw [List.getElem?_set_self hil] at ht
      obtain rfl := Option.some.inj ht
      show SlOk _ _ _ (if i = i then [] else A i) _
      rw [if_pos rfl]
      refine ⟨rfl, .ref p, ?_, p, vs, rfl, upd_same, pa_mono f1 pv⟩
      rw [List.getD_eq_getElem?_getD, ev]; rfl
    · rw [List.getElem?_set_ne cj] at ht
      show SlOk _ _ _ (if j = i then [] else A j) _
      rw [if_neg (fun z => cj z.symm)]
      have k := e.ok j t ht
      cases t with
      | un => exact k
      | as a => obtain ⟨h1, v, h2, h3⟩ := k; exact ⟨h1, v, h2, a.mono f1 h3⟩
      | ow w3 =>
        obtain ⟨v3, ev3, p3⟩ := k
        have fr3 := w3.fr p3
        refine ⟨v3, ev3, w3.mono p3 f1 (fun a ha => ?_) fun _ _ => rfl⟩
        have hne : a ≠ p := fun z => e.dj i j cj a (by rw [eA, z]; simp) ha
        rw [upd_ne hne]; exact (fr3 a ha).1
  · have hj' : a ∈ (if j = i then [] else A j) := hj
    have hk' : a ∈ (if k = i then [] else A k) := hk
    by_cases c1 : j = i
    · rw [if_pos c1] at hj'; cases hj'
    · rw [if_neg c1] at hj'
      by_cases c2 : k = i
      · rw [if_pos c2] at hk'; cases hk'
      · rw [if_neg c2] at hk'; exact e.dj j k n a hj' hk'
  · rw [List.length_set] at hj
    show (if j = i then [] else A j) = []
    rw [if_neg (by omega)]; exact e.out j hj
  · have hj' : a ∈ (if j = i then [] else A j) := hj
    by_cases c1 : j = i
    · rw [if_pos c1] at hj'; cases hj'
    · rw [if_neg c1] at hj'; exact ha j a hj'
theorem rn_fixL {i : Nat} {as : List As} (h : Γ[i]? = some (.ow (OL as))) (n : Rn c t (Γ.set i (.as (LsA as))) k) (hW : c.W = [] := by rfl) : Rn c t Γ k := fun D σ H Hf s q => by
  obtain ⟨Hf', s'⟩ := st_fixL s h hW
  exact n D σ H Hf' s' q
/-- .. of data -/
theorem set_le {s t : Sl} (h : s.le t) : ∀ {Γ : List Sl} {i : Nat}, GLe (Γ.set i s) (Γ.set i t)
  | [], _ => .nil
  | _ :: _, 0 => .cons h GLe.refl
  | x :: _, _ + 1 => .cons x.le_refl (set_le h)
theorem rn_fixD {i : Nat} {ds : List PyData} (h : Γ[i]? = some (.ow (OL (ds.map (Dt K))))) (n : Rn c t (Γ.set i (.as (Dt K (.list ds)))) k) (hW : c.W = [] := by rfl) : Rn c t Γ k :=
  rn_fixL h (rn_weak n (set_le (s := .as (LsA (ds.map (Dt K)))) (t := .as (Dt K (.list ds))) lsA_le)) hW
/-- xs.append(e) -/
theorem turn_list {Hf H : Hp} {p : Addr} {vs ws : List V} {as : List As} (hf : Hf p = none) (pw : Pa Hf ws as) : (OL as).p Hf (upd H p (.lst ws)) (.ref p) [p] := ⟨p, ws, rfl, rfl, hf, upd_same, pw⟩
theorem st_list {Hf H : Hp} {σ : L2.St} {A : Nat → List Addr} {i : Nat} {p : Addr} {ws : List V} {as bs : List As} (b : Bok c Hf H) (e : Env Hf H σ Γ A) (ha : ∀ i, ∀ a ∈ A i, c.h a = none ∨ a ∈ c.W) (hi : Γ[i]? = some (.ow (OL as))) (hv : σ[i]? = some (some (.ref p))) (pw : Pa Hf ws bs) :
    StOk c Hf (upd H p (.lst ws)) σ (Γ.set i (.ow (OL bs))) := by
  obtain ⟨v, ev, p', vs, rfl, eA, hf, hp, pv⟩ := e.ow hi
  rw [hv] at ev
  obtain rfl : p = p' := by injection ev with ev; injection ev with ev; injection ev
  refine st_turn b e ha hi hv (fun a h => upd_ne fun z => h (by rw [eA, z]; simp)) (fun a h => ?_) (by rw [eA]; exact turn_list (vs := vs) hf pw)
  rw [eA] at h
  obtain rfl : a = p := by simpa using h
  rw [upd_same]; exact fun z => nomatch z
theorem rn_append {i : Nat} {as : List As} (hi : Γ[i]? = some (.ow (OL as))) (h : EvA te Γ a) (hl : as.length < sizeLine) (n : k.nx (Γ.set i (.ow (OL (as ++ [a]))))) : Rn c (tDrop (tBM K "list" rAppend (tVar i) (tCons te tNil))) Γ k := fun D σ H Hf s q => by
  obtain ⟨A, e, ha⟩ := s.e
  obtain ⟨v, ev, p, vs, rfl, eA, hf, hp, pv⟩ := e.ow hi
  refine ⟨.ref p, ev, .inl ⟨rfl, vs, .inl (.inl hp)⟩, h Hf H σ A e _ fun y Hf1 H1 e1 py => ?_⟩
  exact ⟨p, vs, y, rfl, rfl, e1.h _ _ hp, by rw [pa_len pv]; exact hl, q.nx _ n _ _ Hf1 (st_list (s.b.ext e1) (e.ext e1) ha hi ev (pa_app (pa_mono e1.f pv) (.cons py .nil)))⟩
theorem rn_extend {i : Nat} {as bs : List As} (hi : Γ[i]? = some (.ow (OL as))) (h : EvL te Γ bs) (hl : as.length + bs.length ≤ sizeLine) (n : k.nx (Γ.set i (.ow (OL (as ++ bs))))) : Rn c (tDrop (tBM K "list" rExtend (tVar i) (tCons te tNil))) Γ k := fun D σ H Hf s q => by
  obtain ⟨A, e, ha⟩ := s.e
  obtain ⟨v, ev, p, vs, rfl, eA, hf, hp, pv⟩ := e.ow hi
  refine ⟨.ref p, ev, .inl ⟨rfl, vs, .inl (.inl hp)⟩, h Hf H σ A e _ fun p2 ws Hf1 H1 e1 hp2 pw => ?_⟩
  exact ⟨p, p2, vs, ws, rfl, rfl, e1.h _ _ hp, hp2, by rw [pa_len pv, pa_len pw]; exact hl, q.nx _ n _ _ Hf1 (st_list (s.b.ext e1) (e.ext e1) ha hi ev (pa_app (pa_mono e1.f pv) pw))⟩
theorem pa_dropLast {H : Hp} : ∀ {vs : List V} {as : List As}, Pa H vs as → Pa H vs.dropLast as.dropLast
  | _, _, .nil => .nil
  | _, _, .cons h .nil => .nil
  | _, _, .cons h (.cons h2 q) => .cons h (pa_dropLast (.cons h2 q))
/-- xs.pop(), what it gives dropped -/
theorem rn_pop {i : Nat} {as : List As} (hi : Γ[i]? = some (.ow (OL as))) (hl : as ≠ []) (n : k.nx (Γ.set i (.ow (OL as.dropLast)))) : Rn c (tDrop (tBM0 K "list" rPop (tVar i))) Γ k := fun D σ H Hf s q => by
  obtain ⟨A, e, ha⟩ := s.e
  obtain ⟨v, ev, p, vs, rfl, eA, hf, hp, pv⟩ := e.ow hi
  have hlen := pa_len pv
  have hpos : 0 < vs.length := by rw [hlen]; exact List.length_pos_iff.mpr hl
  refine ⟨.ref p, ev, .inl ⟨rfl, vs, .inl (.inl hp)⟩, p, vs, vs[vs.length - 1], rfl, rfl, hp, List.getElem?_eq_getElem (by omega), q.nx _ n _ _ Hf (st_list s.b e ha hi ev (pa_dropLast pv))⟩
theorem pa_eraseIdx {H : Hp} : ∀ {vs : List V} {as : List As} (j : Nat), Pa H vs as → Pa H (vs.eraseIdx j) (as.eraseIdx j)
  | _, _, _, .nil => .nil
  | _, _, 0, .cons h q => q
  | _, _, j + 1, .cons h q => .cons h (pa_eraseIdx j q)
/-- ys.append(xs.pop(e)) -/
theorem rn_appendPop {i j : Nat} {as bs : List As} {x : As} {z : Int} {m : Nat} (hij : i ≠ j) (hi : Γ[i]? = some (.ow (OL as))) (hj : Γ[j]? = some (.ow (OL bs))) (h : EvA te Γ (Dt K (.int z))) (hz : z = (m : Int)) (hx : bs[m]? = some x) (hb : bs.length ≤ 1000000) (hl : as.length < sizeLine)
    (n : k.nx ((Γ.set j (.ow (OL (bs.eraseIdx m)))).set i (.ow (OL (as ++ [x]))))) : Rn c (tDrop (tBM K "list" rAppend (tVar i) (tCons (tBM K "list" rPopAt (tVar j) (tCons te tNil)) tNil))) Γ k := fun D σ H Hf s q => by
  obtain ⟨A, e, ha⟩ := s.e
  obtain ⟨v, ev, p, vs, rfl, eA, hf, hp, pv⟩ := e.ow hi
  obtain ⟨v2, ev2, p2, ws, rfl, eA2, hf2, hp2, pw⟩ := e.ow hj
  refine ⟨.ref p, ev, .inl ⟨rfl, vs, .inl (.inl hp)⟩, .ref p2, ev2, .inl ⟨rfl, ws, .inl (.inl hp2)⟩, h Hf H σ A e _ fun y Hf1 H1 e1 py => ?_⟩
  cases dt_int py
  subst hz
  obtain ⟨hm, _⟩ := List.getElem?_eq_some_iff.mp hx
  have hlw := pa_len pw
  obtain ⟨w, hw, pwx⟩ := pa_get (pa_mono e1.f pw) hx
  have hne : p ≠ p2 := fun z => e.dj i j hij p (by rw [eA]; simp) (by rw [eA2, z]; simp)
  have s1 := st_list (s.b.ext e1) (e.ext e1) ha hj ev2 (pa_eraseIdx m (pa_mono e1.f pw))
  have hsi : seqIndex? ((m : Nat) : Int) ws.length = some m := by
    have := (ixN_seq (n := ws.length) (i := (m : Int)) (j := m) (by unfold ixN; rw [if_pos (by omega), if_pos (by omega)]; simp)).1
    exact this
  refine ⟨p2, ws, ((m : Nat) : Int), m, w, rfl, rfl, e1.h _ _ hp2, by omega, by omega, hsi, hw, p, vs, w, rfl, rfl, by rw [upd_ne hne]; exact e1.h _ _ hp, by rw [pa_len pv]; exact hl, ?_⟩
  obtain ⟨A', e', ha'⟩ := s1.e
  exact q.nx _ n _ _ Hf1 (st_list s1.b e' ha' (by rw [List.getElem?_set_ne (Ne.symm hij)]; exact hi) ev (pa_app (pa_mono e1.f pv) (.cons pwx .nil)))

/-! loops -/
/-- a later start: more is fixed -/
structure Sub (c c' : Cb) : Prop where
  w : c'.W = c.W
  h : c'.h = c.h
  b : ∀ {Hf H : Hp}, Bok c' Hf H → Bok c Hf H
theorem Sub.refl (c : Cb) : Sub c c := ⟨rfl, rfl, fun h => h⟩
theorem Sub.trans {c c1 c2 : Cb} (a : Sub c c1) (b : Sub c1 c2) : Sub c c2 := ⟨b.w.trans a.w, b.h.trans a.h, fun h => a.b (b.b h)⟩
theorem Sub.st {c c' : Cb} (s : Sub c c') {Hf H : Hp} {σ : L2.St} {Γ : List Sl} (h : StOk c' Hf H σ Γ) : StOk c Hf H σ Γ :=
  ⟨s.b h.b, let ⟨A, e, ha⟩ := h.e; ⟨A, e, fun i a hm => by rw [← s.w, ← s.h]; exact ha i a hm⟩⟩
theorem KOk.sub {c c' : Cb} (s : Sub c c') {k : Kt} {D : Ends} (h : KOk c k D) : KOk c' k D where
  nx := fun Γ g σ H Hf x => h.nx Γ g σ H Hf (s.st x)
  rt := fun a g v H Hf x => h.rt a g v H Hf (s.b x)
  ro := fun o g v H Hf B x y => h.ro o g v H Hf B (s.b x) (by rw [← s.w, ← s.h]; exact y)
  bk := fun Γ g σ H Hf x => h.bk Γ g σ H Hf (s.st x)
  ct := fun Γ g σ H Hf x => h.ct Γ g σ H Hf (s.st x)
/-- W: what holds between turns (turn, slots) -/
theorem rn_for {wi : TI} {xs : List As} (W : Nat → List Sl → Prop) (hi : EvI wi Γ xs) (h0 : W 0 Γ)
    (hs : ∀ (c' : Cb) (_ : Sub c c') (i : Nat) (a : As) (Γ1 : List Sl), W i Γ1 → xs[i]? = some a → ∃ Γ2, EvG g a Γ1 Γ2 ∧ Rn c' t Γ2 { k with nx := fun Γ3 => ∃ Γ4, GLe Γ3 Γ4 ∧ W (i + 1) Γ4, ct := fun Γ3 => ∃ Γ4, GLe Γ3 Γ4 ∧ W (i + 1) Γ4, bk := k.nx })
    (hd : ∀ Γ1, W xs.length Γ1 → k.nx Γ1) : Rn c (tFor wi g t) Γ k := fun D σ H Hf s q => by
  obtain ⟨A, e, ha⟩ := s.e
  refine hi Hf H σ A e _ fun J Hf1 H1 e1 hJ => ?_
  have s1 := s.ext e1
  have sb : Sub c ⟨Hf1, c.h, c.W⟩ := ⟨rfl, rfl, fun {Hf2 H2} b => ⟨s1.b.f.trans b.f, b.h, fun a h1 h2 => b.n a h1 (s1.b.n a h1 h2), b.k, b.z⟩⟩
  have s1' : StOk ⟨Hf1, c.h, c.W⟩ Hf1 H1 σ Γ := ⟨⟨.refl _, s1.b.h, fun a _ h => h, s1.b.k, s1.b.z⟩, s1.e⟩
  refine ⟨fun i m σ' H' => i + m = xs.length ∧ ∃ Γ1 Hf', W i Γ1 ∧ StOk ⟨Hf1, c.h, c.W⟩ Hf' H' σ' Γ1, ⟨xs.length, by omega, Γ, Hf1, h0, s1'⟩, fun i m σ' H' hW => ?_⟩
  obtain ⟨him, Γ1, Hf', w1, s2⟩ := hW
  have hJi := hJ Hf' H' s2.b.f s2.b.z i
  by_cases ci : i < xs.length
  · right
    have hx := List.getElem?_eq_getElem ci
    obtain ⟨Γ2, hg, hr⟩ := hs _ sb i _ Γ1 w1 hx
    refine ⟨(hJi.1 ci).1, fun σ2 H2 => ∃ Γ3 Hf2, W (i + 1) Γ3 ∧ StOk ⟨Hf1, c.h, c.W⟩ Hf2 H2 σ2 Γ3, fun σ2 H2 ⟨Γ3, Hf2, w3, s3⟩ => ⟨m - 1, by omega, by omega, Γ3, Hf2, w3, s3⟩, fun x H2 hy => ?_⟩
    obtain ⟨Hf2, E2, px⟩ := (hJi.1 ci).2 x H2 hy
    have s3 := s2.ext E2
    obtain ⟨A1, e1', ha1⟩ := s3.e
    refine hg Hf2 H2 σ' A1 e1' x (px _ hx) _ fun σ3 A3 e3 sub => hr _ σ3 H2 Hf2 ⟨s3.b, A3, e3, fun i x hx => ha1 i x (sub i x hx)⟩ ?_
    have q' := q.sub sb
    exact ⟨fun Γ3 ⟨Γ4, le, w4⟩ σ4 H4 Hf4 s4 => ⟨Γ4, Hf4, w4, s4.weak le⟩, q'.rt, q'.ro, fun Γ3 n σ4 H4 Hf4 s4 => q'.nx Γ3 n σ4 H4 Hf4 s4, fun Γ3 ⟨Γ4, le, w4⟩ σ4 H4 Hf4 s4 => ⟨Γ4, Hf4, w4, s4.weak le⟩⟩
  · left
    refine ⟨hJi.2 (by omega), ?_⟩
    obtain rfl : i = xs.length := by omega
    exact q.nx _ (hd Γ1 w1) _ _ Hf' (sb.st s2)
/-- W: what holds at each test, with a number that falls -/
theorem rn_while (W : Nat → List Sl → Prop) (m0 : Nat) (h0 : W m0 Γ)
    (hs : ∀ (m : Nat) (Γ1 : List Sl), W m Γ1 → ∃ b, EvB tt Γ1 b ∧ (b = true → Rn c t Γ1 { k with nx := fun Γ3 => ∃ Γ4 m', m' < m ∧ GLe Γ3 Γ4 ∧ W m' Γ4, ct := fun Γ3 => ∃ Γ4 m', m' < m ∧ GLe Γ3 Γ4 ∧ W m' Γ4, bk := k.nx }) ∧ (b = false → k.nx Γ1)) :
    Rn c (tWhile tt t) Γ k := fun D σ H Hf s q => by
  refine ⟨fun m σ' H' => ∃ Γ1 Hf', W m Γ1 ∧ StOk c Hf' H' σ' Γ1, ⟨m0, Γ, Hf, h0, s⟩, fun m σ' H' ⟨Γ1, Hf', w1, s1⟩ => ?_⟩
  obtain ⟨b, hb, ht, hf⟩ := hs m Γ1 w1
  obtain ⟨A, e, ha⟩ := s1.e
  refine hb Hf' H' σ' A e _ fun Hf2 H2 e2 => ?_
  have s2 := s1.ext e2
  cases b with
  | true =>
    refine iteT ⟨fun σ3 H3 => ∃ m', m' < m ∧ ∃ Γ3 Hf3, W m' Γ3 ∧ StOk c Hf3 H3 σ3 Γ3, fun σ3 H3 ⟨m', hm, h⟩ => ⟨m', hm, h⟩, ht rfl _ σ' H2 Hf2 s2 ?_⟩
    exact ⟨fun Γ3 ⟨Γ4, m', hm, le, w4⟩ σ4 H4 Hf4 s4 => ⟨m', hm, Γ4, Hf4, w4, s4.weak le⟩, q.rt, q.ro, fun Γ3 n σ4 H4 Hf4 s4 => q.nx Γ3 n σ4 H4 Hf4 s4, fun Γ3 ⟨Γ4, m', hm, le, w4⟩ σ4 H4 Hf4 s4 => ⟨m', hm, Γ4, Hf4, w4, s4.weak le⟩⟩
  | false => exact iteF (q.nx _ (hf rfl) _ _ Hf2 s2)
end

/-! ### defs -/
inductive Outc where
  | ret (a : As)
  | own (w : Ow)
  | exc (C : Addr)
def SpD (n : Nat) (R : List As → Outc → Prop) : Sp := fun vs H Q E => ∃ Hf as o, as.length = n ∧ Same Hf H ∧ Pa Hf vs as ∧ R as o ∧ match o with
  | .ret a => ∀ v Hf' H', Ext Hf H Hf' H' → a.p Hf' v → Q v H'
  | .own w => ∀ v Hf' H' B, Ext Hf H Hf' H' → (∀ a ∈ B, H a = none) → w.p Hf' H' v B → Q v H'
  | .exc C => ∀ Hf' H', Ext Hf H Hf' H' → E (.ref C) none H'
def Kof : Outc → Kt
  | .ret a => ⟨fun _ => ∀ (H : Hp), a.p H .non, fun b => b.le a, fun _ => False, fun _ => False, fun _ => False⟩
  | .own w => ⟨fun _ => False, fun _ => False, fun u => ∀ Hf H v A, u.p Hf H v A → w.p Hf H v A, fun _ => False, fun _ => False⟩
  | .exc _ => ⟨fun _ => False, fun _ => False, fun _ => False, fun _ => False, fun _ => False⟩
/-- the slots at the start -/
def G0 (m : Nat) (as : List As) : List Sl := as.map Sl.as ++ List.replicate (m - as.length) .un
theorem bok_start {Hf H : Hp} (z : Same Hf H) : Bok ⟨Hf, H, []⟩ Hf H := ⟨.refl _, fun _ _ _ h => h, fun _ _ h => h, fun _ h => h, z⟩
theorem Bok.toExt {Hf H Hf' H' : Hp} (b : Bok ⟨Hf, H, []⟩ Hf' H') : Ext Hf H Hf' H' := ⟨b.f, fun a o h => b.h a o (fun z => nomatch z) h, b.z, b.n⟩
theorem env_start {Hf H : Hp} {N : List Str} {vs : List V} {as : List As} (z : Same Hf H) (p : Pa Hf vs as) : Env Hf H (L2.start N vs) (G0 N.length as) (fun _ => []) where
  z := z
  len := by
    have := pa_len p
    unfold L2.start G0
    rw [List.length_append, List.length_append, List.length_map, List.length_map, List.length_replicate, List.length_replicate, this]
  ok := fun i s h => by
    have hl := pa_len p
    unfold G0 at h
    by_cases c : i < as.length
    · rw [List.getElem?_append_left (by rw [List.length_map]; exact c), List.getElem?_map, List.getElem?_eq_getElem c] at h
      obtain rfl := Option.some.inj h
      obtain ⟨v, hv, pv⟩ := pa_get p (List.getElem?_eq_getElem c)
      refine ⟨rfl, v, ?_, pv⟩
      unfold L2.start
      rw [List.getD_eq_getElem?_getD, List.getElem?_append_left (by rw [List.length_map]; omega), List.getElem?_map, hv]; rfl
    · rw [List.getElem?_append_right (by rw [List.length_map]; omega)] at h
      have := List.mem_of_getElem? h
      obtain rfl := List.eq_of_mem_replicate this
      rfl
  dj := fun _ _ _ _ h => nomatch h
  out := fun _ _ => rfl
def EOk (c : Cb) (E : XK) : Outc → Prop
  | .exc C => ∀ {Hf H : Hp}, Bok c Hf H → E (.ref C) none H
  | _ => True
theorem start_run {N : List Str} {vs : List V} {as : List As} {Hf H : Hp} {t : TS} {o : Outc} {Q : VK} {E : XK} (z : Same Hf H) (p : Pa Hf vs as)
    (ho : match o with
      | .ret a => ∀ v Hf' H', Ext Hf H Hf' H' → a.p Hf' v → Q v H'
      | .own w => ∀ v Hf' H' B, Ext Hf H Hf' H' → (∀ a ∈ B, H a = none) → w.p Hf' H' v B → Q v H'
      | .exc C => ∀ Hf' H', Ext Hf H Hf' H' → E (.ref C) none H')
    (h : Rn ⟨Hf, H, []⟩ t (G0 N.length as) (Kof o)) : t { nx := fun _ H' => Q .non H', rt := Q } (L2.start N vs) H := by
  refine h _ _ H Hf ⟨bok_start z, _, env_start z p, fun _ _ h => nomatch h⟩ ?_
  cases o with
  | ret a => exact ⟨fun Γ g σ' H' Hf' s => ho _ Hf' H' s.b.toExt (g Hf'), fun b g v H' Hf' s pv => ho v Hf' H' s.toExt (g _ _ pv), fun _ z => z.elim, fun _ z => z.elim, fun _ z => z.elim⟩
  | own w => exact ⟨fun _ z => z.elim, fun _ z => z.elim, fun u g v H' Hf' B s hB pv => ho v Hf' H' B s.toExt (fun a ha => (hB a ha).elim id fun z => nomatch z) (g _ _ _ _ pv), fun _ z => z.elim, fun _ z => z.elim⟩
  | exc C => exact ⟨fun _ z => z.elim, fun _ z => z.elim, fun _ z => z.elim, fun _ z => z.elim, fun _ z => z.elim⟩
section
variable {P : Program} {w : World} {K : PySem.W.Frag} {mg : Str → Option Value} {base : Heap}
/-- a def that raises nothing, by its body -/
theorem def_ok {x qual : Str} {st : Stmt} {f : Addr} {fd : FuncData} {N ps : List Str} {k n : Nat} {R : List As → Outc → Prop} (F : L2.Fun K x qual st f fd) (S : FnScope N ps (defScope st)) (hn : ps.length = n)
    (hb : ∀ (cdv : Value) (A : Around) (outer : List PySem.Env) (s : Shared) (Hf H : Hp) (as : List As) (o : Outc) (E : XK), Room k (A.deeper (envOfC qual (defScope st) s.heap.objs.size f cdv)) → R as o →
      ∃ t, PSs (cxOf L2.CX0 P w K mg base N qual (defScope st) f cdv A outer s H E).nox (defBody st) t ∧ Rn ⟨Hf, H, []⟩ t (G0 N.length as) (Kof o)) : FnOk P w K mg base L2.CX0 (k + 1) f fd ps (SpD n R) := by
  refine F.ok S (fun vs H Q E ⟨Hf, as, o, hl, _, p, _⟩ => by rw [pa_len p, hl, hn]) fun cdv A outer s H vs Q E hr ⟨Hf, as, o, hl, z, p, r, ho⟩ => ?_
  obtain ⟨t, h1, h2⟩ := hb cdv A outer s Hf H as o E hr r
  exact ⟨t, h1, start_run z p ho h2⟩
/-- a def that may raise -/
theorem def_okX {x qual : Str} {st : Stmt} {f : Addr} {fd : FuncData} {N ps : List Str} {k n : Nat} {R : List As → Outc → Prop} (F : L2.Fun K x qual st f fd) (S : FnScope N ps (defScope st)) (hn : ps.length = n)
    (hb : ∀ (cdv : Value) (A : Around) (outer : List PySem.Env) (s : Shared) (Hf H : Hp) (as : List As) (o : Outc) (E : XK), Room k (A.deeper (envOfC qual (defScope st) s.heap.objs.size f cdv)) → R as o → EOk ⟨Hf, H, []⟩ E o →
      ∃ t, PSs (cxOf (L2.CX P w) P w K mg base N qual (defScope st) f cdv A outer s H E) (defBody st) t ∧ Rn ⟨Hf, H, []⟩ t (G0 N.length as) (Kof o)) : FnOk P w K mg base (L2.CX P w) (k + 1) f fd ps (SpD n R) := by
  refine F.okX S (fun vs H Q E ⟨Hf, as, o, hl, _, p, _⟩ => by rw [pa_len p, hl, hn]) fun cdv A outer s H vs Q E hr ⟨Hf, as, o, hl, z, p, r, ho⟩ => ?_
  obtain ⟨t, h1, h2⟩ := hb cdv A outer s Hf H as o E hr r (by
    cases o with
    | ret a => trivial
    | own w => trivial
    | exc C => exact fun {Hf' H'} b => ho Hf' H' b.toExt)
  exact ⟨t, h1, start_run z p ho h2⟩
/-- a def of the module that may be called -/
structure Cl (P : Program) (w : World) (K : PySem.W.Frag) (mg : Str → Option Value) (base : Heap) (CX : CXT) (k : Nat) (x : Str) (sp : Sp) : Prop where
  ex : ∃ (f : Addr) (fd : FuncData) (ps : List Str), FnOk P w K mg base CX k f fd ps sp ∧ mg x = some (.ref f) ∧ PySem.W.keepIn K (.ref f) = true ∧ Binds K fd ps []
end
section
variable {X : Cx} {k j : Nat} {x : Str} {sp : Sp} {p pos : Pos} {e : Expr} {es : List Expr} {t : TA}
theorem pe_cl (c : Cl X.prog X.w X.K X.mg X.base L2.CX0 k x sp) (hr : Room j X.A) (hk : k ≤ j) (hg : Gl X x) (ha : PA X (e :: es) t)
    (hdb : (x == ("__debug__" : Str)) = false := by decide) (he : starEach (e :: es) X.env = (false, eval e X.env) :: starEach es X.env := by rfl) (hpl : (backTo pos (starEach es X.env)).any (·.1) = false := by rfl) :
    PE X (.Call (.Name x p) (e :: es) [] pos) (tCall sp [] L2.E0 t) := by
  obtain ⟨f, fd, ps, F, hm, kp, b⟩ := c.ex
  exact pe_call F (hr.mono hk) hg hm kp b .nil L2.pass0 ha hdb he hpl
/-- of a def that may raise, where it does not -/
theorem pe_clN (c : Cl X.prog X.w X.K X.mg X.base (L2.CX X.prog X.w) k x sp) (hr : Room j X.A) (hk : k ≤ j) (hg : Gl X x) (ha : PA X (e :: es) t)
    (hdb : (x == ("__debug__" : Str)) = false := by decide) (he : starEach (e :: es) X.env = (false, eval e X.env) :: starEach es X.env := by rfl) (hpl : (backTo pos (starEach es X.env)).any (·.1) = false := by rfl) :
    PE X (.Call (.Name x p) (e :: es) [] pos) (tCall sp [] L2.E0 t) := by
  obtain ⟨f, fd, ps, F, hm, kp, b⟩ := c.ex
  exact pe_call F (hr.mono hk) hg hm kp b .nil L2.passL ha hdb he hpl
/-- .. where it may: what is raised goes where W says -/
theorem pe_clX {W : WX} (c : Cl X.prog X.w X.K X.mg X.base (L2.CX X.prog X.w) k x sp) (hr : Room j X.A) (hk : k ≤ j) (hg : Gl X x) (tk : Takes X W) (ha : PA X (e :: es) t)
    (hdb : (x == ("__debug__" : Str)) = false := by decide) (he : starEach (e :: es) X.env = (false, eval e X.env) :: starEach es X.env := by rfl) (hpl : (backTo pos (starEach es X.env)).any (·.1) = false := by rfl) :
    PE X (.Call (.Name x p) (e :: es) [] pos) (tCallS sp (WE W) t) := by
  obtain ⟨f, fd, ps, F, hm, kp, b⟩ := c.ex
  exact pe_callS F (hr.mono hk) hg hm kp b (fun σ => passAt tk σ) ha hdb he hpl
theorem pe_cl0 (c : Cl X.prog X.w X.K X.mg X.base L2.CX0 k x sp) (hr : Room j X.A) (hk : k ≤ j) (hg : Gl X x) (hdb : (x == ("__debug__" : Str)) = false := by decide) :
    PE X (.Call (.Name x p) [] [] pos) (tCall sp [] L2.E0 tNil) := by
  obtain ⟨f, fd, ps, F, hm, kp, b⟩ := c.ex
  exact pe_call0 F (hr.mono hk) hg hm kp b .nil L2.pass0 hdb
end
section
variable {K : PySem.W.Frag} {Γ : List Sl} {c : Cb} {k : Kt} {n : Nat} {R : List As → Outc → Prop} {ta : TA} {as : List As} {E : XK}
theorem ev_call {a : As} (h : EvS ta Γ as) (r : R as (.ret a)) (hn : as.length = n) : EvA (tCall (SpD n R) [] E ta) Γ a := fun Hf H σ A e Q q =>
  h Hf H σ A e _ fun vs Hf1 H1 e1 pv => ⟨Hf1, as, _, hn, e1.z, by rw [List.append_nil]; exact pv, r, fun v Hf2 H2 e2 p2 => q v Hf2 H2 (e1.trans e2) p2⟩
theorem ew_call {w : Ow} (h : EvS ta Γ as) (r : R as (.own w)) (hn : as.length = n) : EvW (tCall (SpD n R) [] E ta) Γ w := fun Hf H σ A e Q q =>
  h Hf H σ A e _ fun vs Hf1 H1 e1 pv => ⟨Hf1, as, _, hn, e1.z, by rw [List.append_nil]; exact pv, r, fun v Hf2 H2 B e2 hB p2 => q v Hf2 H2 B (e1.trans e2) (fun a ha => e1.h.free (hB a ha)) p2⟩
theorem ev_callS {W : WX} {a : As} (h : EvS ta Γ as) (r : R as (.ret a)) (hn : as.length = n) : EvA (tCallS (SpD n R) (WE W) ta) Γ a := fun Hf H σ A e Q q =>
  h Hf H σ A e _ fun vs Hf1 H1 e1 pv => ⟨Hf1, as, _, hn, e1.z, pv, r, fun v Hf2 H2 e2 p2 => q v Hf2 H2 (e1.trans e2) p2⟩
theorem ew_callS {W : WX} {w : Ow} (h : EvS ta Γ as) (r : R as (.own w)) (hn : as.length = n) : EvW (tCallS (SpD n R) (WE W) ta) Γ w := fun Hf H σ A e Q q =>
  h Hf H σ A e _ fun vs Hf1 H1 e1 pv => ⟨Hf1, as, _, hn, e1.z, pv, r, fun v Hf2 H2 B e2 hB p2 => q v Hf2 H2 B (e1.trans e2) (fun a ha => e1.h.free (hB a ha)) p2⟩
/-- an expression that raises -/
def EvR (te : TE) (Γ : List Sl) (W : WX) (C : Addr) : Prop := ∀ Hf H σ A, Env Hf H σ Γ A → (∀ Hf' H', Ext Hf H Hf' H' → W (.ref C) none σ H') → ∀ Q : VK, te σ H Q
theorem er_callS {W : WX} {C : Addr} (h : EvS ta Γ as) (r : R as (.exc C)) (hn : as.length = n) : EvR (tCallS (SpD n R) (WE W) ta) Γ W C := fun Hf H σ A e hw Q =>
  h Hf H σ A e _ fun vs Hf1 H1 e1 pv => ⟨Hf1, as, _, hn, e1.z, pv, r, fun Hf2 H2 e2 => hw Hf2 H2 (e1.trans e2)⟩
theorem rn_dropR {te : TE} {W : WX} {C : Addr} (h : EvR te Γ W C) (hw : ∀ {σ : L2.St} {H Hf : Hp}, StOk c Hf H σ Γ → W (.ref C) none σ H) : Rn c (tDrop te) Γ k := fun D σ H Hf s q => by
  obtain ⟨A, e, _⟩ := s.e
  exact h Hf H σ A e (fun Hf' H' e' => hw (s.ext e')) _
theorem rn_asgR {te : TE} {g : TG} {W : WX} {C : Addr} (h : EvR te Γ W C) (hw : ∀ {σ : L2.St} {H Hf : Hp}, StOk c Hf H σ Γ → W (.ref C) none σ H) : Rn c (tAsg te g) Γ k := fun D σ H Hf s q => by
  obtain ⟨A, e, _⟩ := s.e
  exact h Hf H σ A e (fun Hf' H' e' => hw (s.ext e')) _
theorem rn_retR {te : TE} {W : WX} {C : Addr} (h : EvR te Γ W C) (hw : ∀ {σ : L2.St} {H Hf : Hp}, StOk c Hf H σ Γ → W (.ref C) none σ H) : Rn c (tRet te) Γ k := fun D σ H Hf s q => by
  obtain ⟨A, e, _⟩ := s.e
  exact h Hf H σ A e (fun Hf' H' e' => hw (s.ext e')) _
theorem rn_raise {W : WX} {C : Addr} (hw : ∀ {σ : L2.St} {H Hf : Hp}, StOk c Hf H σ Γ → W (.ref C) none σ H) : Rn c (fun _ σ H => (fun (_ : L2.St) (H : Hp) (Q : Value → Option Addr → Hp → Prop) => Q (.ref C) none H) σ H fun cls d H' => W cls d σ H') Γ k := fun D σ H Hf s q => hw s
end
end DL

namespace DL
open PySem PySem.Spec L2
open PyProof.Rows hiding St

/-! ### data of a kind: told apart by ==, of small depth -/
def EqD {α : Type} [DecidableEq α] (f : α → PyData) : Prop := ∀ a b, PyData.eqv (f a) (f b) = decide (a = b)
def ShD {α : Type} (f : α → PyData) (n : Nat) : Prop := ∀ a, (f a).canLay0 = true ∧ (f a).depth ≤ n
theorem ShD.shaped {α : Type} {f : α → PyData} {n : Nat} (h : ShD f n) (a : α) (hn : n ≤ 64 := by decide) : SeqAt.shaped (f a) = true := by
  unfold SeqAt.shaped
  rw [(h a).1, Bool.true_and, decide_eq_true_eq]
  exact Nat.le_trans (h a).2 hn
def ListD {α : Type} (f : α → PyData) (xs : List α) : PyData := .list (xs.map f)
def PairD {α β : Type} (f : α → PyData) (g : β → PyData) (p : α × β) : PyData := .tuple [f p.1, g p.2]
theorem eqvAll_map {α : Type} [DecidableEq α] {f : α → PyData} (h : EqD f) : ∀ xs ys : List α, PyData.eqvAll (xs.map f) (ys.map f) = decide (xs = ys)
  | [], [] => by simp [PyData.eqvAll]
  | [], y :: ys => by simp [PyData.eqvAll]
  | x :: xs, [] => by simp [PyData.eqvAll]
  | x :: xs, y :: ys => by
    rw [List.map_cons, List.map_cons, PyData.eqvAll, h x y, eqvAll_map h xs ys]
    simp [Bool.decide_and]
theorem EqD.list {α : Type} [DecidableEq α] {f : α → PyData} (h : EqD f) : EqD (ListD f) := fun xs ys => by
  show PyData.eqv (.list _) (.list _) = _
  rw [PyData.eqv, eqvAll_map h]
theorem EqD.pair {α β : Type} [DecidableEq α] [DecidableEq β] {f : α → PyData} {g : β → PyData} (hf : EqD f) (hg : EqD g) : EqD (PairD f g) := fun p q => by
  show PyData.eqv (.tuple _) (.tuple _) = _
  rw [PyData.eqv, PyData.eqvAll, PyData.eqvAll, PyData.eqvAll, hf, hg, Bool.and_true, ← Bool.decide_and]
  exact decide_eq_decide.mpr ⟨fun h => Prod.ext h.1 h.2, fun h => by rw [h]; exact ⟨rfl, rfl⟩⟩
theorem canAll_map {α : Type} {f : α → PyData} {n : Nat} (h : ShD f n) : ∀ xs : List α, PyData.canLayAll0 (xs.map f) = true ∧ PyData.depthAll (xs.map f) ≤ n
  | [] => by simp [PyData.canLayAll0, PyData.depthAll]
  | x :: xs => by
    have ih := canAll_map h xs
    have hx := h x
    rw [List.map_cons, PyData.canLayAll0, PyData.depthAll, hx.1, ih.1]
    refine ⟨rfl, ?_⟩
    have h1 := hx.2; have h2 := ih.2
    omega
theorem ShD.list {α : Type} {f : α → PyData} {n : Nat} (h : ShD f n) : ShD (ListD f) (n + 1) := fun xs => by
  have k := canAll_map h xs
  refine ⟨by show PyData.canLay0 (.list _) = true; rw [PyData.canLay0]; exact k.1, ?_⟩
  show PyData.depth (.list _) ≤ _
  rw [PyData.depth]
  have := k.2
  omega
theorem ShD.pair {α β : Type} {f : α → PyData} {g : β → PyData} {n : Nat} (hf : ShD f n) (hg : ShD g n) : ShD (PairD f g) (n + 1) := fun p => by
  have h1 := hf p.1; have h2 := hg p.2
  refine ⟨by show PyData.canLay0 (.tuple _) = true; rw [PyData.canLay0, PyData.canLayAll0, PyData.canLayAll0, PyData.canLayAll0, h1.1, h2.1]; rfl, ?_⟩
  show PyData.depth (.tuple _) ≤ _
  rw [PyData.depth, PyData.depthAll, PyData.depthAll, PyData.depthAll]
  have a := h1.2; have b := h2.2
  omega
theorem eq_int' : EqD PyData.int := fun a b => by rw [PyData.eqv]; exact Bool.beq_eq_decide_eq _ _
theorem sh_int : ShD PyData.int 0 := fun a => ⟨by rw [PyData.canLay0], by rw [PyData.depth]; exact Nat.le_refl 0⟩
theorem eq_str' : EqD PyData.str := fun a b => by rw [PyData.eqv]; exact Bool.beq_eq_decide_eq _ _
theorem ShD.mono {α : Type} {f : α → PyData} {n m : Nat} (h : ShD f n) (e : n ≤ m) : ShD f m := fun a => ⟨(h a).1, Nat.le_trans (h a).2 e⟩
theorem any_eqv {α : Type} [DecidableEq α] {f : α → PyData} (h : EqD f) (xs : List α) (a : α) : ((xs.map f).any fun z => PyData.eqv z (f a)) = decide (a ∈ xs) := by
  induction xs with
  | nil => rfl
  | cons x xs ih =>
    rw [List.map_cons, List.any_cons, ih, h]
    by_cases c : x = a
    · simp [c]
    · simp [c, Ne.symm c]

/-- rows of whole numbers; trays; places; texts by their signs -/
abbrev DI (xs : List Int) : PyData := ListD PyData.int xs
abbrev DT (t : List (List Int)) : PyData := ListD DI t
abbrev DP (p : Int × Int) : PyData := PairD PyData.int PyData.int p
abbrev DS (l : List Nat) : PyData := PyData.str (SX.S l)
theorem eq_DI : EqD DI := eq_int'.list
theorem sh_DI : ShD DI 1 := sh_int.list
theorem eq_DT : EqD DT := eq_DI.list
theorem sh_DT : ShD DT 2 := sh_DI.list
theorem eq_DP : EqD DP := eq_int'.pair eq_int'
theorem sh_DP : ShD DP 1 := sh_int.pair sh_int
theorem eq_DS : EqD DS := fun a b => by
  show PyData.eqv (.str _) (.str _) = _
  rw [PyData.eqv, SX.S_beq_eq]

theorem hu2_of {A : Around} {k : Nat} (hr : Room k A) : A.units + 65 < cLine := by
  have h1 := hr.un
  omega

section
variable {K : PySem.W.Frag} {Γ : List Sl} {ta tb te to : TE}
/-- xs.index(x), data of any depth -/
theorem ev_indexD {ds : List PyData} {d z : PyData} {j : Nat} (ho : EvA to Γ (Dt K (.list ds))) (hx : EvA te Γ (Dt K d)) (sl : SeqAt.shaped (.list ds) = true) (sd : SeqAt.shaped d = true) (hz : ds[j]? = some z) (he : PyData.eqv z d = true)
    (hno : ∀ (m : Nat) (z' : PyData), m < j → ds[m]? = some z' → PyData.eqv z' d = false) : EvA (tBM K "list" (rIndexD K) to (tCons te tNil)) Γ (Dt K (.int ((j : Nat) : Int))) := fun Hf H σ A e Q q =>
  ho Hf H σ A e _ fun v Hf1 H1 e1 pv => by
    obtain ⟨p, vs, rfl, hp, pvs⟩ := lsA_ge _ _ pv
    refine ⟨.inl ⟨rfl, vs, .inl (.inl (e1.z _ _ hp))⟩, hx Hf1 H1 σ A (e.ext e1) _ fun y Hf2 H2 e2 py => ?_⟩
    exact ⟨p, y, d, ds, j, z, rfl, rfl, dq_dp (dp_mono (e2.f.trans e2.z) (.lst hp (dpAll_pa pvs))), dq_dp (dp_mono e2.z py), sl, sd, hz, he, hno, q _ Hf2 H2 (e1.trans e2) (.int _)⟩
theorem idx_map {α : Type} [DecidableEq α] {f : α → PyData} (h : EqD f) {xs : List α} {a : α} (ha : a ∈ xs) : (xs.map f)[xs.idxOf a]? = some (f a) ∧ ∀ (m : Nat) (z' : PyData), m < xs.idxOf a → (xs.map f)[m]? = some z' → PyData.eqv z' (f a) = false := by
  have hl := List.idxOf_lt_length_of_mem ha
  refine ⟨by rw [List.getElem?_map, List.getElem?_eq_getElem hl, List.getElem_idxOf]; rfl, fun m z' hm hz => ?_⟩
  have hml : m < xs.length := by omega
  rw [List.getElem?_map, List.getElem?_eq_getElem hml] at hz
  obtain rfl := Option.some.inj hz
  rw [h, decide_eq_false_iff_not]
  intro e
  have := List.not_of_lt_findIdx (p := (· == a)) hm
  simp [e] at this
theorem ev_index {α : Type} [DecidableEq α] {f : α → PyData} {n : Nat} {xs : List α} {a : α} (hf : EqD f) (hs : ShD f n) (ho : EvA to Γ (Dt K (.list (xs.map f)))) (hx : EvA te Γ (Dt K (f a))) (ha : a ∈ xs) (hn : n < 64 := by decide) : EvA (tBM K "list" (rIndexD K) to (tCons te tNil)) Γ (Dt K (.int ((xs.idxOf a : Nat) : Int))) :=
  have k := idx_map hf ha
  ev_indexD ho hx (hs.list.shaped xs (by omega)) (hs.shaped a (by omega)) k.1 (by rw [hf]; simp) k.2
theorem ev_in {α : Type} [DecidableEq α] {f : α → PyData} {n : Nat} {xs : List α} {a : α} (hf : EqD f) (hs : ShD f n) (hx : EvA te Γ (Dt K (f a))) (ho : EvA to Γ (Dt K (.list (xs.map f)))) (hn : n < 64 := by decide) : EvA (tOp (rInD K) te to) Γ (Dt K (.bool (decide (a ∈ xs)))) :=
  (ev_inD hx ho (hs.shaped a (by omega)) (hs.list.shaped xs (by omega))).is (by rw [any_eqv hf])
theorem ev_notIn {α : Type} [DecidableEq α] {f : α → PyData} {n : Nat} {xs : List α} {a : α} (hf : EqD f) (hs : ShD f n) (hx : EvA te Γ (Dt K (f a))) (ho : EvA to Γ (Dt K (.list (xs.map f)))) (hn : n < 64 := by decide) : EvA (tOp (rNotInD K) te to) Γ (Dt K (.bool (!decide (a ∈ xs)))) :=
  (ev_notInD hx ho (hs.shaped a (by omega)) (hs.list.shaped xs (by omega))).is (by rw [any_eqv hf])
/-- an item of a list of data -/
theorem ev_ixLD {ds : List PyData} {i : Int} {d : PyData} (ha : EvL ta Γ (ds.map (Dt K))) (hb : EvA tb Γ (Dt K (.int i))) (h : atI ds i = some d) : EvA (tOp (rIxL K) ta tb) Γ (Dt K d) := ev_ixL ha hb (by
  unfold atI at h ⊢
  rw [List.length_map]
  cases e : ixN ds.length i with
  | none => rw [e] at h; cases h
  | some j =>
    rw [e] at h
    show (ds.map (Dt K))[j]? = _
    rw [List.getElem?_map, show ds[j]? = some d from h]; rfl)
theorem at_nat {α : Type} {xs : List α} {j : Nat} {i : Int} {v : α} (h : xs[j]? = some v) (e : i = (j : Int)) : atI xs i = some v := by rw [e]; exact atI_nat h
/-- a dict of the module, by texts -/
theorem ev_kd {w : World} {d : Addr} {z : Str} {a : As} {v : V} (hk : KDct K w d z v) (hv : ∀ H, a.p H v) (hb : EvA tb Γ (Dt K (.str z))) : EvA (tOp (rIxD K w) (tC (.ref d)) tb) Γ a := fun Hf H σ A e Q q =>
  hb Hf H σ A e _ fun y Hf1 H1 e1 py => by
    cases dt_str py
    exact ⟨d, z, v, rfl, rfl, hk, q _ Hf1 H1 e1 (hv _)⟩
theorem ev_inKd {d : Addr} {z : Str} {o : Option Value} {r : R2} (hr : r = (fun x y H Q => ∃ (z : Str) (r : Option Value), x = .str z ∧ y = .ref d ∧ PySem.W.nsIn K d z = some r ∧ Q (.bl r.isSome) H) := by rfl) (hb : EvA tb Γ (Dt K (.str z))) (h : PySem.W.nsIn K d z = some o) : EvA (tOp r tb (tC (.ref d))) Γ (Dt K (.bool o.isSome)) := fun Hf H σ A e Q q => by
  subst hr
  exact hb Hf H σ A e _ fun y Hf1 H1 e1 py => by
    cases dt_str py
    exact ⟨z, o, rfl, rfl, h, q _ Hf1 H1 e1 (.bl _)⟩
theorem ev_notInKd {d : Addr} {z : Str} {o : Option Value} {r : R2} (hr : r = (fun x y H Q => ∃ (z : Str) (r : Option Value), x = .str z ∧ y = .ref d ∧ PySem.W.nsIn K d z = some r ∧ Q (.bl (!r.isSome)) H) := by rfl) (hb : EvA tb Γ (Dt K (.str z))) (h : PySem.W.nsIn K d z = some o) : EvA (tOp r tb (tC (.ref d))) Γ (Dt K (.bool (!o.isSome))) := fun Hf H σ A e Q q => by
  subst hr
  exact hb Hf H σ A e _ fun y Hf1 H1 e1 py => by
    cases dt_str py
    exact ⟨z, o, rfl, rfl, h, q _ Hf1 H1 e1 (.bl _)⟩
end

/-! ### the layer's rules, the written part by its name -/
section
variable {X : Cx}
theorem ix_listK (K : PySem.W.Frag) (h : X.K = K := by rfl) : IxR X (rIxL K) := h ▸ ix_list
theorem ix_tupK (K : PySem.W.Frag) (h : X.K = K := by rfl) : IxR X (rIxT K) := h ▸ ix_tup
theorem ix_kdK (K : PySem.W.Frag) (w : World) (h : X.K = K := by rfl) (h2 : X.w = w := by rfl) : IxR X (rIxD K w) := h ▸ h2 ▸ ix_kdict
theorem sl_listK (K : PySem.W.Frag) (h : X.K = K := by rfl) : SlR X (rSlL K) := h ▸ sl_list
theorem sl_tupK (K : PySem.W.Frag) (h : X.K = K := by rfl) : SlR X (rSlT K) := h ▸ sl_tup
theorem op_inDK (K : PySem.W.Frag) {A : Around} {k : Nat} (hr : Room k A) (h : X.K = K := by rfl) (hA : X.A = A := by rfl) : OpR X (compareOp .In) (rInD K) := by subst h hA; exact op_inD (hu2_of hr)
theorem op_notInDK (K : PySem.W.Frag) {A : Around} {k : Nat} (hr : Room k A) (h : X.K = K := by rfl) (hA : X.A = A := by rfl) : OpR X (compareOp .NotIn) (rNotInD K) := by subst h hA; exact op_notInD (hu2_of hr)
theorem op_eqDK (K : PySem.W.Frag) {A : Around} {k : Nat} (hr : Room k A) (h : X.K = K := by rfl) (hA : X.A = A := by rfl) : OpR X (compareOp .Eq) (rEqD K) := by subst h hA; exact op_eqD hr.units
theorem op_neDK (K : PySem.W.Frag) {A : Around} {k : Nat} (hr : Room k A) (h : X.K = K := by rfl) (hA : X.A = A := by rfl) : OpR X (compareOp .NotEq) (rNeD K) := by subst h hA; exact op_neD hr.units
theorem mt_indexDK (K : PySem.W.Frag) {A : Around} {k : Nat} (hr : Room k A) (h : X.K = K := by rfl) (hA : X.A = A := by rfl) : MtR X "list.index" (rIndexD K) := by subst h hA; exact mt_indexD (hu2_of hr)
theorem call_isiK' (K : PySem.W.Frag) (h : X.K = K := by rfl) : CallR X (.builtin "isinstance") (rIsi K) := h ▸ call_isi
def rLenSq (K : PySem.W.Frag) : List V → Hp → VK → Prop := fun xs H Q => ∃ p ys, xs = [.ref p] ∧ (SqL K H p ys ∨ SqT K H p ys) ∧ Q (.int ys.length) H
theorem call_lenK (K : PySem.W.Frag) (h : X.K = K := by rfl) : CallR X (.builtin "len") (rLenSq K) := h ▸ call_len_seq
def rLenT : List V → Hp → VK → Prop := fun xs H Q => ∃ z, xs = [.str z] ∧ z.length ≤ sizeLine ∧ Q (.int z.length) H
theorem call_lenS : CallR X (.builtin "len") rLenT := call_len_str
def rListOf (K : PySem.W.Frag) : List V → Hp → VK → Prop := fun xs H Q => ∃ p ys, xs = [.ref p] ∧ (SqL K H p ys ∨ SqT K H p ys) ∧ ∀ l, H l = none → Q (.ref l) (upd H l (.lst ys))
theorem call_listK (K : PySem.W.Frag) (h : X.K = K := by rfl) : CallR X (.type "list") (rListOf K) := h ▸ call_list_of
theorem cr_sumK (K : PySem.W.Frag) (h : X.K = K := by rfl) (hc : X.calm = true := by rfl) : CallR X (.builtin "sum") (rSum K) := h ▸ cr_sum hc
theorem cr_allK (K : PySem.W.Frag) (h : X.K = K := by rfl) (hc : X.calm = true := by rfl) : CallR X (.builtin "all") (rAll K) := h ▸ cr_all hc
theorem cr_sortedK (K : PySem.W.Frag) (h : X.K = K := by rfl) : CallR X (.builtin "sorted") (rSorted K) := h ▸ cr_sorted
def rInK (K : PySem.W.Frag) (d : Addr) : R2 := fun x y H Q => ∃ (z : Str) (r : Option Value), x = .str z ∧ y = .ref d ∧ PySem.W.nsIn K d z = some r ∧ Q (.bl r.isSome) H
def rNotInK (K : PySem.W.Frag) (d : Addr) : R2 := fun x y H Q => ∃ (z : Str) (r : Option Value), x = .str z ∧ y = .ref d ∧ PySem.W.nsIn K d z = some r ∧ Q (.bl (!r.isSome)) H
theorem op_inKd (K : PySem.W.Frag) (w : World) {d : Addr} {es : Array DictEntry} {n : Nat} (D : KDict K w d es n) (h : X.K = K := by rfl) (hw : X.w = w := by rfl) : OpR X (compareOp .In) (rInK K d) := by subst h hw; exact op_in_kd D
theorem op_notInKd (K : PySem.W.Frag) (w : World) {d : Addr} {es : Array DictEntry} {n : Nat} (D : KDict K w d es n) (h : X.K = K := by rfl) (hw : X.w = w := by rfl) : OpR X (compareOp .NotIn) (rNotInK K d) := by subst h hw; exact op_notIn_kd D
def rInSg : R2 := fun x y H Q => ∃ (c : Nat) (z : Str), x = .str ⟨#[c]⟩ ∧ y = .str z ∧ Q (.bl (decide (c ∈ z.cps.toList))) H
def rNotInSg : R2 := fun x y H Q => ∃ (c : Nat) (z : Str), x = .str ⟨#[c]⟩ ∧ y = .str z ∧ Q (.bl (!decide (c ∈ z.cps.toList))) H
theorem op_inSg : OpR X (compareOp .In) rInSg := op_in_sign
theorem op_notInSg : OpR X (compareOp .NotIn) rNotInSg := op_notIn_sign
def rIsNone : R2 := fun x y H Q => y = .non ∧ Q (.bl (decide (x = .non))) H
def rNotNone : R2 := fun x y H Q => y = .non ∧ Q (.bl (!decide (x = .non))) H
theorem op_isNone : OpR X (compareOp .Is) rIsNone := op_isN
theorem op_notNone : OpR X (compareOp .IsNot) rNotNone := op_notN
def rAddStr : R2 := fun x y H Q => ∃ i j, x = .str i ∧ y = .str j ∧ i.length + j.length ≤ sizeLine ∧ Q (.str (i ++ j)) H
theorem op_addStr : OpR X (binaryOp .Add) rAddStr := op_add_str
variable {o e : Expr} {es : List Expr} {to te : TE} {t : TA} {T : String} {name : Str} {id : String} {r : V → List V → Hp → VK → Prop} {apos cpos pos : Pos}
theorem pe_bmK (K : PySem.W.Frag) (pa : PlainAttrs T) (slot : Slot T name id) (hty : typeOf (.builtin id) = pure (.type "method_descriptor")) (hm : MtR X id r) (ho : PE X o to) (ha : PA X (e :: es) t) (hK : X.K = K := by rfl)
    (hbase : attributeBase o name X.env (eval o X.env) = eval o X.env := by rfl)
    (hfew : ((backTo cpos (starEach (e :: es) X.env)).all (fun x => !x.1) && (backToKw cpos (keywordEach [] X.env)).all (fun x => x.1.isSome)
      && decide ((e :: es).length + ([] : List Keyword).length + (if ([] : List Keyword).isEmpty then 0 else 1) < 30)) = true := by rfl)
    (hline : (apos.endLine == cpos.line) = true := by rfl) (hs : starEach (e :: es) X.env = (false, eval e X.env) :: starEach es X.env := by rfl) (hplain : (backTo cpos (starEach es X.env)).any (·.1) = false := by rfl) :
    PE X (.Call (.Attribute o name apos) (e :: es) [] cpos) (tBM K T r to t) := by subst hK; exact pe_bm pa slot hty hm ho ha hbase hfew hline hs hplain
theorem pi_listK (K : PySem.W.Frag) {tg e : Expr} {te : TE} (he : PE X e te) (hK : X.K = K := by rfl) : PI X tg e (iList K te) := by subst hK; exact pi_list he
theorem pi_tupK (K : PySem.W.Frag) {tg e : Expr} {te : TE} (he : PE X e te) (hK : X.K = K := by rfl) : PI X tg e (iTup K te) := by subst hK; exact pi_tup he
theorem pi_enumK (K : PySem.W.Frag) {elts : List Expr} {kk : Nat} {tpos : Pos} {p : Pos} {e : Expr} {t : TA} (hg : Gl X "enumerate") (hm : X.mg "enumerate" = none) (ha : PA X [e] t) (hK : X.K = K := by rfl) (hs : starEach [e] X.env = [(false, eval e X.env)] := by rfl) : PI X (.Tuple elts kk tpos) (.Call (.Name "enumerate" p) [e] [] pos) (iEnum K t) := by subst hK; exact pi_enum hg hm ha hs
theorem pg_tupK (K : PySem.W.Frag) {es : List Expr} {k n : Nat} {t : TGs} (h : PGs X es t) (hK : X.K = K := by rfl) (hc : X.calm = true := by rfl) (hn : (assignEach es X.env).length = n := by rfl) (hst : (assignEach es X.env).findIdx? (·.1) = none := by rfl) : PG X (.Tuple es k pos) (gTup K n t) := by subst hK; exact pg_tup hc h hn hst
theorem pe_bm0K (K : PySem.W.Frag) (pa : PlainAttrs T) (slot : Slot T name id) (hty : typeOf (.builtin id) = pure (.type "method_descriptor")) (hm : MtR X id r) (ho : PE X o to) (hK : X.K = K := by rfl)
    (hbase : attributeBase o name X.env (eval o X.env) = eval o X.env := by rfl) (hline : (apos.endLine == cpos.line) = true := by rfl) : PE X (.Call (.Attribute o name apos) [] [] cpos) (tBM0 K T r to) := by subst hK; exact pe_bm0 pa slot hty hm ho hbase hline
end
section
variable {K : PySem.W.Frag} {Γ : List Sl} {ta tb te : TE} {tt tu : TT} {a b z : As}
theorem ev_tupD {t : TA} {ds : List PyData} (h : EvDs K t Γ ds) (hl : ds.length ≤ sizeLine) : EvA (tTup t) Γ (Dt K (.tuple ds)) := ev_tup h hl
theorem ew_lstD {t : TA} {ds : List PyData} (h : EvDs K t Γ ds) (hl : ds.length ≤ sizeLine) : EvW (tLst t) Γ (OL (ds.map (Dt K))) := ew_lst h (by rw [List.length_map]; exact hl)
theorem ev_lstD {t : TA} {ds : List PyData} (h : EvDs K t Γ ds) (hl : ds.length ≤ sizeLine) : EvA (tLst t) Γ (Dt K (.list ds)) := ev_lst h hl
theorem ev_lenLD {as : List As} (h : EvL te Γ as) : EvA (tCB (rLenSq K) (tCons te tNil)) Γ (Dt K (.int as.length)) := ev_lenL (r := rLenSq K) rfl h
theorem ev_lenTD {ds : List PyData} (h : EvA te Γ (Dt K (.tuple ds))) : EvA (tCB (rLenSq K) (tCons te tNil)) Γ (Dt K (.int ds.length)) := ev_lenT (r := rLenSq K) rfl h
theorem ev_lenSD {x : Str} (h : EvA te Γ (Dt K (.str x))) (hl : x.length ≤ sizeLine) : EvA (tCB rLenT (tCons te tNil)) Γ (Dt K (.int x.length)) := ev_lenS (r := rLenT) rfl h hl
theorem ew_listD {as : List As} (h : EvL te Γ as) : EvW (tCB (rListOf K) (tCons te tNil)) Γ (OL as) := ew_list (r := rListOf K) rfl h
theorem ev_inK {d : Addr} {x : Str} {o : Option Value} (hb : EvA tb Γ (Dt K (.str x))) (h : PySem.W.nsIn K d x = some o) : EvA (tOp (rInK K d) tb (tC (.ref d))) Γ (Dt K (.bool o.isSome)) := ev_inKd (r := rInK K d) rfl hb h
theorem ev_notInK {d : Addr} {x : Str} {o : Option Value} (hb : EvA tb Γ (Dt K (.str x))) (h : PySem.W.nsIn K d x = some o) : EvA (tOp (rNotInK K d) tb (tC (.ref d))) Γ (Dt K (.bool (!o.isSome))) := ev_notInKd (r := rNotInK K d) rfl hb h
theorem ev_inSg {c : Nat} {x : Str} (ha : EvA ta Γ (Dt K (.str ⟨#[c]⟩))) (hb : EvA tb Γ (Dt K (.str x))) : EvA (tOp rInSg ta tb) Γ (Dt K (.bool (decide (c ∈ x.cps.toList)))) :=
  ev_op ha hb fun Hf H u v hz px py Q q => by
    cases dt_str px; cases dt_str py
    exact ⟨c, x, rfl, rfl, q _ Hf H (.refl hz) (.bl _)⟩
theorem ev_isNone {d : PyData} (ha : EvA ta Γ (Dt K d)) (hb : EvA tb Γ (Dt K .none)) : EvA (tOp rIsNone ta tb) Γ (Dt K (.bool (isNone d))) := ev_isN (r := rIsNone) rfl ha hb
theorem ev_notNone {d : PyData} (ha : EvA ta Γ (Dt K d)) (hb : EvA tb Γ (Dt K .none)) : EvA (tOp rNotNone ta tb) Γ (Dt K (.bool (!isNone d))) := ev_notN (r := rNotNone) rfl ha hb
theorem ev_addStr {x y : Str} (ha : EvA ta Γ (Dt K (.str x))) (hb : EvA tb Γ (Dt K (.str y))) (hl : x.length + y.length ≤ sizeLine) : EvA (tOp rAddStr ta tb) Γ (Dt K (.str (x ++ y))) := ev_addS (r := rAddStr) rfl ha hb hl
theorem ev_negI {i : Int} (ha : EvA ta Γ (Dt K (.int i))) : EvA (tUn (rU fun i => .int (-i)) ta) Γ (Dt K (.int (-i))) := ev_neg rfl ha
theorem ev_sum {ns : List Int} (h : EvL te Γ (ns.map fun n => Dt K (.int n))) : EvA (tCB (rSum K) (tCons te tNil)) Γ (Dt K (.int ns.sum)) := fun Hf H σ A e Q q =>
  h Hf H σ A e _ fun p vs Hf1 H1 e1 hp pv => by
    have hv : vs = ns.map V.int := by
      clear hp e q h
      induction ns generalizing vs with
      | nil => cases pv; rfl
      | cons n ns ih => cases pv with | cons h q => rw [List.map_cons, dt_int h, ih _ q]
    subst hv
    exact ⟨p, ns, rfl, .inl (.inl hp), q _ Hf1 H1 e1 (.int _)⟩
theorem ev_abs {i : Int} (h : EvA te Γ (Dt K (.int i))) {r : List V → Hp → VK → Prop} (hr : r = (fun xs H Q => ∃ i, xs = [.int i] ∧ Q (.int (if i < 0 then -i else i)) H) := by rfl) : EvA (tCB r (tCons te tNil)) Γ (Dt K (.int (if i < 0 then -i else i))) := by
  subst hr
  exact ev_cb (es_cons h es_nil) fun Hf H vs hz pv Q q => by
    obtain ⟨v, rfl, hv⟩ := pa1 pv
    cases dt_int hv
    exact ⟨i, rfl, q _ Hf H (.refl hz) (.int _)⟩
end
section
variable {K : PySem.W.Frag} {Γ : List Sl} {wi : TI} {g : TG} {tt : TT} {te : TE} {vs : List Nat}
theorem filter_zs {α β : Type} (p : α → Bool) (y : α → β) : ∀ xs : List α, (xs.map fun x => if p x = true then some (y x) else none).filterMap id = (xs.filter p).map y
  | [] => rfl
  | x :: xs => by
    have ih := filter_zs p y xs
    cases h : p x with
    | true => simp [h] at ih ⊢; exact ih
    | false => simp [h] at ih ⊢; exact ih
theorem ew_lcP {α : Type} (xs : List α) (F : α → As) (p : α → Bool) (y : α → PyData) (hi : EvI wi Γ (xs.map F)) (hw : GW g vs) (hz : xs.length ≤ 10000000)
    (h : ∀ x ∈ xs, ∃ Γ1, EvG g (F x) (wipeG Γ vs) Γ1 ∧ EvB tt Γ1 (p x) ∧ (p x = true → EvA te Γ1 (Dt K (y x)))) : EvW (tLc wi g tt te vs) Γ (OL (((xs.filter p).map y).map (Dt K))) := by
  have k := ew_lc (tt := tt) (te := te) (xs.map fun x => if p x = true then some (Dt K (y x)) else none) hw hi (by rw [List.length_map, List.length_map]) (by rw [List.length_map]; exact hz) (fun i a ha => by
    rw [List.getElem?_map] at ha
    cases hx : xs[i]? with
    | none => rw [hx] at ha; cases ha
    | some x =>
      rw [hx] at ha
      obtain rfl := Option.some.inj ha
      obtain ⟨Γ1, h1, h2, h3⟩ := h x (List.mem_of_getElem? hx)
      refine ⟨Γ1, h1, fun z hz' => ?_⟩
      rw [List.getElem?_map, hx] at hz'
      obtain rfl := Option.some.inj hz'
      show match (if p x = true then some (Dt K (y x)) else none) with | none => EvB tt Γ1 false | some y => EvB tt Γ1 true ∧ EvA te Γ1 y
      by_cases hp : p x = true
      · rw [if_pos hp]; rw [hp] at h2; exact ⟨h2, h3 hp⟩
      · rw [if_neg hp]; rw [Bool.not_eq_true] at hp; rw [hp] at h2; exact h2)
  rw [filter_zs] at k
  rwa [List.map_map]
/-- no test -/
theorem ew_lcM {α : Type} (xs : List α) (F : α → As) (y : α → PyData) (hi : EvI wi Γ (xs.map F)) (hw : GW g vs) (hz : xs.length ≤ 10000000)
    (h : ∀ x ∈ xs, ∃ Γ1, EvG g (F x) (wipeG Γ vs) Γ1 ∧ EvA te Γ1 (Dt K (y x))) : EvW (tLc wi g tYes te vs) Γ (OL ((xs.map y).map (Dt K))) := by
  have k := ew_lcP (K := K) xs F (fun _ => true) y hi hw hz (fun x hx => by
    obtain ⟨Γ1, h1, h2⟩ := h x hx
    exact ⟨Γ1, h1, eb_yes, fun _ => h2⟩)
  rwa [List.filter_eq_self.mpr (fun _ _ => rfl)] at k
theorem ei_enumD {ds : List PyData} (h : EvA te Γ (Dt K (.list ds))) : EvI (iEnum K (tCons te tNil)) Γ ((List.range ds.length).map fun i => Dt K (.tuple [.int ((i : Nat) : Int), ds.getD i .none])) := by
  have k := ei_enum (K := K) (es_cons (h.le lsA_ge) es_nil)
  intro Hf H σ A e R q
  refine k Hf H σ A e R fun J Hf' H' e' hJ => q J Hf' H' e' fun Hf2 H2 s1 s2 i => ?_
  have := hJ Hf2 H2 s1 s2 i
  simp only [List.length_map, List.length_range] at this ⊢
  refine ⟨fun hi => ⟨(this.1 hi).1, fun x H3 hy => ?_⟩, this.2⟩
  obtain ⟨Hf3, E3, px⟩ := (this.1 hi).2 x H3 hy
  refine ⟨Hf3, E3, fun a ha => ?_⟩
  rw [List.getElem?_map, List.getElem?_range hi] at ha
  obtain rfl := Option.some.inj ha
  have px := px _ (by rw [List.getElem?_map, List.getElem?_range hi]; rfl)
  obtain ⟨p, vs, rfl, hp, pv⟩ := px
  refine .tup hp (dpAll_pa ?_)
  rw [List.map_cons, List.map_cons, List.map_nil]
  rwa [show (Dt K (ds.getD i .none)) = (ds.map (Dt K)).getD i (Dt K .none) by rw [List.getD_eq_getElem?_getD, List.getD_eq_getElem?_getD, List.getElem?_map]; cases ds[i]? <;> rfl]
end
end DL

namespace DL
open PySem PySem.Spec L2
open PyProof.Rows hiding St

/-! ### an own list of own lists -/
def RowOk (Hf H : Hp) (r : Addr) (row : List As) : Prop := Hf r = none ∧ ∃ vs, H r = some (.lst vs) ∧ Pa Hf vs row
theorem rows_fr {Hf H : Hp} {rs : List Addr} {rows : List (List As)} (h : Paired (RowOk Hf H) rs rows) : ∀ a ∈ rs, Hf a = none ∧ H a ≠ none := by
  induction h with
  | nil => exact fun _ h => nomatch h
  | cons h _ ih =>
    intro a ha
    rcases List.mem_cons.mp ha with rfl | hm
    · obtain ⟨h1, vs, h2, _⟩ := h
      exact ⟨h1, by rw [h2]; exact fun z => nomatch z⟩
    · exact ih a hm
theorem rows_mono {Hf H Hf' H' : Hp} {rs : List Addr} {rows : List (List As)} (h : Paired (RowOk Hf H) rs rows) (s : Same Hf Hf') (n : ∀ a ∈ rs, Hf' a = none) (k : ∀ a ∈ rs, H' a = H a) : Paired (RowOk Hf' H') rs rows := by
  induction h with
  | nil => exact .nil
  | cons h _ ih =>
    obtain ⟨h1, vs, h2, h3⟩ := h
    exact .cons ⟨n _ (by simp), vs, (k _ (by simp)).trans h2, pa_mono s h3⟩ (ih (fun a ha => n a (List.mem_cons_of_mem _ ha)) fun a ha => k a (List.mem_cons_of_mem _ ha))
def OO (rows : List (List As)) : Ow where
  p := fun Hf H v A => ∃ p rs, v = .ref p ∧ A = p :: rs ∧ (p :: rs).Nodup ∧ Hf p = none ∧ H p = some (.lst (rs.map V.ref)) ∧ Paired (RowOk Hf H) rs rows
  fr := fun ⟨p, rs, _, eA, _, hf, hh, hp⟩ a ha => by
    subst eA
    rcases List.mem_cons.mp ha with rfl | hm
    · exact ⟨hf, by rw [hh]; exact fun z => nomatch z⟩
    · exact rows_fr hp a hm
  mono := fun {Hf H Hf' H' v A} ⟨p, rs, e, eA, nd, hf, hh, hp⟩ s n k => by
    subst eA
    exact ⟨p, rs, e, rfl, nd, n p (by simp), (k p (by simp)).trans hh, rows_mono hp s (fun a ha => n a (List.mem_cons_of_mem _ ha)) fun a ha => k a (List.mem_cons_of_mem _ ha)⟩
theorem rows_get {Hf H : Hp} : ∀ {rs : List Addr} {rows : List (List As)}, Paired (RowOk Hf H) rs rows → ∀ {i : Nat} {row : List As}, rows[i]? = some row → ∃ r, rs[i]? = some r ∧ RowOk Hf H r row
  | _, _, .nil, i, row, h => by simp at h
  | _, _, .cons h q, 0, row, e => by obtain rfl := Option.some.inj e; exact ⟨_, rfl, h⟩
  | _, _, .cons h q, i + 1, row, e => rows_get q e
section
variable {K : PySem.W.Frag} {Γ : List Sl} {c : Cb} {k : Kt} {t : TS} {te : TE}
/-- a comprehension that makes own lists -/
theorem ew_lcOO {wi : TI} {g : TG} {te : TE} {vs : List Nat} {xs : List As} (rows : List (List As)) (hw : GW g vs) (hi : EvI wi Γ xs) (hl : rows.length = xs.length) (hz : xs.length ≤ 10000000)
    (h : ∀ (i : Nat) (a : As), xs[i]? = some a → ∃ Γ1, EvG g a (wipeG Γ vs) Γ1 ∧ ∀ y, rows[i]? = some y → EvW te Γ1 (OL y)) :
    EvW (tLc wi g tYes te vs) Γ (OO rows) := fun Hf H σ A e Q q =>
  hi Hf H σ A e _ fun J Hf1 H1 e1 hJ D hD => by
    have hD1 : Hf1 D = none := e1.z.free hD
    have hDH : H D = none := e1.h.free hD
    refine ⟨fun i m H' => i + m = xs.length ∧ ∃ Hf' rs, Ext Hf1 H1 Hf' H' ∧ Hf' D = none ∧ H' D = some (.lst (rs.map V.ref)) ∧ (D :: rs).Nodup ∧ (∀ a ∈ rs, H1 a = none) ∧ Paired (RowOk Hf' H') rs (rows.take i), ⟨xs.length, ?_⟩, fun i m H' hW => ?_⟩
    · exact ⟨by omega, Hf1, [], .loose e1.z hD, hD1, upd_same, by simp, by simp, .nil⟩
    · obtain ⟨him, Hf', rs, E, hfD, hHD, hnd, hfr, prs⟩ := hW
      have hJi := hJ Hf' H' E.f E.z i
      by_cases ci : i < xs.length
      · right
        refine ⟨(hJi.1 ci).1, fun H'' => ∃ Hf' rs, Ext Hf1 H1 Hf' H'' ∧ Hf' D = none ∧ H'' D = some (.lst (rs.map V.ref)) ∧ (D :: rs).Nodup ∧ (∀ a ∈ rs, H1 a = none) ∧ Paired (RowOk Hf' H'') rs (rows.take (i + 1)), fun H'' hN => ⟨m - 1, by omega, by omega, hN⟩, fun x H2 hy => ?_⟩
        obtain ⟨Hf2, E2, hx⟩ := (hJi.1 ci).2 x H2 hy
        have ha := List.getElem?_eq_getElem ci
        have px := hx _ ha
        obtain ⟨Γ1, hg, ht⟩ := h i _ ha
        have hri : rows[i]? = some rows[i] := List.getElem?_eq_getElem (by omega)
        have ht := ht _ hri
        have e2 := e.ext ((e1.trans E).trans E2)
        obtain ⟨A1, ew, s1⟩ := e2.wipe vs
        have hDne : H' D ≠ none := by rw [hHD]; exact fun z => nomatch z
        have hww : L2.wipe (L2.wipe σ vs) vs = L2.wipe σ vs := by
          apply List.ext_getElem?
          intro j
          rw [wipe_get, wipe_length, wipe_get]
          by_cases d : j ∈ vs ∧ j < σ.length
          · rw [if_pos d, if_pos d]
          · rw [if_neg d, if_neg d]
        refine hw x σ _ H2 _ hww (hg Hf2 H2 _ A1 ew x px _ fun σ2 A2 e3 s2 => ?_)
        unfold tYes
        dsimp only
        refine iteT ?_
        refine ht Hf2 H2 σ2 A2 e3 _ fun v Hf3 H3 B e4 hB ⟨r, ws, ev, eB, hfr3, hr3, pw⟩ => ?_
        subst ev eB
        have hr2 : H2 r = none := hB r (by simp)
        have hrH' : H' r = none := E2.h.free hr2
        have hr1 : H1 r = none := E.h.free hrH'
        have E5 := E2.trans e4
        have hlive : ∀ a ∈ rs, H' a ≠ none ∧ Hf' a = none := fun a hm => by
          have := (OO (rows.take i)).fr (Hf := Hf') (H := H') (v := .ref D) (A := D :: rs) ⟨D, rs, rfl, rfl, hnd, hfD, hHD, prs⟩ a (List.mem_cons_of_mem _ hm)
          exact ⟨this.2, this.1⟩
        have hrD : r ≠ D := fun z => hDne (by rw [← z]; exact hrH')
        have hrrs : r ∉ rs := fun z => (hlive r z).1 hrH'
        have hfD3 := E5.n D hDne hfD
        have hHD3 := E5.h _ _ hHD
        have keep : ∀ a ∈ rs, H3 a = H' a := fun a hm => by
          cases z : H' a with
          | none => exact absurd z (hlive a hm).1
          | some o => exact E5.h a o z
        have prs3 : Paired (RowOk Hf3 H3) rs (rows.take i) := rows_mono prs E5.f (fun a hm => E5.n a (hlive a hm).1 (hlive a hm).2) keep
        have hlen : rs.length ≤ i := by
          rw [Paired.length prs, List.length_take]
          exact Nat.min_le_left _ _
        refine ⟨rs.map V.ref, hHD3, by rw [List.length_map]; exact Nat.lt_of_le_of_lt hlen (by rw [sizeLine_eq]; omega), Hf3, rs ++ [r], ⟨(E.trans E5).f, fun a o ha => ?_, fun a o ha => ?_, (E.trans E5).n⟩, hfD3, ?_, ?_, ?_, ?_⟩
        · rw [upd_ne (ne_of_none ha hD)]
          exact (E.trans E5).h a o ha
        · rw [upd_ne (ne_of_none ha hfD3)]
          exact e4.z a o ha
        · rw [upd_same, List.map_append]; rfl
        · rw [← List.cons_append, List.nodup_append]
          exact ⟨hnd, by simp, fun a ha b hb => by
            obtain rfl : b = r := by simpa using hb
            rintro rfl
            rcases List.mem_cons.mp ha with z | z
            · exact hrD z
            · exact hrrs z⟩
        · intro a hm
          rcases List.mem_append.mp hm with z | z
          · exact hfr a z
          · obtain rfl : a = r := by simpa using z
            exact hr1
        · rw [List.take_add_one, hri]
          have p1 : Paired (RowOk Hf3 (upd H3 D (.lst (rs.map V.ref ++ [.ref r])))) rs (rows.take i) := rows_mono prs3 (.refl _) (fun a hm => E5.n a (hlive a hm).1 (hlive a hm).2) fun a hm => upd_ne fun z => (List.nodup_cons.mp hnd).1 (by rw [← z]; exact hm)
          exact Paired.snoc p1 ⟨hfr3, ws, by rw [upd_ne hrD]; exact hr3, pw⟩
      · left
        refine ⟨hJi.2 (by omega), ?_⟩
        rw [List.take_of_length_le (by omega)] at prs
        refine q _ Hf' H' (D :: rs) (e1.trans E) (fun a ha => ?_) ⟨D, rs, rfl, rfl, hnd, hfD, hHD, prs⟩
        rcases List.mem_cons.mp ha with rfl | hm
        · exact hDH
        · exact e1.h.free (hfr a hm)
/-- all of it stays from now on -/
theorem fix_rows {Hf H : Hp} : ∀ {rs : List Addr} {rows : List (List As)}, Same Hf H → rs.Nodup → Paired (RowOk Hf H) rs rows → ∃ Hf', Same Hf Hf' ∧ Same Hf' H ∧ (∀ a, a ∉ rs → Hf' a = Hf a) ∧ Pa Hf' (rs.map V.ref) (rows.map LsA)
  | _, _, z, _, .nil => ⟨Hf, .refl _, z, fun _ _ => rfl, .nil⟩
  | r :: rs, row :: rows, z, nd, .cons h q => by
    obtain ⟨Hf', s1, s2, k, p⟩ := fix_rows z (List.nodup_cons.mp nd).2 q
    obtain ⟨h1, vs, h2, h3⟩ := h
    have hr : Hf' r = none := by rw [k r (List.nodup_cons.mp nd).1]; exact h1
    obtain ⟨f1, f2⟩ := fix1 s2 hr h2
    refine ⟨upd Hf' r (.lst vs), s1.trans f1, f2, fun a ha => ?_, .cons ⟨r, vs, rfl, upd_same, pa_mono (s1.trans f1) h3⟩ (pa_mono f1 p)⟩
    rw [upd_ne (fun z => ha (by rw [z]; simp)), k a (fun z => ha (List.mem_cons_of_mem _ z))]
theorem fix_OO {Hf H : Hp} {v : V} {A : List Addr} {rows : List (List As)} (z : Same Hf H) (h : (OO rows).p Hf H v A) : ∃ Hf', Same Hf Hf' ∧ Same Hf' H ∧ (∀ a, a ∉ A → Hf' a = Hf a) ∧ (LsA (rows.map LsA)).p Hf' v := by
  obtain ⟨p, rs, rfl, rfl, nd, hf, hh, hp⟩ := h
  obtain ⟨Hf', s1, s2, k, pa⟩ := fix_rows z (List.nodup_cons.mp nd).2 hp
  have hp' : Hf' p = none := by rw [k p (List.nodup_cons.mp nd).1]; exact hf
  obtain ⟨f1, f2⟩ := fix1 s2 hp' hh
  refine ⟨upd Hf' p (.lst (rs.map V.ref)), s1.trans f1, f2, fun a ha => ?_, p, rs.map V.ref, rfl, upd_same, pa_mono f1 pa⟩
  rw [upd_ne (fun z => ha (by rw [z]; simp)), k a (fun z => ha (List.mem_cons_of_mem _ z))]
theorem ev_fixOO {rows : List (List As)} (h : EvW te Γ (OO rows)) : EvA te Γ (LsA (rows.map LsA)) := fun Hf H σ A e Q q => h Hf H σ A e Q fun v Hf' H' B e1 hB pv => by
  obtain ⟨Hf2, s1, s2, k, pl⟩ := fix_OO e1.z pv
  refine q v Hf2 H' ⟨e1.f.trans s1, e1.h, s2, fun a ha hn => ?_⟩ pl
  rw [k a (fun hm => ha (hB a hm))]
  exact e1.n a ha hn
/-- a tray of one's own -/
def OT (K : PySem.W.Frag) (t : List (List Int)) : Ow := OO (t.map fun r => r.map fun i => Dt K (.int i))
theorem lsA_mono {as bs : List As} (h : ∀ H vs, Pa H vs as → Pa H vs bs) : (LsA as).le (LsA bs) := fun H v ⟨p, vs, e, hp, pv⟩ => ⟨p, vs, e, hp, h H vs pv⟩
theorem row_le {r : List Int} : (LsA (r.map fun i => Dt K (.int i))).le (Dt K (DI r)) := fun H v h => lsA_le _ _ (by rw [List.map_map]; exact h)
theorem tray_pa {H : Hp} : ∀ (t : List (List Int)) (vs : List V), Pa H vs ((t.map fun r => r.map fun i => Dt K (.int i)).map LsA) → DqAll K H vs (t.map DI)
  | [], _, .nil => .nil
  | _ :: t, _, .cons h q => .cons (row_le _ _ h) (tray_pa t _ q)
theorem tray_le {t : List (List Int)} : (LsA ((t.map fun r => r.map fun i => Dt K (.int i)).map LsA)).le (Dt K (DT t)) := fun H v ⟨p, vs, e, hp, pv⟩ => by
  subst e
  exact .lst hp (tray_pa t vs pv)
theorem ev_fixOT {t : List (List Int)} (h : EvW te Γ (OT K t)) : EvA te Γ (Dt K (DT t)) := (ev_fixOO h).le tray_le
theorem st_fixOT {Hf H : Hp} {σ : L2.St} {i : Nat} {tr : List (List Int)} (s : StOk c Hf H σ Γ) (h : Γ[i]? = some (.ow (OT K tr))) (hW : c.W = []) : ∃ Hf', StOk c Hf' H σ (Γ.set i (.as (Dt K (DT tr)))) := by
  obtain ⟨A, e, ha⟩ := s.e
  have hil : i < Γ.length := (List.getElem?_eq_some_iff.mp h).1
  obtain ⟨v, ev, pv⟩ := e.ow h
  obtain ⟨Hf', f1, f2, k, pl⟩ := fix_OO s.b.z pv
  have hcp : ∀ a ∈ A i, c.h a = none := fun a hm => (ha i a hm).elim id fun z => by rw [hW] at z; cases z
  refine ⟨Hf', ⟨s.b.f.trans f1, s.b.h, fun a h1 h2 => ?_, s.b.k, f2⟩, atN A i [], ⟨f2, by rw [e.len, List.length_set], fun j t ht => ?_, fun j k n a hj hk => ?_, fun j hj => ?_⟩, fun j a hj => ?_⟩
  · rw [k a (fun hm => h1 (hcp a hm))]; exact s.b.n a h1 h2
  · by_cases cj : i = j
    · subst cj
      rw [List.getElem?_set_self hil] at ht
      obtain rfl := Option.some.inj ht
      show SlOk _ _ _ (if i = i then [] else A i) _
      rw [if_pos rfl]
      refine ⟨rfl, v, ?_, tray_le _ _ pl⟩
      rw [List.getD_eq_getElem?_getD, ev]; rfl
    · rw [List.getElem?_set_ne cj] at ht
      show SlOk _ _ _ (if j = i then [] else A j) _
      rw [if_neg (fun z => cj z.symm)]
      have k3 := e.ok j t ht
      cases t with
      | un => exact k3
      | as a => obtain ⟨h1, v, h2, h3⟩ := k3; exact ⟨h1, v, h2, a.mono f1 h3⟩
      | ow w3 =>
        obtain ⟨v3, ev3, p3⟩ := k3
        have fr3 := w3.fr p3
        refine ⟨v3, ev3, w3.mono p3 f1 (fun a ha => ?_) fun _ _ => rfl⟩
        rw [k a (fun hm => e.dj i j cj a hm ha)]; exact (fr3 a ha).1
  · have hj' : a ∈ (if j = i then [] else A j) := hj
    have hk' : a ∈ (if k = i then [] else A k) := hk
    by_cases c1 : j = i
    · rw [if_pos c1] at hj'; cases hj'
    · rw [if_neg c1] at hj'
      by_cases c2 : k = i
      · rw [if_pos c2] at hk'; cases hk'
      · rw [if_neg c2] at hk'; exact e.dj j k n a hj' hk'
  · rw [List.length_set] at hj
    show (if j = i then [] else A j) = []
    rw [if_neg (by omega)]; exact e.out j hj
  · have hj' : a ∈ (if j = i then [] else A j) := hj
    by_cases c1 : j = i
    · rw [if_pos c1] at hj'; cases hj'
    · rw [if_neg c1] at hj'; exact ha j a hj'
theorem rn_fixOT {i : Nat} {tr : List (List Int)} (h : Γ[i]? = some (.ow (OT K tr))) (n : Rn c t (Γ.set i (.as (Dt K (DT tr)))) k) (hW : c.W = [] := by rfl) : Rn c t Γ k := fun D σ H Hf s q => by
  obtain ⟨Hf', s'⟩ := st_fixOT s h hW
  exact n D σ H Hf' s' q
theorem rows_set {Hf H H' : Hp} : ∀ {rs : List Addr} {rows : List (List As)} {i : Nat} {r : Addr} {row : List As}, Paired (RowOk Hf H) rs rows → rs.Nodup → rs[i]? = some r → RowOk Hf H' r row → (∀ a ∈ rs, a ≠ r → H' a = H a) → Paired (RowOk Hf H') rs (rows.set i row)
  | _, _, i, _, _, .nil, _, e, _, _ => by simp at e
  | a :: rs, x :: rows, 0, r, row, .cons h q, nd, e, hr, k => by
    obtain rfl := Option.some.inj e
    refine .cons hr (rows_mono q (.refl _) (fun b hb => ?_) fun b hb => k b (List.mem_cons_of_mem _ hb) (fun z => (List.nodup_cons.mp nd).1 (by rw [← z]; exact hb)))
    obtain ⟨j, hj⟩ := List.getElem?_of_mem hb
    have hl := Paired.length q
    obtain ⟨hjl, _⟩ := List.getElem?_eq_some_iff.mp hj
    obtain ⟨r', hr', ok⟩ := rows_get q (List.getElem?_eq_getElem (l := rows) (i := j) (by omega))
    rw [hj] at hr'
    obtain rfl := Option.some.inj hr'
    exact ok.1
  | a :: rs, x :: rows, i + 1, r, row, .cons h q, nd, e, hr, k => by
    have hm : r ∈ rs := List.mem_of_getElem? e
    have hne : a ≠ r := fun z => (List.nodup_cons.mp nd).1 (by rw [z]; exact hm)
    obtain ⟨h1, vs, h2, h3⟩ := h
    exact .cons ⟨h1, vs, (k a (by simp) hne).trans h2, h3⟩ (rows_set q (List.nodup_cons.mp nd).2 e hr fun b hb => k b (List.mem_cons_of_mem _ hb))
theorem pa_set {H : Hp} : ∀ {vs : List V} {as : List As} {j : Nat} {v : V} {a : As}, Pa H vs as → a.p H v → Pa H (vs.set j v) (as.set j a)
  | _, _, _, _, _, .nil, _ => .nil
  | _, _, 0, _, _, .cons h q, p => .cons p q
  | _, _, j + 1, _, _, .cons h q, p => .cons h (pa_set q p)
theorem ixN_of {n : Nat} {i : Int} {j : Nat} (h : i = (j : Int)) (hj : j < n) : ixN n i = some j := by
  unfold ixN
  rw [if_pos (by omega), if_pos (by omega)]
  congr 1
  omega
/-- x[a][b] = e on a tray of one's own -/
theorem rn_setOT {i : Nat} {tr : List (List Int)} {ti tj : TE} {a b z : Int} {m n : Nat} {row : List Int} (hi : Γ[i]? = some (.ow (OT K tr))) (he : EvA te Γ (Dt K (.int z))) (ha : EvA ti Γ (Dt K (.int a))) (hb : EvA tj Γ (Dt K (.int b))) (ea : a = (m : Int)) (eb : b = (n : Int)) (hm : tr[m]? = some row) (hn : n < row.length)
    (nx : k.nx (Γ.set i (.ow (OT K (tr.set m (row.set n z)))))) : Rn c (tAsg te (gSub (tOp (rIxL K) (tVar i) ti) tj rSetL)) Γ k := fun D σ H Hf s q => by
  obtain ⟨A, e, hA⟩ := s.e
  refine he Hf H σ A e _ fun v Hf1 H1 e1 pv => ?_
  have en1 := e.ext e1
  obtain ⟨u, eu, pu⟩ := en1.ow hi
  obtain ⟨p, rs, rfl, eA, nd, hf, hh, hp⟩ := pu
  refine ⟨.ref p, eu, ha Hf1 H1 σ A en1 _ fun va Hf2 H2 e2 pa => ?_⟩
  cases dt_int pa
  have hrow : (tr.map fun r => r.map fun i => Dt K (.int i))[m]? = some (row.map fun i => Dt K (.int i)) := by rw [List.getElem?_map, hm]; rfl
  obtain ⟨r, hr, hok⟩ := rows_get hp hrow
  refine ⟨p, rs.map V.ref, a, .ref r, rfl, rfl, .inl (.inl (e2.h _ _ hh)), at_nat (by rw [List.getElem?_map, hr]; rfl) ea, hb Hf2 H2 σ A (en1.ext e2) _ fun vb Hf3 H3 e3 pb => ?_⟩
  cases dt_int pb
  have E := e2.trans e3
  have en3 := en1.ext E
  obtain ⟨_, ws, hw, pw⟩ := hok
  have hwl : ws.length = row.length := by rw [pa_len pw, List.length_map]
  refine ⟨r, ws, b, n, rfl, rfl, E.h _ _ hw, ixN_of eb (by omega), ?_⟩
  have live : ∀ a ∈ A i, H3 a = H1 a := fun a hm => by
    have := owned_live en1 hm
    cases z : H1 a with
    | none => exact absurd z this.1
    | some o => exact E.h a o z
  have frz : ∀ a ∈ A i, Hf3 a = none := fun a hm => E.n a (owned_live en1 hm).1 (owned_live en1 hm).2
  have hrs : r ∈ rs := List.mem_of_getElem? hr
  have hpr : p ≠ r := fun z => (List.nodup_cons.mp nd).1 (by rw [z]; exact hrs)
  refine q.nx _ nx _ _ Hf3 (st_turn ((s.b.ext e1).ext E) en3 hA hi eu (fun a hm => upd_ne fun z => hm (by rw [eA, z]; exact List.mem_cons_of_mem _ hrs)) (fun a hm => ?_) ?_)
  · by_cases z : a = r
    · rw [z, upd_same]; exact fun z => nomatch z
    · rw [upd_ne z, live a hm]; exact (owned_live en1 hm).1
  · refine ⟨p, rs, rfl, eA, nd, frz p (by rw [eA]; simp), ?_, ?_⟩
    · rw [upd_ne hpr, live p (by rw [eA]; simp)]; exact hh
    · have hp3 : Paired (RowOk Hf3 H3) rs (tr.map fun r => r.map fun i => Dt K (.int i)) := rows_mono hp E.f (fun a hm => frz a (by rw [eA]; exact List.mem_cons_of_mem _ hm)) fun a hm => live a (by rw [eA]; exact List.mem_cons_of_mem _ hm)
      have hs := rows_set (H' := upd H3 r (.lst (ws.set n v))) (row := (row.set n z).map fun i => Dt K (.int i)) hp3 (List.nodup_cons.mp nd).2 hr ⟨frz r (by rw [eA]; exact List.mem_cons_of_mem _ hrs), ws.set n v, upd_same, ?_⟩ (fun a _ hne => upd_ne hne)
      · rwa [show ((tr.map fun r => r.map fun i => Dt K (.int i)).set m ((row.set n z).map fun i => Dt K (.int i))) = ((tr.set m (row.set n z)).map fun r => r.map fun i => Dt K (.int i)) by simp only [List.map_set]] at hs
      · rw [List.map_set]
        exact pa_set (pa_mono E.f pw) (As.mono _ E.f pv)
theorem eb_isNoneO {i : Nat} {tr : List (List Int)} {tb : TE} (hi : Γ[i]? = some (.ow (OT K tr))) (hb : EvA tb Γ (Dt K .none)) : EvA (tOp rIsNone (tVar i) tb) Γ (Dt K (.bool false)) := fun Hf H σ A e Q q => by
  obtain ⟨v, ev, p, rs, rfl, _⟩ := e.ow hi
  refine ⟨_, ev, hb Hf H σ A e _ fun y Hf1 H1 e1 py => ⟨dt_non py, ?_⟩⟩
  exact q _ Hf1 H1 e1 (.bl _)
end
theorem eg_pair {K : PySem.W.Frag} {Γ Γ' : List Sl} {α β : Type} {f : α → PyData} {g : β → PyData} {p : α × β} {t : TGs} (h : EvGs t [Dt K (f p.1), Dt K (g p.2)] Γ Γ') : EvG (gTup K 2 t) (Dt K (PairD f g p)) Γ Γ' := eg_tup (ds := [f p.1, g p.2]) h rfl
theorem wipeG_len (Γ : List Sl) : ∀ vs : List Nat, (wipeG Γ vs).length = Γ.length
  | [] => rfl
  | v :: vs => by unfold wipeG; rw [List.length_set, wipeG_len Γ vs]
/-- [list(r) for r in t] -/
theorem ew_copyT {K : PySem.W.Frag} {Γ : List Sl} {tl : TE} {t : List (List Int)} {j : Nat} {vs : List Nat} (h : EvA tl Γ (Dt K (DT t))) (hj : j ∈ vs) (hl : j < Γ.length) (hz : t.length ≤ 10000000) : EvW (tLc (iList K tl) (gName j) tYes (tCB (rListOf K) (tCons (tVar j) tNil)) vs) Γ (OT K t) := by
  refine ew_lcOO (t.map fun r => r.map fun i => Dt K (.int i)) (gw_name hj) (ei_listD (ds := t.map DI) h) (by simp) (by simpa using hz) fun i a ha => ⟨_, eg_name, fun y hy => ?_⟩
  rw [List.getElem?_map, List.getElem?_map] at ha
  rw [List.getElem?_map] at hy
  cases ht : t[i]? with
  | none => rw [ht] at ha; cases ha
  | some r =>
    rw [ht] at ha hy
    obtain rfl := Option.some.inj ha
    obtain rfl := Option.some.inj hy
    have e : (r.map fun i => Dt K (.int i)) = (r.map PyData.int).map (Dt K) := by rw [List.map_map]; rfl
    show EvW _ _ (OL (r.map fun i => Dt K (.int i)))
    rw [e]
    exact ew_listD (el_dt (ev_var (List.getElem?_set_self (by rw [wipeG_len]; exact hl))))
end DL

namespace DL
open PySem PySem.Spec L2
open PyProof.Rows hiding St

section
variable {X : Cx}
/-- s[::-1] of a text -/
def tRevS (te : TE) : TE := fun σ H Q => te σ H fun x H1 => ∃ z : Str, x = .str z ∧ z.length ≤ sizeLine ∧ Q (.str (SX.S z.cps.toList.reverse)) H1
theorem sliceBy_rev (z : Str) (u : Tok) : (Txt.sliceBy z none none (-1, u)) = SX.S z.cps.toList.reverse := by
  refine TL.ext_tl ?_
  show (Txt.sliceBy z none none (-1, u)).cps.toList = (SX.S z.cps.toList.reverse).cps.toList
  rw [PyProof.Rows.step_rev_list]
  show _ = z.cps.toList.reverse
  apply List.ext_getElem?
  intro i
  have hl : z.length = z.cps.toList.length := by simp [Str.length]
  by_cases h : i < z.length
  · rw [List.getElem?_map, List.getElem?_range h, List.getElem?_reverse (by omega)]
    show some _ = _
    rw [← hl]
    rw [Array.getElem?_toList]
    simp [Array.getD, show z.length - 1 - i < z.cps.size by show z.length - 1 - i < z.length; omega]
  · have e : z.length = z.cps.size := rfl
    rw [List.getElem?_eq_none (by simp; omega), List.getElem?_eq_none (by simp; omega)]
theorem pe_revS {e : Expr} {te : TE} {k : Nat} {p1 p2 p3 pos : Pos} (he : PE X e te) : PE X (.Subscript e (.Slice none none (some (.UnaryOp .USub (.Constant (.int 1) k p1) p2)) p3) pos) (tRevS te) := by
  refine ⟨fun pins s σ H Q I h => ?_⟩
  refine Subscript_ (thn (he.run pins s σ H _ I h) fun v s1 ⟨x, H1, I1, r1, q1⟩ => ?_)
  obtain ⟨z, ex, hz, q⟩ := q1
  subst ex
  obtain ⟨t, rfl⟩ := r1
  have hst : PO X (some (.UnaryOp .USub (.Constant (.int 1) k p1) p2)) (tPart (tUn (rU fun i => .int (-i)) (tC (.int 1)))) := po_some (pe_un un_neg pe_int)
  refine wpAny_Slice (thn (po_none.run pins s1 σ H1 (fun o H2 => o = none ∧ H2 = H1) I1 ⟨rfl, rfl⟩) fun vl s2 ⟨l, H2, I2, pl, el, e2⟩ => ?_)
  subst el e2
  refine thn (po_none.run pins s2 σ H2 (fun o H3 => o = none ∧ H3 = H2) I2 ⟨rfl, rfl⟩) fun vu s3 ⟨u, H3, I3, pu, eu, e3⟩ => ?_
  subst eu e3
  refine thn (hst.run pins s3 σ H3 (fun o H4 => o = some (-1) ∧ H4 = H3) I3 ⟨1, rfl, -1, rfl, rfl, rfl⟩) fun vs s4 ⟨o, H4, I4, ps, eo, e4⟩ => ?_
  subst eo e4
  have I5 : Inv X pins σ H4 { s4 with heap := s4.heap.push { cls := .type "slice", data := .fields #[vl, vu, vs] } } := I4.kept (t' := s4.toks) fun b ob q => Heap.get?_push_of_some _ q
  cases pl
  cases pu
  cases ps with
  | int _ ut =>
  refine tail_any (ops := [.str z t, .ref s4.heap.objs.size]) (typeIs_str _ _ _) (F.slot_str_getitem.lookup) ?_ (by with_unfolding_all rfl)
  refine wpAny_getItem_str_slice (l := none) (u := none) (st := some (-1, ut)) ⟨_, Heap.get?_push_size _ rfl, rfl, rfl⟩ rfl ?_
  have hq : Q (.str (Txt.sliceBy z none none (-1, ut))) H4 := by rw [sliceBy_rev]; exact q
  have hl : (Txt.sliceBy z none none (-1, ut)).length ≤ sizeLine := by rw [PyProof.Rows.step_rev_len]; exact hz
  exact ⟨hl, .str _, H4, I5.tok _, ⟨_, rfl⟩, hq⟩
def rJoin (K : PySem.W.Frag) : V → List V → Hp → VK → Prop := fun x xs H Q => ∃ a p, ∃ ys : List Str, x = .str a ∧ xs = [.ref p] ∧ (SqL K H p (ys.map V.str) ∨ SqT K H p (ys.map V.str)) ∧ (ys.map (·.length)).sum + ys.length * a.length ≤ 16777216 ∧ Q (.str (Txt.join a ys)) H
theorem pe_joinK (K : PySem.W.Frag) {o e : Expr} {to te : TE} {apos pos : Pos} (ho : PE X o to) (he : PE X e te) (hK : X.K = K := by rfl) (hs : starEach [e] X.env = [(false, eval e X.env)] := by rfl) (hbase : attributeBase o "join" X.env (eval o X.env) = eval o X.env := by rfl) (hline : (apos.endLine == pos.line) = true := by rfl) :
    PE X (.Call (.Attribute o "join" apos) [e] [] pos) (tM1 (rJoin K) to te) := by subst hK; exact pe_join ho he hs hbase hline
/-- products of whole numbers, great ones too -/
theorem op_mulB : OpR X (binaryOp .Mult) (rI IntMulOk fun i j => .int (i * j)) := opI fun _ _ _ _ _ _ _ hc q => mul_int q hc
theorem mulOk {i j : Int} {a b : Nat} (ha : i.natAbs < 2 ^ a) (hb : j.natAbs < 2 ^ b) (h0 : 0 < a) (h1 : 0 < b) (h : a + b ≤ 100000000) : IntMulOk i j := by
  have x := PySem.Flt.log2_lt_of h0 ha
  have y := PySem.Flt.log2_lt_of h1 hb
  have bd : ∀ x : Int, Builtin.Int.intBits x ≤ x.natAbs.log2 + 1 := fun x => by
    unfold Builtin.Int.intBits
    split <;> omega
  have h1 := bd i
  have h2 := bd j
  have e : bitsLine = 134217728 := by decide
  unfold IntMulOk
  intro z
  rw [Bool.and_eq_true] at z
  have z2 := z.2
  unfold Builtin.Int.intTooBig at z2
  have z3 := of_decide_eq_true z2
  rw [e] at z3
  omega
end
section
variable {K : PySem.W.Frag} {Γ : List Sl} {ta tb te to : TE} {a b : As}
theorem ev_revS {x : Str} (h : EvA te Γ (Dt K (.str x))) (hl : x.length ≤ sizeLine) : EvA (tRevS te) Γ (Dt K (DS x.cps.toList.reverse)) := fun Hf H σ A e Q q =>
  h Hf H σ A e _ fun v Hf1 H1 e1 pv => by
    cases dt_str pv
    exact ⟨x, rfl, hl, q _ Hf1 H1 e1 (.str _)⟩
theorem joinL_nil : ∀ ls : List (List Nat), TL.joinL [] ls = ls.flatten := by
  intro ls
  induction ls with
  | nil => rfl
  | cons p ls ih =>
    cases ls with
    | nil => simp [TL.joinL]
    | cons q r =>
      show p ++ ([] ++ TL.joinL [] (q :: r)) = _
      rw [ih, List.nil_append]; simp
theorem ev_join {ls : List (List Nat)} (ho : EvA to Γ (Dt K (.str (SX.S [])))) (h : EvL te Γ ((ls.map DS).map (Dt K))) (hl : ls.flatten.length ≤ 1000000) : EvA (tM1 (rJoin K) to te) Γ (Dt K (DS ls.flatten)) := fun Hf H σ A e Q q =>
  ho Hf H σ A e _ fun v Hf1 H1 e1 pv => by
    cases dt_str pv
    refine ⟨⟨_, rfl⟩, h Hf1 H1 σ A (e.ext e1) _ fun p vs Hf2 H2 e2 hp pvs => ?_⟩
    have hv : vs = (ls.map SX.S).map V.str := by
      clear hp hl q h
      induction ls generalizing vs with
      | nil => cases pvs; rfl
      | cons n ns ih => cases pvs with | cons h q => rw [List.map_cons, List.map_cons, dt_str h, ih _ q]
    subst hv
    refine ⟨_, p, ls.map SX.S, rfl, rfl, .inl (.inl (.inl hp)), ?_, ?_⟩
    · rw [SX.lens, SX.S_len, List.length_nil, Nat.mul_zero, Nat.add_zero, ← List.length_flatten]; omega
    · rw [SX.join_S, joinL_nil]
      exact q _ Hf2 H2 (e1.trans e2) (.str _)
/-- isinstance of data -/
def isT : PyData → String → Bool
  | .none, _ => false
  | .bool _, t => t == "bool" || t == "int"
  | .int _, t => t == "int"
  | .str _, t => t == "str"
  | .list _, t => t == "list"
  | .tuple _, t => t == "tuple"
  | .dict _, t => t == "dict"
theorem kit_isT (d : PyData) {T : String} (h : T = "int" ∨ T = "bool" ∨ T = "str" ∨ T = "list" ∨ T = "tuple") : kitB (tyN d) T = some (isT d T) := by
  rcases h with rfl | rfl | rfl | rfl | rfl <;> cases d <;> (first | rfl | decide +kernel | (show kitB _ _ = some _; decide +kernel))
theorem ev_isT {d : PyData} {T : String} (ha : EvA ta Γ (Dt K d)) (hT : T = "int" ∨ T = "bool" ∨ T = "str" ∨ T = "list" ∨ T = "tuple") : EvA (tCB (rIsi K) (tCons ta (tCons (tC (.ty T)) tNil))) Γ (Dt K (.bool (isT d T))) :=
  ev_isi ha ev_ct (kit_isT d hT)
theorem ev_all {bs : List Bool} (h : EvL te Γ ((bs.map PyData.bool).map (Dt K))) : EvA (tCB (rAll K) (tCons te tNil)) Γ (Dt K (.bool (bs.all id))) := fun Hf H σ A e Q q =>
  h Hf H σ A e _ fun p vs Hf1 H1 e1 hp pv => by
    have hv : vs = bs.map V.bl := by
      clear hp q h
      induction bs generalizing vs with
      | nil => cases pv; rfl
      | cons n ns ih => cases pv with | cons h q => rw [List.map_cons, dt_bl h, ih _ q]
    subst hv
    exact ⟨p, bs, rfl, .inl (.inl hp), q _ Hf1 H1 e1 (.bl _)⟩
theorem pa_ints {H : Hp} : ∀ {ns : List Int} {vs : List V}, Pa H vs ((ns.map PyData.int).map (Dt K)) → vs = ns.map V.int
  | [], _, .nil => rfl
  | _ :: _, _, .cons h q => by rw [List.map_cons, dt_int h, pa_ints q]
theorem ints_pa {H : Hp} : ∀ (ns : List Int), Pa H (ns.map V.int) ((ns.map PyData.int).map (Dt K))
  | [] => .nil
  | _ :: ns => .cons (.int _) (ints_pa ns)
theorem ew_sorted {ns ns0 : List Int} (h : EvL te Γ ((ns.map PyData.int).map (Dt K))) (hl : ns.length < 64) (hp : ns0.Perm ns) (hs : ns0.Pairwise (· ≤ ·)) : EvW (tCB (rSorted K) (tCons te tNil)) Γ (OL ((ns0.map PyData.int).map (Dt K))) := fun Hf H σ A e Q q =>
  h Hf H σ A e _ fun p vs Hf1 H1 e1 hpv pv => by
    have hv := pa_ints pv
    subst hv
    refine ⟨p, ns, rfl, .inl (.inl hpv), hl, fun ns' l hp' hs' hl' => ?_⟩
    have e0 : ns' = ns0 := (hp'.trans hp.symm).eq_of_pairwise (fun x y _ _ h1 h2 => Int.le_antisymm h1 h2) hs' hs
    subst e0
    exact q _ Hf1 _ [l] (e1.trans (.loose e1.z hl')) (fun a ha => by
      obtain rfl : a = l := by simpa using ha
      exact e1.h.free hl') ⟨l, _, rfl, rfl, e1.z.free hl', upd_same, ints_pa _⟩
theorem ew_listRg {n : Int} (h : EvA ta Γ (Dt K (.int n))) (hn : 0 ≤ n ∧ n ≤ 1000000) : EvW (tLstRg (tRg1 ta)) Γ (OL ((((List.range n.toNat).map fun i => ((i : Nat) : Int)).map PyData.int).map (Dt K))) := fun Hf H σ A e Q q =>
  h Hf H σ A e _ fun v Hf1 H1 e1 pv => by
    cases dt_int pv
    refine ⟨n, rfl, RgOk.of_le (by omega) (by omega) (by omega) (by omega), fun l hl => ?_⟩
    have er : rgV 0 n = (((List.range n.toNat).map fun i => ((i : Nat) : Int))).map V.int := by
      unfold rgV
      rw [List.map_map, Int.sub_zero]
      apply List.map_congr_left
      intro i _
      show V.int (0 + _) = V.int _
      rw [Int.zero_add]
    rw [er]
    exact q _ Hf1 _ [l] (e1.trans (.loose e1.z hl)) (fun a ha => by
      obtain rfl : a = l := by simpa using ha
      exact e1.h.free hl) ⟨l, _, rfl, rfl, e1.z.free hl, upd_same, ints_pa _⟩
end
end DL

namespace DL
open PySem PySem.Spec L2
open PyProof.Rows hiding St

/-! ### displayed dicts that stay -/
def keyD : Key → PyData
  | .inl i => .int i
  | .inr x => .str x
theorem dq_key {K : PySem.W.Frag} {H : Hp} {v : V} : ∀ {k : Key}, Dq K H v (keyD k) → v = kV k
  | .inl i, h => dt_int h
  | .inr x, h => dt_str h
def KaOk (H : Hp) (kv : Key × V) (ka : Key × As) : Prop := kv.1 = ka.1 ∧ ka.2.p H kv.2
theorem ka_mono {H H' : Hp} (e : Same H H') : ∀ {kvs : List (Key × V)} {kas : List (Key × As)}, Paired (KaOk H) kvs kas → Paired (KaOk H') kvs kas
  | _, _, .nil => .nil
  | _, _, .cons h q => .cons ⟨h.1, As.mono _ e h.2⟩ (ka_mono e q)
def DkA (kas : List (Key × As)) : As := ⟨fun H v => ∃ p kvs, v = .ref p ∧ H p = some (.dK kvs) ∧ Paired (KaOk H) kvs kas, fun e ⟨p, kvs, a, b, c⟩ => ⟨p, kvs, a, e _ _ b, ka_mono e c⟩⟩
def EvP (K : PySem.W.Frag) (trs : List (TE × TE)) (Γ : List Sl) (kas : List (Key × As)) : Prop := ∀ Hf H σ A, Env Hf H σ Γ A → ∀ Q : List (V × V) → Hp → Prop,
  (∀ (kvs : List (Key × V)) Hf' H', Ext Hf H Hf' H' → Paired (KaOk Hf') kvs kas → Q (kvs.map fun kv => (kV kv.1, kv.2)) H') → tPairs trs σ H Q
theorem merge_new : ∀ (more acc : List (Key × V)), (more.map (·.1)).Nodup → (∀ k ∈ more.map (·.1), k ∉ acc.map (·.1)) → mergeK acc more = acc ++ more
  | [], acc, _, _ => by simp [mergeK]
  | kv :: more, acc, nd, hd => by
    have hp : putK acc kv.1 kv.2 = acc ++ [kv] := by
      unfold putK
      rw [if_neg]
      intro h
      obtain ⟨x, hx, e⟩ := List.any_eq_true.mp h
      have e := of_decide_eq_true e
      exact hd kv.1 (by simp) (by rw [← e]; exact List.mem_map.mpr ⟨x, hx, rfl⟩)
    have ih := merge_new more (acc ++ [kv]) (List.nodup_cons.mp nd).2 (fun k hk h => by
      rw [List.map_append] at h
      rcases List.mem_append.mp h with h | h
      · exact hd k (List.mem_cons_of_mem _ hk) h
      · obtain rfl : k = kv.1 := by simpa using h
        exact (List.nodup_cons.mp nd).1 hk)
    show mergeK (putK acc kv.1 kv.2) more = _
    rw [hp, ih, List.append_assoc]; rfl
theorem ka_keys {H : Hp} : ∀ {kvs : List (Key × V)} {kas : List (Key × As)}, Paired (KaOk H) kvs kas → kvs.map (·.1) = kas.map (·.1)
  | _, _, .nil => rfl
  | _, _, .cons h q => by rw [List.map_cons, List.map_cons, h.1, ka_keys q]
theorem ka_find {H : Hp} {k : Key} : ∀ {kvs : List (Key × V)} {kas : List (Key × As)}, Paired (KaOk H) kvs kas →
    (∀ a, (kas.find? fun ka => decide (ka.1 = k)).map (·.2) = some a → ∃ v, valV kvs k = some v ∧ a.p H v) ∧ ((kas.find? fun ka => decide (ka.1 = k)).map (·.2) = none → valV kvs k = none)
  | _, _, .nil => ⟨fun a h => by simp at h, fun _ => rfl⟩
  | kv :: _, ka :: _, .cons h q => by
    have ih := ka_find (k := k) q
    unfold valV at ih ⊢
    by_cases c : ka.1 = k
    · have c2 : kv.1 = k := h.1.trans c
      simp only [List.find?_cons, c, c2, decide_true, Option.map_some]
      exact ⟨fun a e => ⟨_, rfl, by obtain rfl := Option.some.inj e; exact h.2⟩, fun e => nomatch e⟩
    · have c2 : ¬ kv.1 = k := fun z => c (h.1.symm.trans z)
      simp only [List.find?_cons, c, c2, decide_false]
      exact ih
section
variable {K : PySem.W.Frag} {Γ : List Sl} {tk tv td ty tx : TE} {trs : List (TE × TE)} {a b : As} {kas : List (Key × As)}
theorem ep_nil : EvP K [] Γ [] := fun Hf H σ A e Q q => q [] Hf H (.refl e.z) .nil
theorem ep_cons {k : Key} (hk : EvA tk Γ (Dt K (keyD k))) (hv : EvA tv Γ a) (hr : EvP K trs Γ kas) : EvP K ((tk, tv) :: trs) Γ ((k, a) :: kas) := fun Hf H σ A e Q q =>
  hk Hf H σ A e _ fun x Hf1 H1 e1 px => hv Hf1 H1 σ A (e.ext e1) _ fun y Hf2 H2 e2 py => hr Hf2 H2 σ A (e.ext (e1.trans e2)) _ fun kvs Hf3 H3 e3 pk => by
    obtain rfl := dq_key px
    exact q ((k, y) :: kvs) Hf3 H3 ((e1.trans e2).trans e3) (.cons ⟨rfl, a.mono e3.f py⟩ pk)
theorem ev_disp (h : EvP K trs Γ kas) (hl : kas.length ≤ 15) (nd : (kas.map (·.1)).Nodup) : EvA (tDisp trs) Γ (DkA kas) := fun Hf H σ A e Q q p hp => by
  have E0 : Ext Hf H Hf (upd H p (.dK [])) := .loose e.z hp
  refine h Hf _ σ A (e.ext E0) _ fun kvs Hf1 H1 e1 pk => ⟨e1.h _ _ upd_same, kvs, rfl, by rw [Paired.length pk]; exact hl, ?_⟩
  have hfp : Hf p = none := e.z.free hp
  have hf1 : Hf1 p = none := e1.n p (by rw [upd_same]; exact fun z => nomatch z) hfp
  rw [merge_new kvs [] (by rw [ka_keys pk]; exact nd) (fun _ _ h => nomatch h), List.nil_append]
  have E1 : Ext Hf H Hf1 (upd H1 p (.dK kvs)) := ⟨e1.f, fun a o ha => by
      have hne := ne_of_none ha hp
      rw [upd_ne hne]
      exact e1.h a o (by rw [upd_ne hne]; exact ha), fun a o ha => by rw [upd_ne (ne_of_none ha hf1)]; exact e1.z a o ha, fun a ha hn => by
      have hne : a ≠ p := fun z => ha (by rw [z]; exact hp)
      exact e1.n a (by rw [upd_ne hne]; exact ha) hn⟩
  exact q _ _ _ (E1.fix hp hf1 upd_same) ⟨p, kvs, rfl, upd_same, ka_mono (fix1 E1.z hf1 upd_same).1 pk⟩
/-- d.get(k, x) -/
theorem ev_dget2 {k : Key} {z : As} (hd : EvA td Γ (DkA kas)) (hy : EvA ty Γ (Dt K (keyD k))) (hx : EvA tx Γ b)
    (h1 : ∀ a, (kas.find? fun ka => decide (ka.1 = k)).map (·.2) = some a → a.le z) (h2 : (kas.find? fun ka => decide (ka.1 = k)).map (·.2) = none → b.le z) : EvA (tDGet2 td ty tx) Γ z := fun Hf H σ A e Q q =>
  hd Hf H σ A e _ fun x Hf1 H1 e1 ⟨p, kvs, ev, hp, pk⟩ => by
    subst ev
    refine ⟨p, rfl, .inl ⟨kvs, .inl (e1.z _ _ hp)⟩, hy Hf1 H1 σ A (e.ext e1) _ fun y Hf2 H2 e2 py => hx Hf2 H2 σ A (e.ext (e1.trans e2)) _ fun w Hf3 H3 e3 pw => ?_⟩
    obtain rfl := dq_key py
    have E := e2.trans e3
    have hp3 : H3 p = some (.dK kvs) := E.z _ _ (E.f _ _ hp)
    have hk := ka_find (k := k) (ka_mono E.f pk)
    refine ⟨valV kvs k, .k hp3, ?_⟩
    cases hf : (kas.find? fun ka => decide (ka.1 = k)).map (·.2) with
    | some a =>
      obtain ⟨v, hv, pa⟩ := hk.1 a hf
      rw [hv]
      exact q v Hf3 H3 (e1.trans E) (h1 a hf _ _ pa)
    | none =>
      rw [hk.2 hf]
      exact q w Hf3 H3 (e1.trans E) (h2 hf _ _ pw)
/-- d[k] -/
theorem ev_dget {k : Key} (hd : EvA td Γ (DkA kas)) (hy : EvA ty Γ (Dt K (keyD k))) (h1 : (kas.find? fun ka => decide (ka.1 = k)).map (·.2) = some a) : EvA (tDGet td ty) Γ a := fun Hf H σ A e Q q =>
  hd Hf H σ A e _ fun x Hf1 H1 e1 ⟨p, kvs, ev, hp, pk⟩ => by
    subst ev
    refine hy Hf1 H1 σ A (e.ext e1) _ fun y Hf2 H2 e2 py => ?_
    obtain rfl := dq_key py
    have hk := ka_find (k := k) (ka_mono e2.f pk)
    obtain ⟨v, hv, pa⟩ := hk.1 a h1
    exact ⟨p, v, rfl, by rw [← hv]; exact .k (e2.z _ _ (e2.f _ _ hp)), q v Hf2 H2 (e1.trans e2) pa⟩
end
section
variable {K : PySem.W.Frag} {Γ : List Sl} {tj : TE}
/-- a row of a tray of one's own -/
theorem el_OT {i : Nat} {tr : List (List Int)} {a : Int} {m : Nat} {row : List Int} (hi : Γ[i]? = some (.ow (OT K tr))) (ha : EvA tj Γ (Dt K (.int a))) (ea : a = (m : Int)) (hm : tr[m]? = some row) : EvL (tOp (rIxL K) (tVar i) tj) Γ ((row.map PyData.int).map (Dt K)) := fun Hf H σ A e Q q => by
  obtain ⟨u, eu, p, rs, rfl, eA, nd, hf, hh, hp⟩ := e.ow hi
  refine ⟨.ref p, eu, ha Hf H σ A e _ fun va Hf2 H2 e2 pa => ?_⟩
  cases dt_int pa
  have hrow : (tr.map fun r => r.map fun i => Dt K (.int i))[m]? = some (row.map fun i => Dt K (.int i)) := by rw [List.getElem?_map, hm]; rfl
  obtain ⟨r, hr, _, ws, hw, pw⟩ := rows_get hp hrow
  refine ⟨p, rs.map V.ref, a, .ref r, rfl, rfl, .inl (.inl (e2.h _ _ hh)), at_nat (by rw [List.getElem?_map, hr]; rfl) ea, ?_⟩
  have e3 : (row.map PyData.int).map (Dt K) = row.map fun i => Dt K (.int i) := by rw [List.map_map]; rfl
  exact q r ws Hf2 H2 e2 (e2.h _ _ hw) (by rw [e3]; exact pa_mono e2.f pw)
end
end DL

namespace DL
open PySem PySem.Spec L2
open PyProof.Rows hiding St

/-! ### try .. except X as n -/
section
variable {K : PySem.W.Frag} {Γ : List Sl} {c : Cb} {k : Kt} {i : Nat} {cv : Value} {tb : WX → TS} {ts : Addr → Value → Option Addr → TS} {Wout : WX}
/-- the ends of a suite whose name goes -/
def Kt.un (k : Kt) (i : Nat) : Kt := { k with nx := fun Γ => k.nx (Γ.set i .un), bk := fun Γ => k.bk (Γ.set i .un), ct := fun Γ => k.ct (Γ.set i .un) }
theorem kok_un {D : Ends} (q : KOk c k D) : KOk c (k.un i) { nx := fun σ' H' => D.nx (σ'.set i none) H', rt := D.rt, bk := fun σ' H' => D.bk (σ'.set i none) H', ct := fun σ' H' => D.ct (σ'.set i none) H' } :=
  ⟨fun Γ h σ H Hf s => q.nx _ h _ H Hf (s.putUn i none), q.rt, q.ro, fun Γ h σ H Hf s => q.bk _ h _ H Hf (s.putUn i none), fun Γ h σ H Hf s => q.ct _ h _ H Hf (s.putUn i none)⟩
def tTry (K : PySem.W.Frag) (cv : Value) (i : Nat) (ts : Addr → Value → Option Addr → TS) (tb : WX → TS) : TS := fun D σ H => tb (wAs K cv i ts (fun _ _ _ _ => False) D) D σ H
theorem ps_tryT {X : Cx} (K : PySem.W.Frag) {x n : Str} {body suite : List Stmt} {b₀ : Stmt} {np pos pos' : Pos} (hs : X.stack = X.env :: X.outer) (hf : X.env.frame = some X.env.locals) (hN : X.N.Nodup) (hi : X.N[i]? = some n) (hln : X.env.kindOf n = some .local) (hc : Names X x cv)
    (hb : ∀ (W : WX) (pn : List (Addr × Obj)) (xe : Value → Shared → Prop), Takes (X.tr pn xe) W → PassesOwn (model X.prog X.w) X.A X.env xe → PSs (X.tr pn xe) body (tb W))
    (hsu : ∀ (a : Addr) (oe : Obj) (cls : Value) (d : Option Addr) (pn : List (Addr × Obj)), Zc cls d oe → (∃ vs, oe.data = .fields vs) → PSs (X.suite a ((a, oe) :: pn)) (b₀ :: suite) (ts a cls d)) (hK : X.K = K := by rfl) :
    PS X (.Try body [.ExceptHandler (some (.Name x np)) (some n) (b₀ :: suite) pos'] [] [] pos) (tTry K cv i ts tb) := by
  subst hK
  exact ps_try_as hs hf hN hi hln hc takes0 hb hsu
theorem rn_try (G : Addr → List Sl → Prop) (hb : ∀ W : WX, (∀ C Γ', G C Γ' → ∀ {σ : L2.St} {H Hf : Hp}, StOk c Hf H σ Γ' → W (.ref C) none σ H) → Rn c (tb W) Γ k)
    (hs : ∀ C Γ', G C Γ' → PySem.W.exmOne K (.ref C) cv = some true ∧ ∀ a, Rn c (ts a (.ref C) none) (Γ'.set i (.as (CtA (.ref a)))) (k.un i)) : Rn c (tTry K cv i ts tb) Γ k := fun D σ H Hf s q =>
  hb _ (fun C Γ' g σ' H' Hf' s' => ⟨true, (hs C Γ' g).1, fun _ a _ => (hs C Γ' g).2 a _ _ H' Hf' (s'.putAs i (a := CtA (.ref a)) rfl) (kok_un q), fun z => nomatch z⟩) D σ H Hf s q
end
/-! ### isinstance of the error that a suite holds -/
def rIsE1 (K : PySem.W.Frag) (cls : Value) (d : Option Addr) (a : Addr) : List V → Hp → VK → Prop := fun xs H Q => ∃ D, cls = .ref D ∧ d = none ∧ ExcC K D ∧ rIsE K D a xs H Q
def rIsET (K : PySem.W.Frag) (cls : Value) (d : Option Addr) (a : Addr) : List V → Hp → VK → Prop := fun xs H Q => ∃ D, cls = .ref D ∧ d = none ∧ ExcC K D ∧
  ∃ (tp : Addr) (cs : List V) (us : List Value) (b : Bool), xs = [.ref a, .ref tp] ∧ H tp = some (.tup cs) ∧ Paired ClsV cs us ∧ PySem.W.kitAny K (.ref D) us = some b ∧ Q (.bl b) H
theorem call_isE1 {X : Cx} (K : PySem.W.Frag) {a : Addr} {cls : Value} {d : Option Addr} {oe : Obj} {pn : List (Addr × Obj)} (hz : Zc cls d oe) (hf : ∃ vs, oe.data = .fields vs) (hK : X.K = K := by rfl) : CallR (X.suite a ((a, oe) :: pn)) (.builtin "isinstance") (rIsE1 K cls d a) := by
  subst hK
  intro pins s σ H xs us Q I r h
  obtain ⟨D, rfl, rfl, C, h⟩ := h
  exact call_isE C hz hf pins s σ H xs us Q I r h
theorem call_isET {X : Cx} (K : PySem.W.Frag) {a : Addr} {cls : Value} {d : Option Addr} {oe : Obj} {pn : List (Addr × Obj)} (hz : Zc cls d oe) (hf : ∃ vs, oe.data = .fields vs) (hK : X.K = K := by rfl) : CallR (X.suite a ((a, oe) :: pn)) (.builtin "isinstance") (rIsET K cls d a) := by
  subst hK
  intro pins s σ H xs us Q I r h
  obtain ⟨D, rfl, rfl, C, tp, cs, ws, b, rfl, hT, k, e, q⟩ := h
  obtain ⟨u1, u2, rfl, r1, r2⟩ := vals2 r
  cases (show u1 = Value.ref a from r1)
  cases (show u2 = Value.ref tp from r2)
  obtain ⟨hget, _⟩ := I.pin (a, oe) (List.mem_append.mpr (.inl List.mem_cons_self))
  obtain ⟨vs, hv⟩ := hf
  have J : PySem.W.InstAt s.heap a oe D none := by
    obtain ⟨oc, od, oda, osl⟩ := oe
    obtain ⟨h1, h2⟩ := hz
    dsimp only at h1 h2 hv
    subst h1 h2 hv
    exact ⟨hget, rfl, rfl, trivial⟩
  obtain ⟨_, its, rv, o, h1, h2, n, h3⟩ := (show ObjOk X.prog X.w H s.heap tp (.tup cs) from I.hok tp _ hT)
  have e3 := ClsV.all k rv
  subst e3
  obtain ⟨oc, od, dt, sl⟩ := o
  simp only at h2 h3
  subst h2 h3
  exact PySem.W.kia_tup (PySem.W.handS_kitx_exc C.hg C.hk C.hs C.hd C.ha C.hn C.ht C.hm) I.kIn J h1 e (fun z => nomatch z) fun tk => ⟨.bl b, H, I.tok tk, rfl, q⟩
section
variable {K : PySem.W.Frag} {Γ : List Sl} {a C : Addr} {ta tb : TE} {b : Bool}
theorem ev_isE1 {D : Addr} (hx : ExcC K C) (ha : EvA ta Γ (CtA (.ref a))) (hb : EvA tb Γ (CtA (.ref D))) (hk : PySem.W.kitOne K (.ref C) (.ref D) = some b) : EvA (tCB (rIsE1 K (.ref C) none a) (tCons ta (tCons tb tNil))) Γ (Dt K (.bool b)) := fun Hf H σ A e Q q =>
  ha Hf H σ A e _ fun v Hf1 H1 e1 p1 => hb Hf1 H1 σ A (e.ext e1) _ fun u Hf2 H2 e2 p2 => by
    cases (show v = .ref a from p1)
    cases (show u = .ref D from p2)
    exact ⟨C, rfl, rfl, hx, _, _, b, rfl, fun u r => (ClsV.own D).eq r, hk, q _ Hf2 H2 (e1.trans e2) (.bl b)⟩
theorem ev_isE1T {T : String} (hx : ExcC K C) (ha : EvA ta Γ (CtA (.ref a))) (hb : EvA tb Γ (CtA (.ty T))) (hk : PySem.W.kitOne K (.ref C) (.type T) = some b) : EvA (tCB (rIsE1 K (.ref C) none a) (tCons ta (tCons tb tNil))) Γ (Dt K (.bool b)) := fun Hf H σ A e Q q =>
  ha Hf H σ A e _ fun v Hf1 H1 e1 p1 => hb Hf1 H1 σ A (e.ext e1) _ fun u Hf2 H2 e2 p2 => by
    cases (show v = .ref a from p1)
    cases (show u = .ty T from p2)
    exact ⟨C, rfl, rfl, hx, _, _, b, rfl, fun u r => (ClsV.ty T).eq r, hk, q _ Hf2 H2 (e1.trans e2) (.bl b)⟩
theorem cts_eq {H : Hp} : ∀ {vs cs : List V}, Pa H vs (cs.map CtA) → vs = cs
  | [], [], _ => rfl
  | v :: vs, c :: cs, .cons h q => by rw [show v = c from h, cts_eq q]
  | [], _ :: _, h => nomatch h
  | _ :: _, [], h => nomatch h
theorem ev_isET {t : TA} {cs : List V} {us : List Value} (hx : ExcC K C) (ha : EvA ta Γ (CtA (.ref a))) (hb : EvS t Γ (cs.map CtA)) (hc : Paired ClsV cs us) (hk : PySem.W.kitAny K (.ref C) us = some b) (hl : cs.length ≤ sizeLine) : EvA (tCB (rIsET K (.ref C) none a) (tCons ta (tCons (tTup t) tNil))) Γ (Dt K (.bool b)) := fun Hf H σ A e Q q =>
  ha Hf H σ A e _ fun v Hf1 H1 e1 p1 => hb Hf1 H1 σ A (e.ext e1) _ fun vs Hf2 H2 e2 p2 => by
    cases (show v = .ref a from p1)
    obtain rfl := cts_eq p2
    refine ⟨hl, fun p hp => ?_⟩
    exact ⟨C, rfl, rfl, hx, p, vs, us, b, rfl, upd_same, hc, hk, q _ _ _ ((e1.trans e2).trans (.loose e2.z hp)) (.bl b)⟩
end
end DL

namespace DL
open PySem PySem.Spec L2
open PyProof.Rows hiding St

/-! ### the script: a list that may be written -/
theorem sql_mono {K : PySem.W.Frag} {H H' : Hp} {a : Addr} {xs : List V} (e : Same H H') (h : SqL K H a xs) : SqL K H' a xs := by
  rcases h with h | h
  · exact .inl (rd_mono e h)
  · exact .inr h
def SqA (K : PySem.W.Frag) (ns : List Int) : As := ⟨fun H v => ∃ a, v = .ref a ∧ SqL K H a (ns.map V.int), fun e ⟨a, h1, h2⟩ => ⟨a, h1, sql_mono e h2⟩⟩
section
variable {K : PySem.W.Frag} {Γ : List Sl} {te : TE} {c : Cb} {k : Kt} {a : As}
theorem ew_slSq {tl th : TO} {ns : List Int} {lo hi : Option Int} (h : EvA te Γ (SqA K ns)) (h1 : EvO tl Γ lo) (h2 : EvO th Γ hi) : EvW (tSl (rSlL K) te tl th) Γ (OL (((cutA ns lo hi).map PyData.int).map (Dt K))) := fun Hf H σ A e Q q =>
  h Hf H σ A e _ fun v Hf1 H1 e1 ⟨p, ev, hp⟩ => h1 Hf1 H1 σ A (e.ext e1) _ fun Hf2 H2 e2 => h2 Hf2 H2 σ A (e.ext (e1.trans e2)) _ fun Hf3 H3 e3 => ⟨p, ns.map V.int, ev, sql_mono ((Same.trans e1.z (e2.trans e3).h)) hp, fun l hl => by
    have E := (e1.trans e2).trans e3
    refine q _ Hf3 (upd H3 l (.lst (cutV (ns.map V.int) lo hi))) [l] (E.trans (.loose e3.z hl)) (fun a ha => by
      obtain rfl : a = l := by simpa using ha
      exact E.h.free hl) ⟨l, _, rfl, rfl, e3.z.free hl, upd_same, ?_⟩
    have e4 : cutV (ns.map V.int) lo hi = (cutA ns lo hi).map V.int := by
      unfold cutV cutA
      rw [List.length_map, List.map_take, List.map_drop]
    rw [e4]
    exact ints_pa _⟩
/-! ### a thing of one's own, lent -/
def Flat (a : As) : Prop := ∀ H H' v, a.p H v → a.p H' v
theorem flat_bool {b : Bool} : Flat (Dt K (.bool b)) := fun H H' v h => by cases dt_bl h; exact .bl b
theorem flat_int {b : Int} : Flat (Dt K (.int b)) := fun H H' v h => by cases dt_int h; exact .int b
theorem flat_str {b : Str} : Flat (Dt K (.str b)) := fun H H' v h => by cases dt_str h; exact .str b
theorem flat_non : Flat (Dt K .none) := fun H H' v h => by cases dt_non h; exact .non
theorem lend_env {Hf H : Hp} {σ : L2.St} {A : Nat → List Addr} {i : Nat} {tr : List (List Int)} (e : Env Hf H σ Γ A) (hi : Γ[i]? = some (.ow (OT K tr))) : ∃ Hf1, Env Hf1 H σ (Γ.set i (.as (Dt K (DT tr)))) (atN A i []) := by
  obtain ⟨v, ev, p, rs, rfl, eA, nd, hf, hh, hp⟩ := e.ow hi
  have hil : i < Γ.length := (List.getElem?_eq_some_iff.mp hi).1
  have hAf : ∀ a ∈ A i, Hf a = none := fun a ha => (owned_live e ha).2
  refine ⟨fun a => if a ∈ A i then H a else Hf a, ?_⟩
  have s1 : Same Hf fun a => if a ∈ A i then H a else Hf a := fun a o h => by
    show (if a ∈ A i then H a else Hf a) = some o
    rw [if_neg (fun hm => by rw [hAf a hm] at h; cases h)]; exact h
  have z1 : Same (fun a => if a ∈ A i then H a else Hf a) H := fun a o h => by
    have h' : (if a ∈ A i then H a else Hf a) = some o := h
    split at h'
    · exact h'
    · exact e.z a o h'
  have at1 : ∀ a ∈ A i, (fun a => if a ∈ A i then H a else Hf a) a = H a := fun a ha => if_pos ha
  have e' : Env (fun a => if a ∈ A i then H a else Hf a) H σ (Γ.set i .un) (atN A i []) := by
    refine ⟨z1, by rw [List.length_set]; exact e.len, fun j s hs => ?_, fun j j' hjj x hx => ?_, fun j hj => ?_⟩
    · by_cases c : i = j
      · subst c
        rw [List.getElem?_set_self hil] at hs
        obtain rfl := Option.some.inj hs
        show (if i = i then [] else A i) = []
        rw [if_pos rfl]
      · rw [List.getElem?_set_ne c] at hs
        have hk := e.ok j s hs
        show SlOk _ H _ (if j = i then [] else A j) s
        rw [if_neg (fun z => c z.symm)]
        cases s with
        | un => exact hk
        | as a =>
          obtain ⟨h1, v, h2, h3⟩ := hk
          exact ⟨h1, v, h2, a.mono s1 h3⟩
        | ow w =>
          obtain ⟨v, h2, h3⟩ := hk
          refine ⟨v, h2, w.mono h3 s1 (fun a ha => ?_) fun _ _ => rfl⟩
          show (if a ∈ A i then H a else Hf a) = none
          rw [if_neg (e.dj j i (fun z => c z.symm) a ha)]
          exact (w.fr h3 a ha).1
    · have hx' : x ∈ (if j = i then [] else A j) := hx
      show x ∉ (if j' = i then [] else A j')
      split at hx'
      · cases hx'
      · split
        · exact fun h => nomatch h
        · exact e.dj j j' hjj x hx'
    · rw [List.length_set] at hj
      show (if j = i then [] else A j) = []
      rw [if_neg (by omega)]
      exact e.out j hj
  have hpd : (Dt K (DT tr)).p (fun a => if a ∈ A i then H a else Hf a) (.ref p) := by
    refine tray_le _ _ ⟨p, rs.map V.ref, rfl, (at1 p (by rw [eA]; simp)).trans hh, ?_⟩
    have hm : ∀ a ∈ rs, a ∈ A i := fun a ha => by rw [eA]; exact List.mem_cons_of_mem _ ha
    clear e' hh hi eA nd
    generalize (tr.map fun r => r.map fun i => Dt K (.int i)) = rows at hp
    induction hp with
    | nil => exact .nil
    | cons h _ ih =>
      obtain ⟨h1, vs, h2, h3⟩ := h
      exact .cons ⟨_, vs, rfl, (at1 _ (hm _ (by simp))).trans h2, pa_mono s1 h3⟩ (ih fun a ha => hm a (List.mem_cons_of_mem _ ha))
  refine ⟨e'.z, by rw [List.length_set]; exact e.len, fun j s hs => ?_, e'.dj, fun j hj => e'.out j (by rw [List.length_set] at hj ⊢; exact hj)⟩
  by_cases c : i = j
  · subst c
    rw [List.getElem?_set_self hil] at hs
    obtain rfl := Option.some.inj hs
    refine ⟨show (if i = i then [] else A i) = [] from if_pos rfl, _, ?_, hpd⟩
    rw [List.getD_eq_getElem?_getD, ev]; rfl
  · rw [List.getElem?_set_ne c] at hs
    exact e'.ok j s (by rw [List.getElem?_set_ne c]; exact hs)
theorem lend_ext {Hf H Hf' H' : Hp} (z : Same Hf H) (h : Same H H') : Ext Hf H Hf H' := ⟨.refl _, h, Same.trans z h, fun _ _ h => h⟩
theorem ev_lend {i : Nat} {tr : List (List Int)} (hi : Γ[i]? = some (.ow (OT K tr))) (h : EvA te (Γ.set i (.as (Dt K (DT tr)))) a) (fl : Flat a) : EvA te Γ a := fun Hf H σ A e Q q => by
  obtain ⟨Hf1, e'⟩ := lend_env e hi
  exact h Hf1 H σ _ e' Q fun v Hf2 H2 e2 p2 => q v Hf H2 (lend_ext (Hf' := Hf) e.z e2.h) (fl _ _ v p2)
theorem eb_lend {i : Nat} {tr : List (List Int)} {tt : TT} {b : Bool} (hi : Γ[i]? = some (.ow (OT K tr))) (h : EvB tt (Γ.set i (.as (Dt K (DT tr)))) b) : EvB tt Γ b := fun Hf H σ A e Q q => by
  obtain ⟨Hf1, e'⟩ := lend_env e hi
  exact h Hf1 H σ _ e' Q fun Hf2 H2 e2 => q Hf H2 (lend_ext (Hf' := Hf) e.z e2.h)

/-! ### a row of one's own grows; what one owns is spoilt -/
def OX : Ow := ⟨fun Hf H v A => ∀ a ∈ A, Hf a = none ∧ H a ≠ none, fun h => h, fun h s n k a ha => ⟨n a ha, by rw [k a ha]; exact (h a ha).2⟩⟩
theorem rn_appendX {i : Nat} {rows : List (List As)} (hi : Γ[i]? = some (.ow (OO rows))) (h : EvA te Γ a) (hl : rows.length < sizeLine) (n : k.nx (Γ.set i (.ow OX))) : Rn c (tDrop (tBM K "list" rAppend (tVar i) (tCons te tNil))) Γ k := fun D σ H Hf s q => by
  obtain ⟨A, e, ha⟩ := s.e
  obtain ⟨v, ev, p, rs, rfl, eA, nd, hf, hh, hp⟩ := e.ow hi
  refine ⟨.ref p, ev, .inl ⟨rfl, rs.map V.ref, .inl (.inl hh)⟩, h Hf H σ A e _ fun y Hf1 H1 e1 py => ?_⟩
  have en := e.ext e1
  refine ⟨p, rs.map V.ref, y, rfl, rfl, e1.h _ _ hh, by rw [List.length_map, Paired.length hp]; exact hl, q.nx _ n _ _ Hf1 (st_turn (s.b.ext e1) en ha hi ev (fun a hm => upd_ne fun z => hm (by rw [eA, z]; simp)) (fun a hm => ?_) fun a hm => ⟨(owned_live en hm).2, ?_⟩)⟩
  all_goals
    by_cases z : a = p
    · rw [z, upd_same]; exact fun z => nomatch z
    · rw [upd_ne z]; exact (owned_live en hm).1
theorem rn_appendRow {i : Nat} {tr : List (List Int)} {tj : TE} {b z : Int} {m : Nat} {row : List Int} (hi : Γ[i]? = some (.ow (OT K tr))) (ha : EvA tj Γ (Dt K (.int b))) (eb : b = (m : Int)) (hm : tr[m]? = some row) (he : EvA te Γ (Dt K (.int z))) (hl : row.length < sizeLine)
    (nx : k.nx (Γ.set i (.ow (OT K (tr.set m (row ++ [z])))))) : Rn c (tDrop (tBM K "list" rAppend (tOp (rIxL K) (tVar i) tj) (tCons te tNil))) Γ k := fun D σ H Hf s q => by
  obtain ⟨A, e, hA⟩ := s.e
  obtain ⟨u, eu, pu⟩ := e.ow hi
  obtain ⟨p, rs, rfl, eA, nd, hf, hh, hp⟩ := pu
  refine ⟨.ref p, eu, ha Hf H σ A e _ fun va Hf2 H2 e2 pa => ?_⟩
  cases dt_int pa
  have hrow : (tr.map fun r => r.map fun i => Dt K (.int i))[m]? = some (row.map fun i => Dt K (.int i)) := by rw [List.getElem?_map, hm]; rfl
  obtain ⟨r, hr, hok⟩ := rows_get hp hrow
  obtain ⟨hfr, ws, hw, pw⟩ := hok
  have hwl : ws.length = row.length := by rw [pa_len pw, List.length_map]
  refine ⟨p, rs.map V.ref, b, .ref r, rfl, rfl, .inl (.inl (e2.h _ _ hh)), at_nat (by rw [List.getElem?_map, hr]; rfl) eb, .inl ⟨rfl, ws, .inl (.inl (e2.h _ _ hw))⟩, he Hf2 H2 σ A (e.ext e2) _ fun y Hf3 H3 e3 py => ?_⟩
  have E := e2.trans e3
  have en3 := e.ext E
  refine ⟨r, ws, y, rfl, rfl, E.h _ _ hw, by omega, ?_⟩
  have live : ∀ a ∈ A i, H3 a = H a := fun a hm => by
    have := owned_live e hm
    cases z : H a with
    | none => exact absurd z this.1
    | some o => exact E.h a o z
  have frz : ∀ a ∈ A i, Hf3 a = none := fun a hm => E.n a (owned_live e hm).1 (owned_live e hm).2
  have hrs : r ∈ rs := List.mem_of_getElem? hr
  have hpr : p ≠ r := fun z => (List.nodup_cons.mp nd).1 (by rw [z]; exact hrs)
  refine q.nx _ nx _ _ Hf3 (st_turn (s.b.ext E) en3 hA hi eu (fun a hm => upd_ne fun z => hm (by rw [eA, z]; exact List.mem_cons_of_mem _ hrs)) (fun a hm => ?_) ?_)
  · by_cases z : a = r
    · rw [z, upd_same]; exact fun z => nomatch z
    · rw [upd_ne z, live a hm]; exact (owned_live e hm).1
  · refine ⟨p, rs, rfl, eA, nd, frz p (by rw [eA]; simp), ?_, ?_⟩
    · rw [upd_ne hpr, live p (by rw [eA]; simp)]; exact hh
    · have hp3 : Paired (RowOk Hf3 H3) rs (tr.map fun r => r.map fun i => Dt K (.int i)) := rows_mono hp E.f (fun a hm => frz a (by rw [eA]; exact List.mem_cons_of_mem _ hm)) fun a hm => live a (by rw [eA]; exact List.mem_cons_of_mem _ hm)
      have hs := rows_set (H' := upd H3 r (.lst (ws ++ [y]))) (row := (row ++ [z]).map fun i => Dt K (.int i)) hp3 (List.nodup_cons.mp nd).2 hr ⟨frz r (by rw [eA]; exact List.mem_cons_of_mem _ hrs), ws ++ [y], upd_same, ?_⟩ (fun a _ hne => upd_ne hne)
      · rwa [show ((tr.map fun r => r.map fun i => Dt K (.int i)).set m ((row ++ [z]).map fun i => Dt K (.int i))) = ((tr.set m (row ++ [z])).map fun r => r.map fun i => Dt K (.int i)) by simp only [List.map_set]] at hs
      · rw [List.map_append]
        exact pa_app (pa_mono E.f pw) (.cons py .nil)
end
end DL

namespace DL
open PySem PySem.Spec L2
open PyProof.Rows hiding St

/-! ### what is never come to -/
def tNever : TS := fun _ _ _ => False
theorem pss_notcome {X : Cx} {b : List Stmt} : PSs X b tNever := ⟨fun _ _ _ _ _ _ h => h.elim⟩
/-! ### texts and lists, some times -/
def rMulS : R2 := fun x y H Q => ∃ (z : Str) (n : Int), x = .str z ∧ y = .int n ∧ MulOk z n ∧ Q (.str (Txt.mul z n)) H
theorem op_mulS {X : Cx} : OpR X (binaryOp .Mult) rMulS := by
  intro pins s σ H x y v u Q I rx ry h
  obtain ⟨z, n, rfl, rfl, hc, q⟩ := h
  obtain ⟨t, rfl⟩ := rx
  obtain ⟨t', rfl⟩ := ry
  exact PySem.SB.mul hc fun t2 k => ⟨.str (Txt.mul z n), H, I.tok _, ⟨_, rfl⟩, q⟩
theorem fold_rep (its : Array Nat) : ∀ (m : Nat), List.foldl (fun x1 x2 => x1 ++ x2) #[] (List.replicate m its) = (List.replicate m its.toList).flatten.toArray := by
  have g : ∀ (m : Nat) (a : Array Nat), List.foldl (fun x1 x2 => x1 ++ x2) a (List.replicate m its) = a ++ (List.replicate m its.toList).flatten.toArray := by
    intro m
    induction m with
    | zero => intro a; simp
    | succ m ih => intro a; rw [List.replicate_succ, List.foldl_cons, ih, List.replicate_succ, List.flatten_cons, Array.append_assoc]; apply Array.ext'; simp
  intro m
  rw [g]; simp
theorem mul_S {l : List Nat} {n : Int} {m : Nat} (e : n = (m : Int)) : Txt.mul (SX.S l) n = SX.S (List.replicate m l).flatten := by
  subst e
  unfold Txt.mul
  by_cases h : (m : Int) < 1
  · rw [if_pos h]
    obtain rfl : m = 0 := by omega
    rfl
  · rw [if_neg h]
    by_cases h2 : ((m : Int) == 1 || (SX.S l).length == 0) = true
    · rw [if_pos h2]
      rw [Bool.or_eq_true, beq_iff_eq, beq_iff_eq, SX.S_len] at h2
      rcases h2 with h2 | h2
      · obtain rfl : m = 1 := by omega
        simp
      · obtain rfl : l = [] := List.length_eq_zero_iff.mp h2
        congr 1
        simp
    · rw [if_neg h2, Int.toNat_natCast]
      show (⟨_⟩ : Str) = ⟨_⟩
      congr 1
      exact fold_rep _ m
theorem mulOkS {l : List Nat} {n : Int} {m : Nat} (e : n = (m : Int)) (h : m ≤ 1000) (hl : l.length ≤ 1000) : MulOk (SX.S l) n := by
  subst e
  have h3 : l.length * m ≤ 1000 * 1000 := Nat.mul_le_mul hl h
  refine ⟨?_, fun h1 h2 => ?_, fun h1 h2 => ?_⟩
  · simp; omega
  · rw [SX.S_len]
    have h4 : (9223372036854775807 : Int) / (m : Int) ≥ 9223372036854775807 / 1000 := by
      have hm : (0 : Int) < (m : Int) := by omega
      rw [ge_iff_le, Int.le_ediv_iff_mul_le hm]
      have : (9223372036854775807 / 1000 : Int) * (m : Int) ≤ 9223372036854775807 / 1000 * 1000 := Int.mul_le_mul_of_nonneg_left (by omega) (by decide)
      omega
    have e1 : ((2 : Int) ^ 63 - 1) = 9223372036854775807 := by decide
    rw [e1]
    omega
  · rw [SX.S_len, Int.toNat_natCast]
    unfold PySem.Builtin.Str.tooLong
    rw [sizeLine_eq] at *
    simp
    omega
section
variable {K : PySem.W.Frag} {Γ Γ' : List Sl} {ta tb te : TE} {tt : TT} {c : Cb} {k : Kt} {a : As}
theorem ev_mulS {l : List Nat} {n : Int} {m : Nat} (ha : EvA ta Γ (Dt K (DS l))) (hb : EvA tb Γ (Dt K (.int n))) (e : n = (m : Int)) (h : m ≤ 1000) (hl : l.length ≤ 1000) : EvA (tOp rMulS ta tb) Γ (Dt K (DS (List.replicate m l).flatten)) := fun Hf H σ A en Q q =>
  ha Hf H σ A en _ fun v Hf1 H1 e1 p1 => hb Hf1 H1 σ A (en.ext e1) _ fun u Hf2 H2 e2 p2 => by
    cases dt_str p1
    cases dt_int p2
    refine ⟨_, _, rfl, rfl, mulOkS e h hl, ?_⟩
    rw [mul_S e]
    exact q _ Hf2 H2 (e1.trans e2) (.str _)
theorem pa_rep {H : Hp} {vs : List V} {as : List As} (p : Pa H vs as) : ∀ k : Nat, Pa H (List.replicate k vs).flatten (List.replicate k as).flatten
  | 0 => .nil
  | k + 1 => by
    rw [List.replicate_succ, List.flatten_cons, List.replicate_succ, List.flatten_cons]
    exact pa_app p (pa_rep p k)
theorem ew_rep {as : List As} {n : Int} {m : Nat} (ha : EvL ta Γ as) (hb : EvA tb Γ (Dt K (.int n))) (e : n = (m : Int)) (hm : m < 2 ^ 63) (hl : as.length * m ≤ sizeLine) : EvW (tOp rRep ta tb) Γ (OL (List.replicate m as).flatten) := fun Hf H σ A en Q q =>
  ha Hf H σ A en _ fun p vs Hf1 H1 e1 hp pv => hb Hf1 H1 σ A (en.ext e1) _ fun u Hf2 H2 e2 p2 => by
    cases dt_int p2
    subst e
    have E := e1.trans e2
    refine ⟨p, (m : Int), vs, rfl, rfl, e2.h _ _ hp, by omega, by omega, by rw [Int.toNat_natCast, pa_len pv]; exact hl, fun l hl' => ?_⟩
    refine q _ Hf2 (upd H2 l (.lst (List.replicate (m : Int).toNat vs).flatten)) [l] (E.trans (.loose e2.z hl')) (fun a ha => by
      obtain rfl : a = l := by simpa using ha
      exact E.h.free hl') ⟨l, _, rfl, rfl, e2.z.free hl', upd_same, ?_⟩
    rw [Int.toNat_natCast]
    exact pa_mono e2.f (pa_rep pv m)
/-- for n in script -/
theorem ei_sq {ns : List Int} (h : EvA te Γ (SqA K ns)) : EvI (iList K te) Γ ((ns.map PyData.int).map (Dt K)) := fun Hf H σ A e R q =>
  h Hf H σ A e _ fun v Hf1 H1 e1 ⟨p, ev, hp⟩ => by
    subst ev
    have pv : Pa Hf1 (ns.map V.int) ((ns.map PyData.int).map (Dt K)) := ints_pa ns
    have hl := pa_len pv
    refine ⟨p, rfl, ⟨_, sql_mono e1.z hp⟩, q _ Hf1 H1 e1 fun Hf2 H2 s1 s2 i => ⟨fun hi => ?_, fun hi => ?_⟩⟩
    · have hs : SqL K H2 p (ns.map V.int) := sql_mono (s1.trans s2) hp
      have hv : i < (ns.map V.int).length := by omega
      refine ⟨⟨_, (ns.map V.int)[i], hs, List.getElem?_eq_getElem hv⟩, fun x H3 hy => ?_⟩
      obtain ⟨rfl, hx⟩ := hy
      refine ⟨Hf2, .refl s2, fun a ha => ?_⟩
      obtain ⟨w, hw, pw⟩ := pa_get pv ha
      have := hx _ hs
      rw [hw] at this
      obtain rfl := Option.some.inj this
      exact a.mono s1 pw
    · exact ⟨_, sql_mono (s1.trans s2) hp, by omega⟩
/-- one of two ways, each raises -/
theorem er_if {b : Bool} {W : WX} {C : Addr} (h : EvB tt Γ b) (h1 : b = true → EvR ta Γ W C) (h2 : b = false → EvR tb Γ W C) : EvR (tIf tt ta tb) Γ W C := fun Hf H σ A e hw Q => h Hf H σ A e _ fun Hf1 H1 e1 => by
  cases b with
  | true => exact iteT (h1 rfl Hf1 H1 σ A (e.ext e1) (fun Hf2 H2 e2 => hw Hf2 H2 (e1.trans e2)) Q)
  | false => exact iteF (h2 rfl Hf1 H1 σ A (e.ext e1) (fun Hf2 H2 e2 => hw Hf2 H2 (e1.trans e2)) Q)
/-- {} -/
theorem ev_dnew : EvA tDNewK Γ (DkA []) := fun Hf H σ A e Q q p hp => q _ _ _ (.new e.z hp) ⟨p, [], rfl, upd_same, .nil⟩
/-! ### rows of one's own, of any things -/
theorem row_data {r : List PyData} : (LsA (r.map (Dt K))).le (Dt K (.list r)) := lsA_le
theorem rows_pa {H : Hp} : ∀ (t : List (List PyData)) (vs : List V), Pa H vs ((t.map fun r => r.map (Dt K)).map LsA) → DqAll K H vs (t.map PyData.list)
  | [], _, .nil => .nil
  | _ :: t, _, .cons h q => .cons (row_data _ _ h) (rows_pa t _ q)
def OD (K : PySem.W.Frag) (t : List (List PyData)) : Ow := OO (t.map fun r => r.map (Dt K))
theorem rowsD_le {t : List (List PyData)} : (LsA ((t.map fun r => r.map (Dt K)).map LsA)).le (Dt K (.list (t.map PyData.list))) := fun H v ⟨p, vs, e, hp, pv⟩ => by
  subst e
  exact .lst hp (rows_pa t vs pv)
theorem ev_fixOD {t : List (List PyData)} (h : EvW te Γ (OD K t)) : EvA te Γ (Dt K (.list (t.map PyData.list))) := (ev_fixOO h).le rowsD_le
theorem st_fixOO {Hf H : Hp} {σ : L2.St} {i : Nat} {rows : List (List As)} (s : StOk c Hf H σ Γ) (h : Γ[i]? = some (.ow (OO rows))) (hW : c.W = []) : ∃ Hf', StOk c Hf' H σ (Γ.set i (.as (LsA (rows.map LsA)))) := by
  obtain ⟨A, e, ha⟩ := s.e
  have hil : i < Γ.length := (List.getElem?_eq_some_iff.mp h).1
  obtain ⟨v, ev, pv⟩ := e.ow h
  obtain ⟨Hf', f1, f2, k, pl⟩ := fix_OO s.b.z pv
  have hcp : ∀ a ∈ A i, c.h a = none := fun a hm => (ha i a hm).elim id fun z => by rw [hW] at z; cases z
  refine ⟨Hf', ⟨s.b.f.trans f1, s.b.h, fun a h1 h2 => ?_, s.b.k, f2⟩, atN A i [], ⟨f2, by rw [e.len, List.length_set], fun j t ht => ?_, fun j k n a hj hk => ?_, fun j hj => ?_⟩, fun j a hj => ?_⟩
  · rw [k a (fun hm => h1 (hcp a hm))]; exact s.b.n a h1 h2
  · by_cases cj : i = j
    · subst cj
      rw [List.getElem?_set_self hil] at ht
      obtain rfl := Option.some.inj ht
      show SlOk _ _ _ (if i = i then [] else A i) _
      rw [if_pos rfl]
      refine ⟨rfl, v, ?_, pl⟩
      rw [List.getD_eq_getElem?_getD, ev]; rfl
    · rw [List.getElem?_set_ne cj] at ht
      show SlOk _ _ _ (if j = i then [] else A j) _
      rw [if_neg (fun z => cj z.symm)]
      have k3 := e.ok j t ht
      cases t with
      | un => exact k3
      | as a => obtain ⟨h1, v, h2, h3⟩ := k3; exact ⟨h1, v, h2, a.mono f1 h3⟩
      | ow w3 =>
        obtain ⟨v3, ev3, p3⟩ := k3
        have fr3 := w3.fr p3
        refine ⟨v3, ev3, w3.mono p3 f1 (fun a ha => ?_) fun _ _ => rfl⟩
        rw [k a (fun hm => e.dj i j cj a hm ha)]; exact (fr3 a ha).1
  · have hj' : a ∈ (if j = i then [] else A j) := hj
    have hk' : a ∈ (if k = i then [] else A k) := hk
    by_cases c1 : j = i
    · rw [if_pos c1] at hj'; cases hj'
    · rw [if_neg c1] at hj'
      by_cases c2 : k = i
      · rw [if_pos c2] at hk'; cases hk'
      · rw [if_neg c2] at hk'; exact e.dj j k n a hj' hk'
  · rw [List.length_set] at hj
    show (if j = i then [] else A j) = []
    rw [if_neg (by omega)]; exact e.out j hj
  · have hj' : a ∈ (if j = i then [] else A j) := hj
    by_cases c1 : j = i
    · rw [if_pos c1] at hj'; cases hj'
    · rw [if_neg c1] at hj'; exact ha j a hj'
theorem rn_fixOD {t : TS} {i : Nat} {tr : List (List PyData)} (h : Γ[i]? = some (.ow (OD K tr))) (n : Rn c t (Γ.set i (.as (Dt K (.list (tr.map PyData.list))))) k) (hW : c.W = [] := by rfl) : Rn c t Γ k := fun D σ H Hf s q => by
  obtain ⟨Hf', s'⟩ := st_fixOO s h hW
  exact rn_weak n (set_le (s := .as (LsA ((tr.map fun r : List PyData => r.map (Dt K)).map LsA))) (t := .as (Dt K (.list (tr.map PyData.list)))) (rowsD_le (K := K) (t := tr))) D σ H Hf' s' q
/-- a target that may change the heap -/
def EvGH (c : Cb) (g : TG) (a : As) (Γ Γ' : List Sl) : Prop := ∀ Hf H σ, StOk c Hf H σ Γ → ∀ v, a.p Hf v → ∀ Q : L2.St → Hp → Prop, (∀ Hf' H' σ', StOk c Hf' H' σ' Γ' → Same Hf Hf' → Q σ' H') → g v σ H Q
def EvGsH (c : Cb) (g : TGs) (as : List As) (Γ Γ' : List Sl) : Prop := ∀ Hf H σ, StOk c Hf H σ Γ → ∀ vs, Pa Hf vs as → ∀ Q : L2.St → Hp → Prop, (∀ Hf' H' σ', StOk c Hf' H' σ' Γ' → Same Hf Hf' → Q σ' H') → g vs σ H Q
theorem gh_nil : EvGsH c gNil [] Γ Γ := fun Hf H σ s vs p Q q => by cases p; exact ⟨rfl, q Hf H σ s (.refl Hf)⟩
theorem gh_cons {t : TG} {u : TGs} {as : List As} {Γ1 : List Sl} (h : EvGH c t a Γ Γ1) (hr : EvGsH c u as Γ1 Γ') : EvGsH c (gCons t u) (a :: as) Γ Γ' := fun Hf H σ s vs p Q q => by
  cases p with
  | cons p1 p2 => exact ⟨_, _, rfl, h Hf H σ s _ p1 _ fun Hf1 H1 σ1 s1 f1 => hr Hf1 H1 σ1 s1 _ (pa_mono f1 p2) Q fun Hf2 H2 σ2 s2 f2 => q Hf2 H2 σ2 s2 (f1.trans f2)⟩
theorem gh_tup {n : Nat} {t : TGs} {as : List As} (h : EvGsH c t as Γ Γ') (hn : as.length = n) : EvGH c (gTup K n t) (TpA K as) Γ Γ' := fun Hf H σ s v p Q q => by
  obtain ⟨b, xs, rfl, hq, pv⟩ := p
  exact ⟨b, xs, rfl, sqt_mono s.b.z hq, by rw [pa_len pv]; exact hn, h Hf H σ s xs pv Q q⟩
theorem rn_asgH {g : TG} (h : EvA te Γ a) (hg : EvGH c g a Γ Γ') (n : k.nx Γ') : Rn c (tAsg te g) Γ k := fun D σ H Hf s q => by
  obtain ⟨A, e, ha⟩ := s.e
  exact h Hf H σ A e _ fun v Hf1 H1 e1 pv => hg Hf1 H1 σ (s.ext e1) v pv _ fun Hf2 H2 σ2 s2 _ => q.nx _ n _ _ Hf2 s2
theorem gh_setOD {i : Nat} {tr : List (List PyData)} {ti tj : TE} {x y : Int} {d : PyData} {m n : Nat} {row : List PyData} (hi : Γ[i]? = some (.ow (OD K tr))) (ha : EvA ti Γ (Dt K (.int x))) (hb : EvA tj Γ (Dt K (.int y))) (ea : x = (m : Int)) (eb : y = (n : Int)) (hm : tr[m]? = some row) (hn : n < row.length) :
    EvGH c (gSub (tOp (rIxL K) (tVar i) ti) tj rSetL) (Dt K d) Γ (Γ.set i (.ow (OD K (tr.set m (row.set n d))))) := fun Hf H σ s v pv Q q => by
  obtain ⟨A, e, hA⟩ := s.e
  obtain ⟨u, eu, pu⟩ := e.ow hi
  obtain ⟨p, rs, rfl, eA, nd, hf, hh, hp⟩ := pu
  refine ⟨.ref p, eu, ha Hf H σ A e _ fun va Hf2 H2 e2 pa => ?_⟩
  cases dt_int pa
  have hrow : (tr.map fun r => r.map (Dt K))[m]? = some (row.map (Dt K)) := by rw [List.getElem?_map, hm]; rfl
  obtain ⟨r, hr, hok⟩ := rows_get hp hrow
  refine ⟨p, rs.map V.ref, x, .ref r, rfl, rfl, .inl (.inl (e2.h _ _ hh)), at_nat (by rw [List.getElem?_map, hr]; rfl) ea, hb Hf2 H2 σ A (e.ext e2) _ fun vb Hf3 H3 e3 pb => ?_⟩
  cases dt_int pb
  have E := e2.trans e3
  have en3 := e.ext E
  obtain ⟨_, ws, hw, pw⟩ := hok
  have hwl : ws.length = row.length := by rw [pa_len pw, List.length_map]
  refine ⟨r, ws, y, n, rfl, rfl, E.h _ _ hw, ixN_of eb (by omega), ?_⟩
  have live : ∀ a ∈ A i, H3 a = H a := fun a hm => by
    have := owned_live e hm
    cases z : H a with
    | none => exact absurd z this.1
    | some o => exact E.h a o z
  have frz : ∀ a ∈ A i, Hf3 a = none := fun a hm => E.n a (owned_live e hm).1 (owned_live e hm).2
  have hrs : r ∈ rs := List.mem_of_getElem? hr
  have hpr : p ≠ r := fun z => (List.nodup_cons.mp nd).1 (by rw [z]; exact hrs)
  refine q Hf3 _ σ (st_turn (s.b.ext E) en3 hA hi eu (fun a hm => upd_ne fun z => hm (by rw [eA, z]; exact List.mem_cons_of_mem _ hrs)) (fun a hm => ?_) ?_) E.f
  · by_cases z : a = r
    · rw [z, upd_same]; exact fun z => nomatch z
    · rw [upd_ne z, live a hm]; exact (owned_live e hm).1
  · refine ⟨p, rs, rfl, eA, nd, frz p (by rw [eA]; simp), ?_, ?_⟩
    · rw [upd_ne hpr, live p (by rw [eA]; simp)]; exact hh
    · have hp3 : Paired (RowOk Hf3 H3) rs (tr.map fun r => r.map (Dt K)) := rows_mono hp E.f (fun a hm => frz a (by rw [eA]; exact List.mem_cons_of_mem _ hm)) fun a hm => live a (by rw [eA]; exact List.mem_cons_of_mem _ hm)
      have hs := rows_set (H' := upd H3 r (.lst (ws.set n v))) (row := (row.set n d).map (Dt K)) hp3 (List.nodup_cons.mp nd).2 hr ⟨frz r (by rw [eA]; exact List.mem_cons_of_mem _ hrs), ws.set n v, upd_same, ?_⟩ (fun a _ hne => upd_ne hne)
      · rwa [show ((tr.map fun r => r.map (Dt K)).set m ((row.set n d).map (Dt K))) = ((tr.set m (row.set n d)).map fun r => r.map (Dt K)) by simp only [List.map_set]] at hs
      · rw [List.map_set]
        exact pa_set (pa_mono E.f pw) (As.mono _ E.f pv)
end
end DL

namespace SL
open PySem PySem.Spec L2 DL
open PyProof.Rows hiding St
/-! our own steps: "evs" looks at all goals, "ev" at one that tells what an expression gives -/
local macro_rules | `(tactic| walk_at "evs") => `(tactic| all_goals (first
  | ((fail_if_success (with_reducible show EvA _ _ _)); (fail_if_success (with_reducible show EvB _ _ _)); (fail_if_success (with_reducible show EvS _ _ _)); (fail_if_success (with_reducible show EvDs _ _ _ _)); (fail_if_success (with_reducible show EvL _ _ _)); (fail_if_success (with_reducible show EvW _ _ _)); (fail_if_success (with_reducible show EvO _ _ _)); skip)
  | walk_at "ev"))
local macro_rules | `(tactic| walk_at "ev") => `(tactic| first
  | with_reducible assumption
  | ((with_reducible apply ev_var); (first | rfl | exact Eq.refl _))
  | ((with_reducible apply ev_int); (try assumption))
  | ((with_reducible apply ev_str); (try assumption))
  | ((with_reducible apply ev_bl); (try assumption))
  | ((with_reducible apply ev_non); (try assumption))
  | ((with_reducible apply ev_I0i); walk_at "evs")
  | ((with_reducible apply ev_I0b); walk_at "evs")
  | ((with_reducible apply ev_Ii); walk_at "evs")
  | ((with_reducible apply ev_chain); walk_at "evs")
  | ((with_reducible apply ev_eqI); walk_at "evs")
  | ((with_reducible apply ev_eqT); walk_at "evs")
  | ((with_reducible apply ev_neI); walk_at "evs")
  | ((with_reducible apply ev_neT); walk_at "evs")
  | ((with_reducible apply ev_isNone); walk_at "evs")
  | ((with_reducible apply ev_notNone); walk_at "evs")
  | ((with_reducible apply ev_addStr); walk_at "evs")
  | ((with_reducible apply ev_negI); walk_at "evs")
  | ((with_reducible apply ev_in eq_int' sh_int); walk_at "evs")
  | ((with_reducible apply ev_notIn eq_int' sh_int); walk_at "evs")
  | ((with_reducible apply ev_inK); walk_at "evs")
  | ((with_reducible apply ev_notInK); walk_at "evs")
  | ((with_reducible apply ev_inSg); walk_at "evs")
  | ((with_reducible apply ev_isT); (walk_at "evs"); (all_goals (try (first | exact Or.inl rfl | exact Or.inr (Or.inl rfl) | exact Or.inr (Or.inr (Or.inl rfl)) | exact Or.inr (Or.inr (Or.inr (Or.inl rfl))) | exact Or.inr (Or.inr (Or.inr (Or.inr rfl)))))))
  | ((with_reducible apply ev_andV); (walk_at "evs"))
  | ((with_reducible apply ev_revS); walk_at "evs")
  | ((with_reducible apply ev_join); walk_at "evs")
  | ((with_reducible apply ev_all); walk_at "evs")
  | ((with_reducible apply ew_listRg); walk_at "evs")
  | ((with_reducible apply ev_ixLD); walk_at "evs")
  | ((with_reducible apply ev_ixT); walk_at "evs")
  | ((with_reducible apply ev_ixS); walk_at "evs")
  | ((with_reducible apply ev_tupD); walk_at "evs")
  | ((with_reducible apply ev_lstD); walk_at "evs")
  | ((with_reducible apply ew_lstD); walk_at "evs")
  | with_reducible exact ed_nil
  | ((with_reducible apply ed_cons); walk_at "evs")
  | with_reducible exact es_nil
  | ((with_reducible apply es_cons); walk_at "evs")
  | ((with_reducible apply eb_test); walk_at "evs")
  | ((with_reducible apply eb_B); walk_at "evs")
  | with_reducible exact eb_yes
  | ((with_reducible apply eb_not); walk_at "evs")
  | ((with_reducible apply eb_and'); walk_at "evs")
  | ((with_reducible apply eb_or'); walk_at "evs")
  | ((with_reducible apply ev_notV); walk_at "evs")
  | ((with_reducible apply ev_lenLD); walk_at "evs")
  | ((with_reducible apply ev_lenTD); walk_at "evs")
  | ((with_reducible apply ev_lenSD); walk_at "evs")
  | ((with_reducible apply ew_listD); walk_at "evs")
  | ((with_reducible apply ev_index eq_int' sh_int); walk_at "evs")
  | ((with_reducible apply ev_call); (walk_at "evs"); (try (case hn => rfl)))
  | ((with_reducible apply ew_call); (walk_at "evs"); (try (case hn => rfl)))
  | ((with_reducible show EvL (tLc _ _ _ _ _) _ _); apply el_w)
  | ((with_reducible apply el_dt); walk_at "evs")
  | ((with_reducible apply el_ow); (first | rfl | exact Eq.refl _))
  | ((with_reducible apply el_w); walk_at "evs")
  | with_reducible exact eo_none
  | ((with_reducible apply eo_some); walk_at "evs")
  | ((with_reducible show EvW (tLc _ _ _ _ _) _ _); skip)
  | ((with_reducible show EvA (tLc _ _ _ _ _) _ _); skip))
local macro_rules | `(tactic| walk_at "gm") => `(tactic| first | exact gm_name | exact gms_nil | (refine gm_tup ?_; walk_at "gm") | (refine gms_cons ?_ ?_ <;> walk_at "gm"))
local macro_rules | `(tactic| walk_at "gw") => `(tactic| first | exact gw_name (by decide) | exact gw_nil | (refine gw_tup ?_; walk_at "gw") | (refine gw_cons ?_ ?_ ?_; (walk_at "gm"); (walk_at "gw"); (walk_at "gw")))
/-! "gle": the slots, less known -/
local macro_rules | `(tactic| walk_at "gle") => `(tactic| first | exact GLe.nil | exact GLe.refl | (refine GLe.cons ?_ ?_; (first | exact Sl.le_refl _ | exact True.intro); (walk_at "gle")))
/-! "sd": what a reading asks beside -/
local macro_rules | `(tactic| walk_at "sd") => `(tactic| first | assumption | rfl | (simp only [List.length_cons, List.length_nil, List.length_map, sizeLine_eq]; omega) | (rw [sizeLine_eq]; omega))
/-! "evd": .. up to what the value is called -/
local macro_rules | `(tactic| walk_at "evd") => `(tactic| first | ((with_reducible apply EvA.is); (walk_at "evs"); (all_goals (try (walk_at "sd")))) | ((with_reducible apply EvB.is); (walk_at "evs"); (all_goals (try (walk_at "sd")))))
/-! "eg": a target of names -/
local macro_rules | `(tactic| walk_at "eg") => `(tactic| first | exact eg_name | exact eg_nil | (apply eg_cons; (walk_at "eg"); (walk_at "eg")) | (apply eg_pair; (walk_at "eg")) | (apply eg_tup (ds := [_, _]) (hn := rfl); (walk_at "eg")) | (apply eg_tupA (hn := rfl); (walk_at "eg")))
/-! "as": one statement x = e, then the rest; "ag": a, b = e -/
local macro_rules | `(tactic| walk_at "as") => `(tactic| (with_reducible apply rn_seq) <;> (with_reducible apply rn_asg) <;> (walk_at "evs") <;> (try dsimp only))
local macro_rules | `(tactic| walk_at "ag") => `(tactic| ((with_reducible apply rn_seq); (apply rn_asgG (hg := by walk_at "eg")); (walk_at "evs"); (all_goals (try dsimp only))))
/-! parts of a statement -/
def xAsg : Stmt → Expr
  | .Assign _ e _ => e
  | _ => .Name "" ⟨0, 0, 0, 0⟩
def xRet : Stmt → Expr
  | .Return (some e) _ => e
  | _ => .Name "" ⟨0, 0, 0, 0⟩
def xArg (n : Nat) : Expr → Expr
  | .Call _ es _ _ => es.getD n (.Name "" ⟨0, 0, 0, 0⟩)
  | e => e
def lcScope : Expr → Scope
  | .ListComp _ _ s _ => s
  | _ => ⟨.function, [], false, false, []⟩
abbrev topS (i : Nat) : Stmt := PySem.Challenge.pw_slidetray_k05_refused.main.body.getD i (.Pass ⟨0, 0, 0, 0⟩)
abbrev s_place_of : Stmt := topS 12
theorem sc_place_of : FnScope ["tray", "piece", "at", "row"] ["tray", "piece"] (defScope s_place_of) :=
  ⟨rfl, rfl, rfl, by decide +kernel, rfl, by decide +kernel, by decide +kernel⟩
abbrev s_slid : Stmt := topS 13
theorem sc_slid : FnScope ["tray", "letter", "row", "column", "down", "right", "high", "wide", "found", "line"] ["tray", "letter"] (defScope s_slid) :=
  ⟨rfl, rfl, rfl, by decide +kernel, rfl, by decide +kernel, by decide +kernel⟩
theorem getq {α : Type} {l : List α} {i : Nat} (d : α) (h : i < l.length) : l[i]? = some (l.getD i d) := by
  rw [List.getD_eq_getElem?_getD, List.getElem?_eq_getElem h, Option.getD_some]
theorem at_map {α β : Type} {f : α → β} {xs : List α} {i : Int} {j : Nat} {x : α} (h : xs[j]? = some x) (e : i = (j : Int)) : atI (xs.map f) i = some (f x) := at_nat (by rw [List.getElem?_map, h]; rfl) e
theorem at_row {t : List (List Int)} {i : Int} {j : Nat} {r : List Int} (h : t[j]? = some r) (e : i = (j : Int)) : atI (t.map DI) i = some (.list (r.map PyData.int)) := at_map (f := DI) h e
theorem at_int {xs : List Int} {i : Int} {j : Nat} {x : Int} (h : xs[j]? = some x) (e : i = (j : Int)) : atI (xs.map PyData.int) i = some (.int x) := at_map h e
theorem first_filter {n k : Nat} {p : Nat → Bool} (hk : k < n) (hp : p k = true) (hno : ∀ j, j < k → p j = false) : ((List.range n).filter p)[0]? = some k := by
  rw [← List.head?_eq_getElem?, List.head?_filter, List.find?_range_eq_some]
  exact ⟨hp, by simpa using hk, fun j hj => by simp [hno j hj]⟩
/-- the row and the column of a piece -/
def rowOf (t : List (List Int)) (p : Int) : Nat := t.findIdx fun r => decide (p ∈ r)
def colOf (t : List (List Int)) (p : Int) : Nat := (t.getD (rowOf t p) []).idxOf p
def Has (t : List (List Int)) (p : Int) : Prop := ∃ r ∈ t, p ∈ r
def Rect (t : List (List Int)) (W : Nat) : Prop := ∀ r ∈ t, r.length = W
theorem row_lt {t : List (List Int)} {p : Int} (h : Has t p) : rowOf t p < t.length := List.findIdx_lt_length_of_exists (by obtain ⟨r, h1, h2⟩ := h; exact ⟨r, h1, decide_eq_true h2⟩)
theorem row_mem {t : List (List Int)} {p : Int} (h : Has t p) : p ∈ t.getD (rowOf t p) [] := by
  have hlt := row_lt h
  have hr' := List.findIdx_getElem (p := fun r => decide (p ∈ r)) (w := hlt)
  rw [List.getD_eq_getElem?_getD, List.getElem?_eq_getElem hlt, Option.getD_some]
  exact of_decide_eq_true hr'
theorem getD_mem {α : Type} {l : List α} {i : Nat} {d : α} (h : i < l.length) : l.getD i d ∈ l := by
  rw [List.getD_eq_getElem?_getD, List.getElem?_eq_getElem h, Option.getD_some]
  exact List.getElem_mem h
theorem col_lt {t : List (List Int)} {p : Int} {W : Nat} (h : Has t p) (hR : Rect t W) : colOf t p < W := by
  rw [← hR _ (getD_mem (row_lt h))]
  exact List.idxOf_lt_length_of_mem (row_mem h)
/-- the letters u d l r -/
def stepOf (c : Nat) : Option (Int × Int) := if c = 117 then some (-1, 0) else if c = 100 then some (1, 0) else if c = 108 then some (0, -1) else if c = 114 then some (0, 1) else none
def cellAt (t : List (List Int)) (r k : Nat) : Int := (t.getD r []).getD k 0
def putAt (t : List (List Int)) (r k : Nat) (z : Int) : List (List Int) := t.set r ((t.getD r []).set k z)
def slidM (t : List (List Int)) (c : Nat) : Option (List (List Int)) := match stepOf c with
  | none => none
  | some (dr, dc) =>
    let hi := (rowOf t 0 : Int) + dr
    let wi := (colOf t 0 : Int) + dc
    if 0 ≤ hi ∧ hi < (t.length : Int) ∧ 0 ≤ wi ∧ wi < ((t.getD 0 []).length : Int) then
      some (putAt (putAt t (rowOf t 0) (colOf t 0) (cellAt t hi.toNat wi.toNat)) hi.toNat wi.toNat 0)
    else none
theorem putAt_rect {t : List (List Int)} {W r k : Nat} {z : Int} (h : Rect t W) (hr : r < t.length) : Rect (putAt t r k z) W := by
  intro row hm
  rcases List.mem_or_eq_of_mem_set hm with h1 | rfl
  · exact h _ h1
  · rw [List.length_set]; exact h _ (getD_mem hr)
theorem put_row {t : List (List Int)} {W r k i : Nat} {z : Int} (h : Rect t W) (hr : r < t.length) (hi : i < t.length) : ((putAt t r k z).getD i []).length = W :=
  putAt_rect h hr _ (getD_mem (by show i < (List.set _ _ _).length; rw [List.length_set]; exact hi))
structure StepsOk (w : World) (K : PySem.W.Frag) (d : Addr) : Prop where
  kd : ∃ es n, KDict K w d es n
  it : ∀ c dr dc, stepOf c = some (dr, dc) → ∃ p, KDct K w d ⟨#[c]⟩ (.ref p) ∧ ∀ H, SqT K H p [.int dr, .int dc]
  ins : ∀ c p, stepOf c = some p → ∃ v, PySem.W.nsIn K d ⟨#[c]⟩ = some (some v)
  out : ∀ c, c = 120 ∨ c = 85 ∨ c = 32 ∨ c = 63 → PySem.W.nsIn K d ⟨#[c]⟩ = some none
section
variable {P : Program} {w : World} {K : PySem.W.Frag} {mg : Str → Option Value} {base : Heap}
def R_place_of (K : PySem.W.Frag) (as : List As) (o : Outc) : Prop := ∃ (t : List (List Int)) (p : Int), as = [Dt K (DT t), Dt K (.int p)] ∧ Has t p ∧ t.length ≤ 1000 ∧ o = .ret (Dt K (DP ((rowOf t p : Nat), (colOf t p : Nat))))
theorem ok_place_of {f : Addr} {fd : FuncData} (F : L2.Fun K "place_of" "place_of" s_place_of f fd) (n_enumerate : mg "enumerate" = none) : FnOk P w K mg base L2.CX0 1 f fd ["tray", "piece"] (SpD 2 (R_place_of K)) := by
  refine def_ok F sc_place_of rfl fun cdv A outer s Hf H as o E hr hR => ?_
  obtain ⟨t, p, rfl, hp, hl, rfl⟩ := hR
  refine ⟨_, (pss_one (ps_ret (pe_ix (ix_listK K) (pe_lc (own := [("at", 2), ("row", 3)]) (g := (gTup K 2 (gCons (gName 2) (gCons (gName 3) gNil)))) (by rfl) sc_place_of.nd (pi_enumK K (by rfl) n_enumerate (pa_cons (pv 0) pa_nil)) (blkOk_by (N := ["tray", "piece", "at", "row"]) (sc := defScope s_place_of) (own := [("at", 2), ("row", 3)]) (by decide +kernel)) (fun _ _ _ _ _ => (pg_tupK K (n := 2) (pgs_cons (pg_name (i := 2) sc_place_of.nd rfl (by first | exact Or.inl rfl | exact Or.inr rfl)) (pgs_cons (pg_name (i := 3) sc_place_of.nd rfl (by first | exact Or.inl rfl | exact Or.inr rfl)) pgs_nil)))) (fun _ _ _ _ _ => (pts_one (pt_cmpR (op_inDK K hr) (pv 1) (pv 3) (by rfl)))) (fun _ _ _ _ _ => (pe_tup (pa_cons (pv 2) (pa_cons (by exact (pe_bmK K PySem.F.plainAttrs_list PySem.F.slot_list_index PySem.F.type_list_index (mt_indexDK K hr) (pv 3) (pa_cons (pv 1) pa_nil))) pa_nil))))) pe_int (fun _ _ => rfl)))), ?_⟩
  refine rn_ret (a := Dt K (DP ((rowOf t p : Nat), (colOf t p : Nat)))) ?_ (As.le_refl _)
  walk_at "ev"
  · refine ew_lcP (List.range t.length) (fun i => Dt K (.tuple [.int ((i : Nat) : Int), (t.map DI).getD i .none])) (fun i => decide (p ∈ t.getD i [])) (fun i => DP ((i : Nat), ((t.getD i []).idxOf p : Nat))) ?_ (by walk_at "gw") (by simp; omega) fun i hi => ?_
    · have k := ei_enumD (K := K) (ev_var (i := 0) (Γ := G0 4 [Dt K (DT t), Dt K (.int p)]) (a := Dt K (DT t)) rfl)
      simpa using k
    · have hl : i < t.length := by simpa using hi
      have e : (t.map DI).getD i .none = DI (t.getD i []) := by simp [List.getD_eq_getElem?_getD, hl]
      simp only [e]
      refine ⟨_, by walk_at "eg", ?_, fun hm => ?_⟩
      · walk_at "evd"
      · have hm := of_decide_eq_true hm
        walk_at "evd"
  · have hlt := row_lt hp
    refine at_nat (j := 0) ?_ rfl
    rw [List.getElem?_map, first_filter (k := rowOf t p) hlt ?_ fun j hj => ?_]
    · rfl
    · exact decide_eq_true (row_mem hp)
    · have := List.not_of_lt_findIdx hj
      simpa [List.getD_eq_getElem?_getD, List.getElem?_eq_getElem (Nat.lt_trans hj hlt)] using this
def optT (K : PySem.W.Frag) : Option (List (List Int)) → Outc
  | none => .ret (Dt K .none)
  | some t => .own (OT K t)
def R_slid (K : PySem.W.Frag) (as : List As) (o : Outc) : Prop := ∃ (t : List (List Int)) (c W : Nat), as = [Dt K (DT t), Dt K (.str ⟨#[c]⟩)] ∧ Has t 0 ∧ Rect t W ∧ t.length ≤ 1000 ∧ W ≤ 1000 ∧ (stepOf c).isSome = true ∧ o = optT K (slidM t c)
theorem ok_slid {f : Addr} {fd : FuncData} {a_STEPS : Addr} (F : L2.Fun K "slid" "slid" s_slid f fd) (c_place_of : Cl P w K mg base L2.CX0 1 "place_of" (SpD 2 (R_place_of K))) (g_STEPS : mg "STEPS" = some (.ref a_STEPS)) (hS : StepsOk w K a_STEPS) (n_len : mg "len" = none) (n_list : mg "list" = none) :
    FnOk P w K mg base L2.CX0 2 f fd ["tray", "letter"] (SpD 2 (R_slid K)) := by
  refine def_ok F sc_slid rfl fun cdv A outer s Hf H as o E hr hR => ?_
  obtain ⟨t, c, W, rfl, h0, hRe, hl, hW, hc, rfl⟩ := hR
  refine ⟨_, (pss_cons (ps_asg (by exact (pe_cl c_place_of hr (by decide) (by rfl) (pa_cons (pv 0) (pa_cons pe_int pa_nil)))) (pg_tupK K (n := 2) (pgs_cons (pg_name (i := 2) sc_slid.nd rfl (by first | exact Or.inl rfl | exact Or.inr rfl)) (pgs_cons (pg_name (i := 3) sc_slid.nd rfl (by first | exact Or.inl rfl | exact Or.inr rfl)) pgs_nil))))
      (pss_cons (ps_asg (pe_ix (ix_kdK K w) (pe_glob (v := .ref a_STEPS) (by rfl) g_STEPS rfl) (pv 1) (fun _ _ => rfl)) (pg_tupK K (n := 2) (pgs_cons (pg_name (i := 4) sc_slid.nd rfl (by first | exact Or.inl rfl | exact Or.inr rfl)) (pgs_cons (pg_name (i := 5) sc_slid.nd rfl (by first | exact Or.inl rfl | exact Or.inr rfl)) pgs_nil))))
      (pss_cons (ps_par (i := 6) (j := 7) (by rfl) sc_slid.nd rfl rfl (by decide) rfl rfl (pa_cons (pe_op op_add (pv 2) (pv 4)) (pa_cons (pe_op op_add (pv 3) (pv 5)) pa_nil)) (by rfl))
      (pss_cons (ps_if (PW.pt (pw_or (pt_not (pt_chain op_le op_lt pe_int (pv 6) (by exact (pe_callB (call_lenK K) (by rfl) n_len (by decide +kernel) (pa_cons (pv 0) pa_nil))))) (pw_or1 (pt_not (pt_chain op_le op_lt pe_int (pv 7) (by exact (pe_callB (call_lenK K) (by rfl) n_len (by decide +kernel) (pa_cons (pe_ix (ix_listK K) (pv 0) pe_int (fun _ _ => rfl)) pa_nil)))))))) (pss_one (ps_ret pe_non)) pss_nil)
      (pss_cons (ps_setLc (i := 8) (own := [("line", 9)]) (g := (gName 9)) (by rfl) sc_slid.nd rfl rfl (sw_true rfl rfl rfl (by decide +kernel)) (pi_listK K (pv 0)) (blkOk_by (N := ["tray", "letter", "row", "column", "down", "right", "high", "wide", "found", "line"]) (sc := defScope s_slid) (own := [("line", 9)]) (by decide +kernel)) (fun _ _ _ _ _ => (pg_name (i := 9) sc_slid.nd rfl (by first | exact Or.inl rfl | exact Or.inr rfl))) (fun _ _ _ _ _ => pts_nil) (fun _ _ _ _ _ => (pe_callTy (call_listK K) (by rfl) n_list (by decide +kernel) (pa_cons (pv 9) pa_nil))))
      (pss_cons (ps_asg (pe_ix (ix_listK K) (pe_ix (ix_listK K) (pv 0) (pv 6) (fun _ _ => rfl)) (pv 7) (fun _ _ => rfl)) (pg_sub (pe_ix (ix_listK K) (pv 8) (pv 2) (fun _ _ => rfl)) (pv 3) set_list))
      (pss_cons (ps_asg pe_int (pg_sub (pe_ix (ix_listK K) (pv 8) (pv 6) (fun _ _ => rfl)) (pv 7) set_list))
      (pss_one (ps_ret (pv 8)))))))))), ?_⟩
  have hrl := row_lt h0
  have hcl := col_lt h0 hRe
  have h0W : ∀ i, i < t.length → (t.getD i []).length = W := fun i hi => hRe _ (getD_mem hi)
  obtain ⟨⟨dr, dc⟩, hst⟩ := Option.isSome_iff_exists.mp hc
  obtain ⟨q, hk1, hk2⟩ := hS.it c dr dc hst
  -- row, column = place_of(tray, 0)
  apply rn_seq
  refine rn_asgG (a := Dt K (DP ((rowOf t 0 : Nat), (colOf t 0 : Nat)))) ?_ (by walk_at "eg") ?_
  · walk_at "ev"
    exact ⟨t, 0, rfl, h0, hl, rfl⟩
  dsimp only
  -- down, right = STEPS[letter]
  apply rn_seq
  refine rn_asgG (a := Dt K (DP (dr, dc))) (ev_kd hk1 (fun H => .tup (hk2 H) (.cons (.int _) (.cons (.int _) .nil))) (by walk_at "ev")) (by walk_at "eg") ?_
  dsimp only
  -- high, wide
  apply rn_seq
  apply rn_par
  · walk_at "ev"
  dsimp only
  -- the test
  apply rn_seq
  apply rn_if
  · walk_at "ev"
    · exact at_row (getq [] (by omega : 0 < t.length)) rfl
  all_goals intro hb
  · apply rn_ret
    · walk_at "ev"
    · rw [show slidM t c = none from ?_]
      · exact As.le_refl _
      · unfold slidM
        rw [hst]
        simp at hb ⊢
        omega
  · have hin : 0 ≤ (rowOf t 0 : Int) + dr ∧ (rowOf t 0 : Int) + dr < (t.length : Int) ∧ 0 ≤ (colOf t 0 : Int) + dc ∧ (colOf t 0 : Int) + dc < ((t.getD 0 []).length : Int) := by
      simp at hb
      simp only [List.getD_eq_getElem?_getD]
      omega
    obtain ⟨i1, i2, i3, i4⟩ := hin
    rw [h0W 0 (by omega)] at i4
    have e1 : (rowOf t 0 : Int) + dr = (((rowOf t 0 : Int) + dr).toNat : Nat) := by omega
    have e2 : (colOf t 0 : Int) + dc = (((colOf t 0 : Int) + dc).toNat : Nat) := by omega
    generalize hh : ((rowOf t 0 : Int) + dr).toNat = hi at e1
    generalize hw : ((colOf t 0 : Int) + dc).toNat = wi at e2
    have hhl : hi < t.length := by omega
    have hwl : wi < W := by omega
    apply rn_next
    -- found = [list(line) for line in tray]
    apply rn_seq
    refine rn_asgW (w := OT K t) (ew_copyT (by walk_at "ev") (by decide) (by simp [G0]) (by omega)) ?_
    dsimp only
    apply rn_seq
    refine rn_setOT (m := rowOf t 0) (n := colOf t 0) (row := t.getD (rowOf t 0) []) (z := cellAt t hi wi) rfl ?_ (by walk_at "ev") (by walk_at "ev") rfl rfl (getq [] hrl) (by rw [h0W _ hrl]; exact hcl) ?_
    · walk_at "ev"
      · exact at_row (getq [] hhl) e1
      · exact at_int (getq 0 (by rw [h0W _ hhl]; exact hwl)) e2
    dsimp only
    apply rn_seq
    refine rn_setOT (m := hi) (n := wi) (row := (putAt t (rowOf t 0) (colOf t 0) (cellAt t hi wi)).getD hi []) (z := 0) rfl (by walk_at "ev") (by walk_at "ev") (by walk_at "ev") e1 e2 ?_ ?_ ?_
    · exact getq [] (by show hi < (List.set _ _ _).length; rw [List.length_set]; exact hhl)
    · rw [put_row hRe hrl hhl]; exact hwl
    dsimp only
    refine rn_retO rfl ?_
    rw [show slidM t c = some _ from ?_]
    · exact fun _ _ _ _ h => h
    · unfold slidM
      rw [hst]
      simp only [hh, hw]
      rw [if_pos ⟨by omega, by omega, by omega, by rw [h0W 0 (by omega)]; omega⟩]
      rfl
end

abbrev s_slid_all : Stmt := topS 14
theorem sc_slid_all : FnScope ["tray", "slides", "found", "letter", "row"] ["tray", "slides"] (defScope s_slid_all) :=
  ⟨rfl, rfl, rfl, by decide +kernel, rfl, by decide +kernel, by decide +kernel⟩
theorem slid_some {t t' : List (List Int)} {c : Nat} (h : slidM t c = some t') : ∃ (dr dc : Int) (hi wi : Nat), stepOf c = some (dr, dc) ∧ (hi : Int) = rowOf t 0 + dr ∧ (wi : Int) = colOf t 0 + dc ∧ hi < t.length ∧ wi < (t.getD 0 []).length ∧
    t' = putAt (putAt t (rowOf t 0) (colOf t 0) (cellAt t hi wi)) hi wi 0 := by
  unfold slidM at h
  cases hs : stepOf c with
  | none => simp only [hs] at h; cases h
  | some p =>
    obtain ⟨dr, dc⟩ := p
    simp only [hs] at h
    split at h
    · rename_i hc
      obtain ⟨h1, h2, h3, h4⟩ := hc
      obtain rfl := Option.some.inj h
      exact ⟨dr, dc, _, _, rfl, Int.toNat_of_nonneg h1, Int.toNat_of_nonneg h3, by omega, by omega, rfl⟩
    · cases h
theorem slid_of {t : List (List Int)} {c : Nat} {dr dc : Int} {hi wi : Nat} (hs : stepOf c = some (dr, dc)) (e1 : (hi : Int) = rowOf t 0 + dr) (e2 : (wi : Int) = colOf t 0 + dc) (h1 : hi < t.length) (h2 : wi < (t.getD 0 []).length) :
    slidM t c = some (putAt (putAt t (rowOf t 0) (colOf t 0) (cellAt t hi wi)) hi wi 0) := by
  unfold slidM
  simp only [hs]
  rw [if_pos ⟨by omega, by omega, by omega, by omega⟩, ← e1, ← e2, Int.toNat_natCast, Int.toNat_natCast]
theorem slid_len {t t' : List (List Int)} {c : Nat} (h : slidM t c = some t') : t'.length = t.length := by
  obtain ⟨dr, dc, hi, wi, _, _, _, _, _, rfl⟩ := slid_some h
  show (List.set (List.set _ _ _) _ _).length = _
  rw [List.length_set, List.length_set]
theorem slid_rect {t t' : List (List Int)} {c W : Nat} (h : slidM t c = some t') (h0 : Has t 0) (hR : Rect t W) : Rect t' W := by
  obtain ⟨dr, dc, hi, wi, _, _, _, h1, _, rfl⟩ := slid_some h
  refine putAt_rect (putAt_rect hR (row_lt h0)) ?_
  show _ < (List.set _ _ _).length
  rw [List.length_set]; exact h1
theorem put_has {t : List (List Int)} {r k : Nat} {z : Int} (h1 : r < t.length) (h2 : k < (t.getD r []).length) : Has (putAt t r k z) z :=
  ⟨(t.getD r []).set k z, List.mem_set h1 _, List.mem_set h2 _⟩
theorem slid_has {t t' : List (List Int)} {c W : Nat} (h : slidM t c = some t') (h0 : Has t 0) (hR : Rect t W) : Has t' 0 := by
  obtain ⟨dr, dc, hi, wi, _, _, _, h1, h2, rfl⟩ := slid_some h
  have hw : (t.getD 0 []).length = W := hR _ (getD_mem (by omega))
  refine put_has (by show _ < (List.set _ _ _).length; rw [List.length_set]; exact h1) ?_
  rw [put_row hR (row_lt h0) h1]; omega
def slidAllM (t : List (List Int)) (l : List Nat) : Option (List (List Int)) := l.foldlM slidM t
theorem slidAll_ok {W : Nat} : ∀ {l : List Nat} {t t' : List (List Int)}, slidAllM t l = some t' → Has t 0 → Rect t W → t'.length = t.length ∧ Has t' 0 ∧ Rect t' W
  | [], t, t', h, h0, hR => by obtain rfl := Option.some.inj h; exact ⟨rfl, h0, hR⟩
  | c :: l, t, t', h, h0, hR => by
    unfold slidAllM at h
    rw [List.foldlM_cons] at h
    cases hs : slidM t c with
    | none => rw [hs] at h; cases h
    | some u =>
      rw [hs] at h
      obtain ⟨a, b, d⟩ := slidAll_ok (l := l) (t := u) h (slid_has hs h0 hR) (slid_rect hs h0 hR)
      exact ⟨a.trans (slid_len hs), b, d⟩
theorem slidAll_take {t : List (List Int)} {l : List Nat} {i c : Nat} (h : l[i]? = some c) : slidAllM t (l.take (i + 1)) = (slidAllM t (l.take i)).bind (slidM · c) := by
  unfold slidAllM
  rw [List.take_add_one, h, List.foldlM_append]
  cases List.foldlM slidM t (l.take i) with
  | none => rfl
  | some u =>
    show (List.foldlM slidM u [c]) = slidM u c
    rw [List.foldlM_cons]
    cases slidM u c <;> rfl
theorem slidAll_stop {t : List (List Int)} {l : List Nat} {i : Nat} (h : slidAllM t (l.take i) = none) : slidAllM t l = none := by
  have e : l = l.take i ++ l.drop i := (List.take_append_drop i l).symm
  unfold slidAllM at h ⊢
  rw [e, List.foldlM_append, h]; rfl
/-- letters that are met -/
def Lett (c : Nat) : Prop := (stepOf c).isSome = true ∨ c = 120 ∨ c = 85 ∨ c = 32 ∨ c = 63
theorem lett_none {c : Nat} (h : Lett c) (hn : stepOf c = none) : c = 120 ∨ c = 85 ∨ c = 32 ∨ c = 63 := by
  rcases h with h | h
  · rw [hn] at h; cases h
  · exact h
theorem slid_nostep {t : List (List Int)} {c : Nat} (h : stepOf c = none) : slidM t c = none := by
  unfold slidM
  rw [h]
section
variable {P : Program} {w : World} {K : PySem.W.Frag} {mg : Str → Option Value} {base : Heap}
theorem in_steps {a : Addr} (hS : StepsOk w K a) {c : Nat} (hc : Lett c) : ∃ o, PySem.W.nsIn K a ⟨#[c]⟩ = some o ∧ o.isSome = (stepOf c).isSome := by
  cases h : stepOf c with
  | none => exact ⟨none, hS.out c (lett_none hc h), rfl⟩
  | some p => obtain ⟨v, hv⟩ := hS.ins c p h; exact ⟨some v, hv, rfl⟩
def R_slid_all (K : PySem.W.Frag) (as : List As) (o : Outc) : Prop := ∃ (t : List (List Int)) (l : List Nat) (W : Nat), as = [Dt K (DT t), Dt K (DS l)] ∧ Has t 0 ∧ Rect t W ∧ t.length ≤ 1000 ∧ W ≤ 1000 ∧ l.length ≤ 1000000 ∧ (∀ c ∈ l, Lett c) ∧ o = optT K (slidAllM t l)
theorem ok_slid_all {f : Addr} {fd : FuncData} {a_STEPS : Addr} (F : L2.Fun K "slid_all" "slid_all" s_slid_all f fd) (c_slid : Cl P w K mg base L2.CX0 2 "slid" (SpD 2 (R_slid K))) (g_STEPS : mg "STEPS" = some (.ref a_STEPS)) (hS : StepsOk w K a_STEPS) (n_list : mg "list" = none) :
    FnOk P w K mg base L2.CX0 3 f fd ["tray", "slides"] (SpD 2 (R_slid_all K)) := by
  refine def_ok F sc_slid_all rfl fun cdv A outer s Hf H as o E hr hR => ?_
  obtain ⟨t, l, W, rfl, h0, hRe, hl, hW, hll, hle, rfl⟩ := hR
  obtain ⟨es, n, kd_STEPS⟩ := hS.kd
  refine ⟨_, (pss_cons (ps_setLc (i := 2) (own := [("row", 4)]) (g := (gName 4)) (by rfl) sc_slid_all.nd rfl rfl (sw_true rfl rfl rfl (by decide +kernel)) (pi_listK K (pv 0)) (blkOk_by (N := ["tray", "slides", "found", "letter", "row"]) (sc := defScope s_slid_all) (own := [("row", 4)]) (by decide +kernel)) (fun _ _ _ _ _ => (pg_name (i := 4) sc_slid_all.nd rfl (by first | exact Or.inl rfl | exact Or.inr rfl))) (fun _ _ _ _ _ => pts_nil) (fun _ _ _ _ _ => (pe_callTy (call_listK K) (by rfl) n_list (by decide +kernel) (pa_cons (pv 4) pa_nil))))
      (pss_cons (ps_for PassesOwn.never rfl (pi_str (pv 1)) (pg_name (i := 3) sc_slid_all.nd rfl (by first | exact Or.inl rfl | exact Or.inr rfl)) (pss_cons (ps_if (pt_cmpR (op_notInKd K w kd_STEPS) (pv 3) (pe_glob (v := .ref a_STEPS) (by rfl) g_STEPS rfl) (by rfl)) (pss_one (ps_ret pe_non)) pss_nil)
      (pss_cons (ps_set (i := 2) sc_slid_all.nd rfl (by first | exact Or.inl rfl | exact Or.inr rfl) (by exact (pe_cl c_slid hr (by decide) (by rfl) (pa_cons (pv 2) (pa_cons (pv 3) pa_nil)))))
      (pss_one (ps_if (pt_cmpR op_isNone (pv 2) pe_non (nomark _)) (pss_one (ps_ret pe_non)) pss_nil)))))
      (pss_one (ps_ret (pv 2))))), ?_⟩
  -- found = [list(row) for row in tray]
  apply rn_seq
  refine rn_asgW (w := OT K t) (ew_copyT (by walk_at "ev") (by decide) (by simp [G0]) (by omega)) ?_
  dsimp only
  apply rn_seq
  refine rn_for (fun i Γ => ∃ t', slidAllM t (l.take i) = some t' ∧ Γ = [.as (Dt K (DT t)), .as (Dt K (DS l)), .ow (OT K t'), .un, .un]) (ei_str (by walk_at "ev")) ⟨t, rfl, rfl⟩ ?_ ?_
  · intro c' sb i a Γ1 hW1 ha
    obtain ⟨t', ht', rfl⟩ := hW1
    obtain ⟨e1, e2, e3⟩ := slidAll_ok ht' h0 hRe
    have ha' : (l.map fun c => Dt K (.str ⟨#[c]⟩))[i]? = some a := by unfold chs at ha; simpa using ha
    rw [List.getElem?_map] at ha'
    cases hc : l[i]? with
    | none => rw [hc] at ha'; cases ha'
    | some c =>
      rw [hc] at ha'
      obtain rfl := Option.some.inj ha'
      have hcm : c ∈ l := List.mem_of_getElem? hc
      obtain ⟨ov, ho, hoc⟩ := in_steps hS (hle c hcm)
      have hstep := slidAll_take (t := t) hc
      rw [ht', Option.bind_some] at hstep
      refine ⟨_, eg_name, ?_⟩
      apply rn_seq
      refine rn_if (ev_notInK (d := a_STEPS) (by walk_at "ev") ho |> eb_test) ?_ ?_
      all_goals intro hb
      · have hn : stepOf c = none := by
          cases hx : stepOf c with
          | none => rfl
          | some p => rw [hx] at hoc; rw [hoc] at hb; cases hb
        apply rn_ret
        · walk_at "ev"
        · rw [slidAll_stop (t := t) (l := l) (i := i + 1) (by rw [hstep]; exact slid_nostep hn)]
          exact As.le_refl _
      · have hsm : (stepOf c).isSome = true := by rw [← hoc]; cases ov <;> simp_all
        apply rn_next
        dsimp only
        refine rn_fixOT (i := 2) (tr := t') rfl ?_ sb.w
        apply rn_seq
        cases hs : slidM t' c with
        | none =>
          refine rn_asg (a := Dt K .none) (ev_call (as := [Dt K (DT t'), Dt K (.str ⟨#[c]⟩)]) (by walk_at "ev") ⟨t', c, W, rfl, e2, e3, by omega, hW, hsm, by rw [hs]; rfl⟩ rfl) ?_
          dsimp only
          apply rn_if
          · walk_at "ev"
          all_goals intro hb2
          · apply rn_ret
            · walk_at "ev"
            · rw [slidAll_stop (t := t) (l := l) (i := i + 1) (by rw [hstep]; exact hs)]
              exact As.le_refl _
          · cases hb2
        | some t2 =>
          refine rn_asgW (w := OT K t2) (ew_call (as := [Dt K (DT t'), Dt K (.str ⟨#[c]⟩)]) (by walk_at "ev") ⟨t', c, W, rfl, e2, e3, by omega, hW, hsm, by rw [hs]; rfl⟩ rfl) ?_
          dsimp only
          refine rn_if (eb_test (eb_isNoneO (tr := t2) rfl (by walk_at "ev"))) ?_ ?_
          all_goals intro hb2
          · cases hb2
          · apply rn_next
            exact ⟨[.as (Dt K (DT t)), .as (Dt K (DS l)), .ow (OT K t2), .un, .un], .cons (Sl.le_refl _) (.cons (Sl.le_refl _) (.cons (Sl.le_refl _) (.cons trivial (.cons trivial .nil)))), t2, by rw [hstep]; exact hs, rfl⟩
  · rintro Γ1 ⟨t', ht', rfl⟩
    dsimp only
    refine rn_retO rfl ?_
    have hl2 : l.take (chs K (SX.S l)).length = l := by
      apply List.take_of_length_le
      simp [chs]
    rw [hl2] at ht'
    rw [ht']
    exact fun _ _ _ _ h => h
end
theorem step_cases {c : Nat} {dr dc : Int} (h : stepOf c = some (dr, dc)) : (c = 117 ∧ dr = -1 ∧ dc = 0) ∨ (c = 100 ∧ dr = 1 ∧ dc = 0) ∨ (c = 108 ∧ dr = 0 ∧ dc = -1) ∨ (c = 114 ∧ dr = 0 ∧ dc = 1) := by
  unfold stepOf at h
  repeat' (split at h)
  all_goals first | (have h' := Prod.mk.inj (Option.some.inj h); omega) | cases h
abbrev s_is_number : Stmt := topS 10
theorem sc_is_number : FnScope ["thing"] ["thing"] (defScope s_is_number) :=
  ⟨rfl, rfl, rfl, by decide +kernel, rfl, by decide +kernel, by decide +kernel⟩
abbrev s_asked_tray : Stmt := topS 11
theorem sc_asked_tray : FnScope ["tray", "numbers", "row", "one"] ["tray"] (defScope s_asked_tray) :=
  ⟨rfl, rfl, rfl, by decide +kernel, rfl, by decide +kernel, by decide +kernel⟩
/-- what is known of an own exception class -/
structure ExcOk (K : PySem.W.Frag) (mg : Str → Option Value) (x : Str) (C : Addr) : Prop where
  gC : mg x = some (.ref C)
  xq : PySem.W.excIn K C [.type "ValueError", .type "Exception", .type "BaseException", .type "object"] "ValueError.__new__" = true
  kC : PySem.W.keepIn K (.ref C) = true
  bC : PySem.W.subIn K (.ref C) (.type "BaseException") = some true
  tC : PySem.W.typeIn K (.ref C) = some (.type "type")
def isNum (d : PyData) : Bool := isT d "int" && !isT d "bool"
def numD : PyData → Int
  | .int i => i
  | _ => 0
def itemsD : PyData → List PyData
  | .list xs => xs
  | _ => []
theorem isT_list {d : PyData} (h : isT d "list" = true) : d = .list (itemsD d) := by
  cases d <;> simp_all [isT, itemsD]
theorem isNum_int {d : PyData} (h : isNum d = true) : d = .int (numD d) := by
  cases d <;> simp_all [isNum, isT, numD]
theorem nums_map {xs : List PyData} (h : xs.all isNum = true) : xs = (xs.map numD).map PyData.int := by
  rw [List.map_map]
  conv => lhs; rw [← List.map_id xs]
  apply List.map_congr_left
  intro x hx
  exact isNum_int (List.all_eq_true.mp h x hx)
def srt (xs : List Int) : List Int := xs.mergeSort (fun a b => decide (a ≤ b))
theorem srt_perm (xs : List Int) : (srt xs).Perm xs := List.mergeSort_perm _ _
theorem srt_sorted (xs : List Int) : (srt xs).Pairwise (· ≤ ·) := by
  have h := List.pairwise_mergeSort (le := fun a b : Int => decide (a ≤ b)) (fun a b c h1 h2 => by simp at *; omega) (fun a b => by simp; omega) xs
  exact h.imp (fun h => of_decide_eq_true h)
def upto (n : Nat) : List Int := (List.range n).map fun i => ((i : Nat) : Int)
theorem upto_sorted (n : Nat) : (upto n).Pairwise (· ≤ ·) := by
  unfold upto
  rw [List.pairwise_map]
  exact List.pairwise_lt_range.imp (fun h => by omega)
theorem srt_upto {xs : List Int} {n : Nat} (h : xs.Perm (upto n)) : srt xs = upto n := ((srt_perm xs).trans h).eq_of_pairwise (fun x y _ _ h1 h2 => Int.le_antisymm h1 h2) (srt_sorted xs) (upto_sorted n)
def rowOkM (w : Nat) (r : PyData) : Bool := isT r "list" && decide ((itemsD r).length = w) && (itemsD r).all isNum
def askM : PyData → Bool
  | .list rows => decide (1 ≤ rows.length ∧ rows.length ≤ 6) && isT (rows.getD 0 .none) "list" && rows.all (rowOkM (itemsD (rows.getD 0 .none)).length) &&
      decide (1 ≤ (itemsD (rows.getD 0 .none)).length ∧ (itemsD (rows.getD 0 .none)).length ≤ 6) &&
      decide (srt (rows.flatMap fun r => (itemsD r).map numD) = upto (rows.flatMap fun r => (itemsD r).map numD).length)
  | _ => false
theorem askM_list (rows : List PyData) : askM (.list rows) = (decide (1 ≤ rows.length ∧ rows.length ≤ 6) && isT (rows.getD 0 .none) "list" && rows.all (rowOkM (itemsD (rows.getD 0 .none)).length) &&
      decide (1 ≤ (itemsD (rows.getD 0 .none)).length ∧ (itemsD (rows.getD 0 .none)).length ≤ 6) &&
      decide (srt (rows.flatMap fun r => (itemsD r).map numD) = upto (rows.flatMap fun r => (itemsD r).map numD).length)) := rfl
theorem flat_len {α β : Type} {f : α → List β} {w : Nat} : ∀ {l : List α}, (∀ r ∈ l, (f r).length = w) → (l.flatMap f).length = l.length * w
  | [], _ => by simp
  | x :: l, h => by
    rw [List.flatMap_cons, List.length_append, flat_len (fun r hr => h r (List.mem_cons_of_mem _ hr)), h x (by simp), List.length_cons, Nat.succ_mul, Nat.add_comm]
theorem rowOk_len {w : Nat} {r : PyData} (h : rowOkM w r = true) : ((itemsD r).map numD).length = w := by
  unfold rowOkM at h
  simp only [Bool.and_eq_true, decide_eq_true_eq] at h
  rw [List.length_map]; exact h.1.2
/-- nothing is too long -/
def Small : PyData → Prop
  | .list rows => rows.length ≤ 1000 ∧ ∀ r ∈ rows, (itemsD r).length ≤ 1000
  | _ => True
section
variable {P : Program} {w : World} {K : PySem.W.Frag} {mg : Str → Option Value} {base : Heap}
def R_is_number (K : PySem.W.Frag) (as : List As) (o : Outc) : Prop := ∃ d, as = [Dt K d] ∧ o = .ret (Dt K (.bool (isNum d)))
theorem ok_is_number {f : Addr} {fd : FuncData} (F : L2.Fun K "is_number" "is_number" s_is_number f fd) (n_isinstance : mg "isinstance" = none) (n_int : mg "int" = none) (n_bool : mg "bool" = none) : FnOk P w K mg base L2.CX0 1 f fd ["thing"] (SpD 1 (R_is_number K)) := by
  refine def_ok F sc_is_number rfl fun cdv A outer s Hf H as o E hr hR => ?_
  obtain ⟨d, rfl, rfl⟩ := hR
  refine ⟨_, (pss_one (ps_ret (pe_and (by exact (pe_callB (call_isiK' K) (by rfl) n_isinstance (by decide +kernel) (pa_cons (pv 0) (pa_cons (pe_bltn (v := .ty "int") (by rfl) n_int (by decide +kernel) rfl) pa_nil)))) (pe_one (pe_not (by exact (pe_callB (call_isiK' K) (by rfl) n_isinstance (by decide +kernel) (pa_cons (pv 0) (pa_cons (pe_bltn (v := .ty "bool") (by rfl) n_bool (by decide +kernel) rfl) pa_nil))))))))), ?_⟩
  refine rn_ret (a := Dt K (.bool (isNum d))) ?_ (As.le_refl _)
  exact ev_andV (ev_isT (by walk_at "ev") (.inl rfl)) fun _ => ev_notV (ev_isT (by walk_at "ev") (.inr (.inl rfl)))
def R_asked_tray (K : PySem.W.Frag) (CB : Addr) (as : List As) (o : Outc) : Prop :=
  (∃ d, as = [Dt K d] ∧ Small d ∧ o = if askM d = true then .ret (Dt K .none) else .exc CB) ∨
  (∃ a T, as = [a] ∧ (∀ H v, a.p H v → TyX K H v (.type T)) ∧ kitB T "list" = some false ∧ o = .exc CB)
theorem ev_isX {Γ : List Sl} {ta : TE} {a : As} {T0 T : String} {b : Bool} (ha : EvA ta Γ a) (ht : ∀ H v, a.p H v → TyX K H v (.type T0)) (hk : kitB T0 T = some b) : EvA (tCB (rIsi K) (tCons ta (tCons (tC (.ty T)) tNil))) Γ (Dt K (.bool b)) :=
  ev_cb (es_cons ha (es_cons ev_ct es_nil)) fun Hf H vs hz pv Q q => by
    obtain ⟨v, w, rfl, hv, hw⟩ := pa2 pv
    obtain rfl : w = .ty T := hw
    exact ⟨v, .ty T, _, _, b, rfl, .ty T, ht _ _ (a.mono hz hv), kit_ty hk, q _ Hf H (.refl hz) (.bl b)⟩
theorem ok_asked_tray {f : Addr} {fd : FuncData} {CB : Addr} {t6 : Tok} (F : L2.Fun K "asked_tray" "asked_tray" s_asked_tray f fd) (c_is_number : Cl P w K mg base L2.CX0 1 "is_number" (SpD 1 (R_is_number K))) (g_MOST : mg "MOST" = some (.int 6 t6)) (r_BadTray : ExcOk K mg "BadTray" CB)
    (n_len : mg "len" = none) (n_list : mg "list" = none) (n_isinstance : mg "isinstance" = none) (n_all : mg "all" = none) (n_sorted : mg "sorted" = none) (n_range : mg "range" = none) :
    FnOk P w K mg base (L2.CX P w) 2 f fd ["tray"] (SpD 1 (R_asked_tray K CB)) := by
  refine def_okX F sc_asked_tray rfl fun cdv A outer s Hf H as o E hr hR hE => ?_
  rcases hR with ⟨d, rfl, hsm, ho⟩ | ⟨a, T, rfl, hT, hk, rfl⟩
  all_goals refine ⟨_, (pss_cons (ps_if (PW.pt (pw_or (pt_not (pt_val (by exact (pe_callB (call_isiK' K) (by rfl) n_isinstance (by decide +kernel) (pa_cons (pv 0) (pa_cons (pe_bltn (v := .ty "list") (by rfl) n_list (by decide +kernel) rfl) pa_nil)))))) (pw_or (pt_not (pt_chain op_le op_le pe_int (by exact (pe_callB (call_lenK K) (by rfl) n_len (by decide +kernel) (pa_cons (pv 0) pa_nil))) (pe_glob (v := .int 6) (by rfl) g_MOST ⟨_, rfl⟩))) (pw_or1 (pt_not (pt_val (by exact (pe_callB (call_isiK' K) (by rfl) n_isinstance (by decide +kernel) (pa_cons (pe_ix (ix_listK K) (pv 0) pe_int (fun _ _ => rfl)) (pa_cons (pe_bltn (v := .ty "list") (by rfl) n_list (by decide +kernel) rfl) pa_nil)))))))))) (pss_one (ps_raise rfl (takes_of rfl rfl rfl rfl) (pmk_own PySem.F.excBase_ValueError r_BadTray.xq r_BadTray.gC r_BadTray.kC (raises_own r_BadTray.bC r_BadTray.tC) (by exact rfl)))) pss_nil)
      (pss_cons (ps_set (i := 1) sc_asked_tray.nd rfl (by first | exact Or.inl rfl | exact Or.inr rfl) (pe_lst pa_nil))
      (pss_cons (ps_for (passes_of rfl) rfl (pi_listK K (pv 0)) (pg_name (i := 2) sc_asked_tray.nd rfl (by first | exact Or.inl rfl | exact Or.inr rfl)) (pss_cons (ps_if (PW.pt (pw_or (pt_not (pt_val (by exact (pe_callB (call_isiK' K) (by rfl) n_isinstance (by decide +kernel) (pa_cons (pv 2) (pa_cons (pe_bltn (v := .ty "list") (by rfl) n_list (by decide +kernel) rfl) pa_nil)))))) (pw_or (pt_cmpR op_ne (by exact (pe_callB (call_lenK K) (by rfl) n_len (by decide +kernel) (pa_cons (pv 2) pa_nil))) (by exact (pe_callB (call_lenK K) (by rfl) n_len (by decide +kernel) (pa_cons (pe_ix (ix_listK K) (pv 0) pe_int (fun _ _ => rfl)) pa_nil))) (nomark _)) (pw_or1 (pt_not (pt_val (by exact (pe_callB (cr_allK K) (by rfl) n_all (by decide +kernel) (pa_cons (pe_lc (own := [("one", 3)]) (g := (gName 3)) (by rfl) sc_asked_tray.nd (pi_listK K (pv 2)) (blkOk_by (N := ["tray", "numbers", "row", "one"]) (sc := defScope s_asked_tray) (own := [("one", 3)]) (by decide +kernel)) (fun _ _ _ _ _ => (pg_name (i := 3) sc_asked_tray.nd rfl (by first | exact Or.inl rfl | exact Or.inr rfl))) (fun _ _ _ _ _ => pts_nil) (fun _ _ _ _ _ => (by exact (pe_cl c_is_number hr (by decide) (by rfl) (pa_cons (pv 3) pa_nil))))) pa_nil))))))))) (pss_one (ps_raise rfl (takes_of rfl rfl rfl rfl) (pmk_own PySem.F.excBase_ValueError r_BadTray.xq r_BadTray.gC r_BadTray.kC (raises_own r_BadTray.bC r_BadTray.tC) (by exact rfl)))) pss_nil)
      (pss_one (ps_expr (by exact (pe_bmK K PySem.F.plainAttrs_list PySem.F.slot_list_extend PySem.F.type_list_extend mt_extend (pv 1) (pa_cons (pv 2) pa_nil)))))))
      (pss_one (ps_if (PW.pt (pw_or (pt_not (pt_chain op_le op_le pe_int (by exact (pe_callB (call_lenK K) (by rfl) n_len (by decide +kernel) (pa_cons (pe_ix (ix_listK K) (pv 0) pe_int (fun _ _ => rfl)) pa_nil))) (pe_glob (v := .int 6) (by rfl) g_MOST ⟨_, rfl⟩))) (pw_or1 (pt_cmpR (op_neDK K hr) (by exact (pe_callB (cr_sortedK K) (by rfl) n_sorted (by decide +kernel) (pa_cons (pv 1) pa_nil))) (pe_listRg (by rfl) (by rfl) n_list (prg_1 (by rfl) n_range (by exact (pe_callB (call_lenK K) (by rfl) n_len (by decide +kernel) (pa_cons (pv 1) pa_nil))))) (nomark _))))) (pss_one (ps_raise rfl (takes_of rfl rfl rfl rfl) (pmk_own PySem.F.excBase_ValueError r_BadTray.xq r_BadTray.gC r_BadTray.kC (raises_own r_BadTray.bC r_BadTray.tC) (by exact rfl)))) pss_nil))))), ?_⟩
  · have hEx : o = .exc CB → ∀ {Hf' H' : Hp}, Bok ⟨Hf, H, []⟩ Hf' H' → E (.ref CB) none H' := fun e => by rw [e] at hE; exact hE
    have hno : askM d = false → o = .exc CB := fun e => by rw [ho, e]; rfl
    have hyes : askM d = true → o = .ret (Dt K .none) := fun e => by rw [ho, e]; rfl
    generalize hrw : itemsD d = rows
    have hd : isT d "list" = true → d = .list rows := fun h => by rw [← hrw]; exact isT_list h
    generalize hr0 : rows.getD 0 .none = r0
    have htest : isT d "list" = false ∨ (decide (1 ≤ (rows.length : Int)) && decide ((rows.length : Int) ≤ 6)) = false ∨ isT r0 "list" = false → askM d = false := by
      intro h
      cases hl : isT d "list" with
      | false => cases d <;> first | rfl | simp_all [isT]
      | true =>
        rw [hd hl, askM_list, hr0]
        rw [hl] at h
        simp only [Bool.true_eq_false, false_or] at h
        rcases h with h | h
        · simp at h
          have : decide (1 ≤ rows.length ∧ rows.length ≤ 6) = false := decide_eq_false (by omega)
          rw [this]; rfl
        · rw [h]; simp
    apply rn_seq
    refine rn_if (b := !isT d "list" || ((!(decide (1 ≤ (rows.length : Int)) && decide ((rows.length : Int) ≤ 6))) || !isT r0 "list")) ?_ ?_ ?_
    · refine eb_or (eb_not (eb_B (ev_isT (by walk_at "ev") (by simp)))) fun h1 => ?_
      have hdl := hd (by simpa using h1)
      subst hdl
      refine eb_or (eb_not (eb_test (K := K) ?_)) fun h2 => eb_not (eb_B (ev_isT ?_ (by simp)))
      · have k := ev_chain (K := K) (Γ := G0 4 [Dt K (.list rows)]) (g := fun i j => decide (i ≤ j)) (g' := fun i j => decide (i ≤ j)) (i := 1) (k := 6) ev_int (ev_lenLD (el_dt (ds := rows) (ev_var (i := 0) rfl))) ev_int
        simpa using k
      · have hlen : 0 < rows.length := by simp at h2; omega
        walk_at "ev"
        exact at_nat (j := 0) (by rw [← hr0]; exact getq _ hlen) rfl
    · intro hb
      have hf := htest (by
        simp only [Bool.or_eq_true, Bool.not_eq_true'] at hb
        exact hb)
      exact fun D σ H Hf s q => hEx (hno hf) s.b
    · intro hb
      simp only [Bool.or_eq_false_iff, Bool.not_eq_false'] at hb
      obtain ⟨hb1, hb2, hb3⟩ := hb
      have hdl := hd hb1
      subst hdl
      obtain ⟨hs1, hs2⟩ := hsm
      have hlen : 1 ≤ rows.length ∧ rows.length ≤ 6 := by simp at hb2; omega
      have hr0l := isT_list hb3
      generalize hw : itemsD r0 = row0 at hr0l
      have h00 : rows[0]? = some r0 := by rw [← hr0]; exact getq _ (by omega)
      have hask : askM (.list rows) = (rows.all (rowOkM row0.length) && decide (1 ≤ row0.length ∧ row0.length ≤ 6) && decide (srt (rows.flatMap fun r => (itemsD r).map numD) = upto (rows.flatMap fun r => (itemsD r).map numD).length)) := by
        rw [askM_list, hr0, hb3, hw, decide_eq_true hlen]; rfl
      apply rn_next
      apply rn_seq
      refine rn_asgW (w := OL (([] : List PyData).map (Dt K))) (by walk_at "ev"; simp) ?_
      dsimp only
      apply rn_seq
      refine rn_for (fun i Γ => (rows.take i).all (rowOkM row0.length) = true ∧ Γ = [.as (Dt K (.list rows)), .ow (OL ((((rows.take i).flatMap fun r => (itemsD r).map numD).map PyData.int).map (Dt K))), .un, .un]) (ei_listD (by walk_at "ev")) ⟨rfl, rfl⟩ ?_ ?_
      · rintro c' sb i a Γ1 ⟨hpre, rfl⟩ ha
        rw [List.getElem?_map] at ha
        cases hr' : rows[i]? with
        | none => rw [hr'] at ha; cases ha
        | some r =>
          rw [hr'] at ha
          obtain rfl := Option.some.inj ha
          have hrm := List.mem_of_getElem? hr'
          refine ⟨_, eg_name, ?_⟩
          have hbad : rowOkM row0.length r = false → askM (.list rows) = false := fun e => by
            rw [hask]
            have : rows.all (rowOkM row0.length) = false := by
              rw [List.all_eq_false]; exact ⟨r, hrm, by rw [e]; exact Bool.false_ne_true⟩
            rw [this]; rfl
          apply rn_seq
          refine rn_if (b := !isT r "list" || (!decide (((itemsD r).length : Int) = (row0.length : Int)) || !((itemsD r).all isNum))) ?_ ?_ ?_
          · refine eb_or (eb_not (eb_B (ev_isT (by walk_at "ev") (by simp)))) fun h1 => ?_
            have hrl := isT_list (d := r) (by simpa using h1)
            generalize itemsD r = its at hrl
            subst hrl
            refine eb_or (eb_test (K := K) ?_) fun h2 => eb_not (eb_B (K := K) ?_)
            · have k1 := ev_lenLD (K := K) (Γ := [.as (Dt K (.list rows)), .ow (OL ((((rows.take i).flatMap fun r => (itemsD r).map numD).map PyData.int).map (Dt K))), .as (Dt K (.list its)), .un]) (el_dt (ds := its) (ev_var (i := 2) rfl))
              have k2 := ev_lenLD (K := K) (Γ := [.as (Dt K (.list rows)), .ow (OL ((((rows.take i).flatMap fun r => (itemsD r).map numD).map PyData.int).map (Dt K))), .as (Dt K (.list its)), .un]) (el_dt (ds := row0) (ev_ixLD (el_dt (ds := rows) (ev_var (i := 0) rfl)) (ev_int (i := 0)) (at_nat (j := 0) (by rw [h00, hr0l]) rfl)))
              have k := ev_neI k1 k2
              simpa using k
            · refine (ev_all (bs := its.map isNum) (el_w ?_)).is (by rw [List.all_map]; rfl)
              have k := ew_lcM (K := K) its (Dt K) (fun x => .bool (isNum x)) (wi := iList K (tVar 2)) (g := gName 3) (vs := [3]) (te := tCall (SpD 1 (R_is_number K)) [] L2.E0 (tCons (tVar 3) tNil)) (Γ := [.as (Dt K (.list rows)), .ow (OL ((((rows.take i).flatMap fun r => (itemsD r).map numD).map PyData.int).map (Dt K))), .as (Dt K (.list its)), .un])
                (ei_listD (ev_var rfl)) (gw_name (by decide)) (by have := hs2 _ hrm; simp only [itemsD] at this; omega) fun x hx => ⟨_, eg_name, ev_call (as := [Dt K x]) (es_cons (ev_var rfl) es_nil) ⟨x, rfl, rfl⟩ rfl⟩
              have e : (its.map isNum).map PyData.bool = its.map fun x => PyData.bool (isNum x) := by rw [List.map_map]; rfl
              rw [e]
              exact k
          · intro hb
            refine fun D σ H Hf s q => hEx (hno (hbad ?_)) (sb.b s.b)
            unfold rowOkM
            cases h1 : isT r "list" with
            | false => rfl
            | true =>
              rw [h1] at hb
              by_cases h2 : (itemsD r).length = row0.length
              · cases h3 : (itemsD r).all isNum with
                | false => simp
                | true => rw [h3] at hb; simp [h2] at hb
              · rw [decide_eq_false h2]; rfl
          · intro hb
            have hok : isT r "list" = true ∧ (itemsD r).length = row0.length ∧ (itemsD r).all isNum = true := by
              simp only [Bool.or_eq_false_iff, Bool.not_eq_false', decide_eq_true_eq] at hb
              exact ⟨hb.1, by omega, hb.2.2⟩
            obtain ⟨o1, o2, o3⟩ := hok
            have hrl := isT_list o1
            have hnm := nums_map o3
            have hrow : rowOkM row0.length r = true := by unfold rowOkM; rw [o1, decide_eq_true o2, o3]; rfl
            have htk : rows.take (i + 1) = rows.take i ++ [r] := by rw [List.take_add_one, hr']; rfl
            have hlen2 : ((rows.take i).flatMap fun r => (itemsD r).map numD).length ≤ 6 * row0.length := by
              rw [flat_len (w := row0.length) fun r hr => rowOk_len (List.all_eq_true.mp hpre r hr), List.length_take]
              exact Nat.mul_le_mul_right _ (by omega)
            apply rn_next
            dsimp only
            generalize itemsD r = its at *
            subst hrl
            refine rn_extend (bs := ((its.map numD).map PyData.int).map (Dt K)) rfl (by rw [← hnm]; exact el_dt (ev_var rfl)) (by
              simp only [List.length_map, sizeLine_eq]
              have := hs2 _ (List.mem_of_getElem? h00)
              rw [hr0l] at this
              simp only [itemsD] at this
              omega) ?_
            refine ⟨[.as (Dt K (.list rows)), .ow (OL ((((rows.take (i + 1)).flatMap fun r => (itemsD r).map numD).map PyData.int).map (Dt K))), .un, .un], ?_, ?_, rfl⟩
            rotate_left
            · rw [htk, List.all_append, hpre]
              simpa using hrow
            · have e : (((rows.take (i + 1)).flatMap fun r => (itemsD r).map numD).map PyData.int).map (Dt K) = (((rows.take i).flatMap fun r => (itemsD r).map numD).map PyData.int).map (Dt K) ++ ((its.map numD).map PyData.int).map (Dt K) := by
                rw [htk, List.flatMap_append, List.map_append, List.map_append]
                simp [itemsD]
              rw [e]
              walk_at "gle"
      · rintro Γ1 ⟨hall, rfl⟩
        rw [List.length_map, List.take_of_length_le (Nat.le_refl _)] at hall
        simp only [List.length_map, List.take_of_length_le (Nat.le_refl _)]
        generalize hns : (rows.flatMap fun r => (itemsD r).map numD) = ns at hask ⊢
        have hnl : ns.length = rows.length * row0.length := by
          rw [← hns]; exact flat_len fun r hr => rowOk_len (List.all_eq_true.mp hall r hr)
        have kl := ev_lenLD (K := K) (Γ := [.as (Dt K (.list rows)), .ow (OL ((ns.map PyData.int).map (Dt K))), .un, .un]) (el_dt (ds := row0) (ev_ixLD (el_dt (ds := rows) (ev_var (i := 0) rfl)) (ev_int (i := 0)) (at_nat (j := 0) (by rw [h00, hr0l]) rfl)))
        have kn := ev_lenLD (K := K) (Γ := [.as (Dt K (.list rows)), .ow (OL ((ns.map PyData.int).map (Dt K))), .un, .un]) (el_ow (i := 1) rfl)
        simp only [List.length_map] at kl kn
        refine rn_if (b := !(decide (1 ≤ (row0.length : Int)) && decide ((row0.length : Int) ≤ 6)) || !decide (srt ns = upto ns.length)) ?_ ?_ ?_
        · refine eb_or (eb_not (eb_test (ev_chain (g := fun i j => decide (i ≤ j)) (g' := fun i j => decide (i ≤ j)) ev_int kl ev_int))) fun h1 => eb_test (K := K) ?_
          have hw6 : 1 ≤ row0.length ∧ row0.length ≤ 6 := by simp at h1; omega
          have hb36 : ns.length ≤ 36 := by rw [hnl]; exact Nat.mul_le_mul hlen.2 hw6.2
          have k1 := ev_fixD (ew_sorted (K := K) (ns := ns) (ns0 := srt ns) (el_ow (i := 1) (Γ := [.as (Dt K (.list rows)), .ow (OL ((ns.map PyData.int).map (Dt K))), .un, .un]) rfl) (by omega) (srt_perm _) (srt_sorted _))
          have k2 := ev_fixD (ew_listRg kn (by omega))
          rw [Int.toNat_natCast] at k2
          exact (ev_neD k1 k2 (sh_DI.shaped (srt ns)) (sh_DI.shaped (upto ns.length))).is (by rw [show PyData.eqv (.list ((srt ns).map PyData.int)) (.list (((List.range ns.length).map fun i => ((i : Nat) : Int)).map PyData.int)) = _ from eq_DI (srt ns) (upto ns.length)])
        · intro hb
          refine fun D σ H Hf s q => hEx (hno ?_) s.b
          rw [hask, hall]
          by_cases h1 : 1 ≤ row0.length ∧ row0.length ≤ 6
          · have h2 : ¬ srt ns = upto ns.length := fun e => by simp [e] at hb; omega
            rw [decide_eq_false h2, Bool.and_false]
          · rw [decide_eq_false h1]; rfl
        · intro hb
          simp at hb
          have hy := hyes (by rw [hask, hall, decide_eq_true (show 1 ≤ row0.length ∧ row0.length ≤ 6 by omega), decide_eq_true hb.2]; rfl)
          apply rn_next
          rw [hy]
          exact fun _ => .non
  · apply rn_seq
    refine rn_if (b := true) ?_ (fun _ D σ H Hf s q => hE s.b) fun h => nomatch h
    exact eb_or (c := true) (d := true) (eb_not (c := false) (eb_B (ev_isX (by walk_at "ev") hT hk))) fun h => nomatch h
end
abbrev s_moved : Stmt := topS 15
theorem sc_moved : FnScope ["tray", "slides", "found"] ["tray", "slides"] (defScope s_moved) :=
  ⟨rfl, rfl, rfl, by decide +kernel, rfl, by decide +kernel, by decide +kernel⟩
abbrev s_ways : Stmt := topS 16
theorem sc_ways : FnScope ["tray", "letter"] ["tray"] (defScope s_ways) :=
  ⟨rfl, rfl, rfl, by decide +kernel, rfl, by decide +kernel, by decide +kernel⟩
abbrev s_asked_slides : Stmt := topS 17
theorem sc_asked_slides : FnScope ["slides", "letter"] ["slides"] (defScope s_asked_slides) :=
  ⟨rfl, rfl, rfl, by decide +kernel, rfl, by decide +kernel, by decide +kernel⟩
abbrev s_undone : Stmt := topS 18
theorem sc_undone : FnScope ["slides", "letter"] ["slides"] (defScope s_undone) :=
  ⟨rfl, rfl, rfl, by decide +kernel, rfl, by decide +kernel, by decide +kernel⟩
abbrev s_thinned : Stmt := topS 19
theorem sc_thinned : FnScope ["slides", "found", "letter"] ["slides"] (defScope s_thinned) :=
  ⟨rfl, rfl, rfl, by decide +kernel, rfl, by decide +kernel, by decide +kernel⟩
/-- a tray as the document says -/
structure TrayOk (t : List (List Int)) (W : Nat) : Prop where
  len : 1 ≤ t.length ∧ t.length ≤ 6
  wid : 1 ≤ W ∧ W ≤ 6
  rect : Rect t W
  perm : t.flatten.Perm (upto (t.length * W))
theorem upto_mem {n : Nat} {x : Int} : x ∈ upto n ↔ 0 ≤ x ∧ x < (n : Int) := by
  unfold upto
  rw [List.mem_map]
  constructor
  · rintro ⟨i, hi, rfl⟩
    have := List.mem_range.mp hi
    omega
  · rintro ⟨h1, h2⟩
    exact ⟨x.toNat, List.mem_range.mpr (by omega), by omega⟩
theorem upto_len (n : Nat) : (upto n).length = n := by unfold upto; rw [List.length_map, List.length_range]
theorem flatten_len {t : List (List Int)} {W : Nat} : Rect t W → t.flatten.length = t.length * W := by
  induction t with
  | nil => intro _; simp
  | cons r t ih =>
    intro h
    rw [List.flatten_cons, List.length_append, ih (fun x hx => h x (List.mem_cons_of_mem _ hx)), h r (by simp), List.length_cons, Nat.succ_mul, Nat.add_comm]
theorem TrayOk.has {t : List (List Int)} {W : Nat} (h : TrayOk t W) {x : Int} (h1 : 0 ≤ x) (h2 : x < ((t.length * W : Nat) : Int)) : Has t x := by
  have : x ∈ t.flatten := h.perm.mem_iff.mpr (upto_mem.mpr ⟨h1, h2⟩)
  obtain ⟨r, hr, hx⟩ := List.mem_flatten.mp this
  exact ⟨r, hr, hx⟩
theorem TrayOk.pos {t : List (List Int)} {W : Nat} (h : TrayOk t W) : 0 < t.length * W := Nat.mul_pos h.len.1 h.wid.1
theorem TrayOk.has0 {t : List (List Int)} {W : Nat} (h : TrayOk t W) : Has t 0 := h.has (by omega) (by have := h.pos; omega)
theorem isT_DI (r : List Int) : isT (DI r) "list" = true := rfl
theorem numD_ints (r : List Int) : (r.map PyData.int).map numD = r := by
  rw [List.map_map]
  conv => rhs; rw [← List.map_id r]
  rfl
theorem TrayOk.ask {t : List (List Int)} {W : Nat} (h : TrayOk t W) : askM (DT t) = true := by
  have h0 : (t.map DI).getD 0 .none = DI (t.getD 0 []) := by
    have := h.len
    rw [List.getD_eq_getElem?_getD, List.getElem?_map, getq [] (show 0 < t.length by omega)]; rfl
  have hw : (t.getD 0 []).length = W := h.rect _ (getD_mem (by have := h.len; omega))
  have hf : ((t.map DI).flatMap fun r => (itemsD r).map numD) = t.flatten := by
    rw [List.flatMap_map, List.flatten_eq_flatMap]
    congr 1
    funext r
    exact numD_ints r
  show askM (.list (t.map DI)) = true
  rw [askM_list, h0, hf, List.length_map]
  have hi : (itemsD (DI (t.getD 0 []))).length = W := by rw [← hw]; exact List.length_map ..
  rw [hi, decide_eq_true h.len, isT_DI, decide_eq_true h.wid]
  have hall : (t.map DI).all (rowOkM W) = true := by
    rw [List.all_map, List.all_eq_true]
    intro r hr
    show rowOkM W (DI r) = true
    unfold rowOkM
    rw [isT_DI, decide_eq_true (show (itemsD (DI r)).length = W by rw [← h.rect r hr]; exact List.length_map ..)]
    show (true && true && (r.map PyData.int).all isNum) = true
    rw [List.all_map]
    simp [isNum, isT]
  rw [hall, decide_eq_true (show srt t.flatten = upto t.flatten.length by rw [flatten_len h.rect]; exact srt_upto h.perm)]
  rfl
theorem small_DT {t : List (List Int)} {W : Nat} (h : TrayOk t W) : Small (DT t) := by
  refine ⟨by rw [List.length_map]; have := h.len; omega, fun r hr => ?_⟩
  obtain ⟨x, hx, rfl⟩ := List.mem_map.mp hr
  show (x.map PyData.int).length ≤ 1000
  rw [List.length_map, h.rect x hx]
  have := h.wid; omega
section
variable {P : Program} {w : World} {K : PySem.W.Frag} {mg : Str → Option Value} {base : Heap} {Γ : List Sl} {c : Cb} {k : Kt}
theorem asked_ok {t : List (List Int)} {W : Nat} {CB : Addr} (h : TrayOk t W) : R_asked_tray K CB [Dt K (DT t)] (.ret (Dt K .none)) := .inl ⟨DT t, rfl, small_DT h, by rw [h.ask]; rfl⟩
theorem ew_if {tt : TT} {ta tb : TE} {b : Bool} {z : Ow} (h : EvB tt Γ b) (h1 : b = true → EvW ta Γ z) (h2 : b = false → EvW tb Γ z) : EvW (tIf tt ta tb) Γ z := fun Hf H σ A e Q q => h Hf H σ A e _ fun Hf1 H1 e1 => by
  cases b with
  | true => exact iteT (h1 rfl Hf1 H1 σ A (e.ext e1) _ fun v2 Hf2 H2 B e2 hB p2 => q v2 Hf2 H2 B (e1.trans e2) (fun a ha => e1.h.free (hB a ha)) p2)
  | false => exact iteF (h2 rfl Hf1 H1 σ A (e.ext e1) _ fun v2 Hf2 H2 B e2 hB p2 => q v2 Hf2 H2 B (e1.trans e2) (fun a ha => e1.h.free (hB a ha)) p2)
/-- what is no tray: some data, or a thing of another type -/
def BadTrayA (K : PySem.W.Frag) (a : As) : Prop := (∃ d, a = Dt K d ∧ Small d ∧ askM d = false) ∨ (∃ T, (∀ H v, a.p H v → TyX K H v (.type T)) ∧ kitB T "list" = some false)
theorem asked_bad {a : As} {CB : Addr} (h : BadTrayA K a) : R_asked_tray K CB [a] (.exc CB) := by
  rcases h with ⟨d, rfl, h1, h2⟩ | ⟨T, h1, h2⟩
  · exact .inl ⟨d, rfl, h1, by rw [h2]; rfl⟩
  · exact .inr ⟨a, T, rfl, h1, h2, rfl⟩
def NoStr (K : PySem.W.Frag) (a : As) : Prop := ∃ T, (∀ H v, a.p H v → TyX K H v (.type T)) ∧ kitB T "str" = some false
def R_moved (K : PySem.W.Frag) (CB CS : Addr) (as : List As) (o : Outc) : Prop :=
  (∃ a b, as = [a, b] ∧ BadTrayA K a ∧ o = .exc CB) ∨
  (∃ t W b, as = [Dt K (DT t), b] ∧ TrayOk t W ∧ NoStr K b ∧ o = .exc CS) ∨
  (∃ t W l, as = [Dt K (DT t), Dt K (DS l)] ∧ TrayOk t W ∧ (∀ c ∈ l, Lett c) ∧ l.length ≤ 1000000 ∧ o = match slidAllM t l with | none => .exc CS | some t' => .own (OT K t'))
theorem ok_moved {f : Addr} {fd : FuncData} {CB CS : Addr} (F : L2.Fun K "moved" "moved" s_moved f fd) (c_asked_tray : Cl P w K mg base (L2.CX P w) 2 "asked_tray" (SpD 1 (R_asked_tray K CB))) (c_slid_all : Cl P w K mg base L2.CX0 3 "slid_all" (SpD 2 (R_slid_all K))) (r_BadSlides : ExcOk K mg "BadSlides" CS)
    (n_isinstance : mg "isinstance" = none) (n_str : mg "str" = none) : FnOk P w K mg base (L2.CX P w) 4 f fd ["tray", "slides"] (SpD 2 (R_moved K CB CS)) := by
  refine def_okX F sc_moved rfl fun cdv A outer s Hf H as o E hr hR hE => ?_
  refine ⟨_, (pss_cons (ps_expr (by exact (pe_clX c_asked_tray hr (by decide) (by rfl) (takes_of rfl rfl rfl rfl) (pa_cons (pv 0) pa_nil))))
      (pss_cons (ps_set (i := 2) sc_moved.nd rfl (by first | exact Or.inl rfl | exact Or.inr rfl) (pe_ifExp (pt_val (by exact (pe_callB (call_isiK' K) (by rfl) n_isinstance (by decide +kernel) (pa_cons (pv 1) (pa_cons (pe_bltn (v := .ty "str") (by rfl) n_str (by decide +kernel) rfl) pa_nil))))) (by exact (pe_cl c_slid_all hr (by decide) (by rfl) (pa_cons (pv 0) (pa_cons (pv 1) pa_nil)))) pe_non))
      (pss_cons (ps_if (pt_cmpR op_isNone (pv 2) pe_non (nomark _)) (pss_one (ps_raise rfl (takes_of rfl rfl rfl rfl) (pmk_own PySem.F.excBase_ValueError r_BadSlides.xq r_BadSlides.gC r_BadSlides.kC (raises_own r_BadSlides.bC r_BadSlides.tC) (by exact rfl)))) pss_nil)
      (pss_one (ps_ret (pv 2)))))), ?_⟩
  rcases hR with ⟨a, b, rfl, hb, rfl⟩ | ⟨t, W, b, rfl, ht, ⟨T, hT, hk⟩, rfl⟩ | ⟨t, W, l, rfl, ht, hl, hll, ho⟩
  · apply rn_seq
    exact rn_dropR (C := CB) (er_callS (as := [a]) (es_cons (ev_var rfl) es_nil) (asked_bad hb) rfl) fun s => hE s.b
  · apply rn_seq
    refine rn_drop (ev_callS (as := [Dt K (DT t)]) (es_cons (ev_var rfl) es_nil) (asked_ok ht) rfl) ?_
    apply rn_seq
    refine rn_asg (a := Dt K .none) (ev_if (c := false) (eb_B (ev_isX (ev_var rfl) hT hk)) (fun h => nomatch h) fun _ => ev_non) ?_
    dsimp only
    apply rn_seq
    refine rn_if (b := true) (eb_test (K := K) ?_) (fun _ D σ H Hf s q => hE s.b) fun h => nomatch h
    exact ev_isNone (d := .none) (ev_var rfl) ev_non
  · apply rn_seq
    refine rn_drop (ev_callS (as := [Dt K (DT t)]) (es_cons (ev_var rfl) es_nil) (asked_ok ht) rfl) ?_
    apply rn_seq
    have hR : ∀ o', o' = optT K (slidAllM t l) → R_slid_all K [Dt K (DT t), Dt K (DS l)] o' := fun o' e => ⟨t, l, W, rfl, ht.has0, ht.rect, by have := ht.len; omega, by have := ht.wid; omega, hll, hl, e⟩
    have hi : EvB (tB (tCB (rIsi K) (tCons (tVar 1) (tCons (tC (V.ty "str")) tNil)))) (G0 3 [Dt K (DT t), Dt K (DS l)]) true := eb_B (ev_isT (d := DS l) (ev_var rfl) (by simp))
    cases hs : slidAllM t l with
    | none =>
      rw [hs] at ho
      subst ho
      refine rn_asg (a := Dt K .none) (ev_if hi (fun _ => ev_call (as := [Dt K (DT t), Dt K (DS l)]) (es_cons (ev_var rfl) (es_cons (ev_var rfl) es_nil)) (hR _ (by rw [hs]; rfl)) rfl) fun h => nomatch h) ?_
      dsimp only
      apply rn_seq
      refine rn_if (b := true) (eb_test (K := K) ?_) (fun _ D σ H Hf s q => hE s.b) fun h => nomatch h
      exact ev_isNone (d := .none) (ev_var rfl) ev_non
    | some t' =>
      rw [hs] at ho
      subst ho
      refine rn_asgW (w := OT K t') (ew_if hi (fun _ => ew_call (as := [Dt K (DT t), Dt K (DS l)]) (es_cons (ev_var rfl) (es_cons (ev_var rfl) es_nil)) (hR _ (by rw [hs]; rfl)) rfl) fun h => nomatch h) ?_
      dsimp only
      apply rn_seq
      refine rn_if (b := false) (eb_test (K := K) ?_) (fun h => nomatch h) fun _ => ?_
      · exact eb_isNoneO (tr := t') rfl ev_non
      apply rn_next
      dsimp only
      exact rn_retO rfl fun _ _ _ _ h => h
theorem sing_flat (l : List Nat) : (l.map fun c => [c]).flatten = l := by induction l <;> simp_all
def waysM (t : List (List Int)) : List Nat := [117, 100, 108, 114].filter fun c => (slidM t c).isSome
def R_ways (K : PySem.W.Frag) (CB : Addr) (as : List As) (o : Outc) : Prop :=
  (∃ a, as = [a] ∧ BadTrayA K a ∧ o = .exc CB) ∨ (∃ t W, as = [Dt K (DT t)] ∧ TrayOk t W ∧ o = .ret (Dt K (DS (waysM t))))
theorem ok_ways {f : Addr} {fd : FuncData} {CB : Addr} (F : L2.Fun K "ways" "ways" s_ways f fd) (c_asked_tray : Cl P w K mg base (L2.CX P w) 2 "asked_tray" (SpD 1 (R_asked_tray K CB))) (c_slid : Cl P w K mg base L2.CX0 2 "slid" (SpD 2 (R_slid K))) : FnOk P w K mg base (L2.CX P w) 3 f fd ["tray"] (SpD 1 (R_ways K CB)) := by
  refine def_okX F sc_ways rfl fun cdv A outer s Hf H as o E hr hR hE => ?_
  refine ⟨_, (pss_cons (ps_expr (by exact (pe_clX c_asked_tray hr (by decide) (by rfl) (takes_of rfl rfl rfl rfl) (pa_cons (pv 0) pa_nil))))
      (pss_one (ps_ret (pe_joinK K pe_str (pe_lc (own := [("letter", 1)]) (g := (gName 1)) (by rfl) sc_ways.nd (pi_str pe_str) (blkOk_by (N := ["tray", "letter"]) (sc := defScope s_ways) (own := [("letter", 1)]) (by decide +kernel)) (fun _ _ _ _ _ => (pg_name (i := 1) sc_ways.nd rfl (by first | exact Or.inl rfl | exact Or.inr rfl))) (fun _ _ _ _ _ => (pts_one (pt_cmpR op_notNone (by exact (pe_cl c_slid hr (by decide) (by rfl) (pa_cons (pv 0) (pa_cons (pv 1) pa_nil)))) pe_non (nomark _)))) (fun _ _ _ _ _ => (pv 1))))))), ?_⟩
  rcases hR with ⟨a, rfl, hb, rfl⟩ | ⟨t, W, rfl, ht, rfl⟩
  · apply rn_seq
    exact rn_dropR (C := CB) (er_callS (as := [a]) (es_cons (ev_var rfl) es_nil) (asked_bad hb) rfl) fun s => hE s.b
  · apply rn_seq
    refine rn_drop (ev_callS (as := [Dt K (DT t)]) (es_cons (ev_var rfl) es_nil) (asked_ok ht) rfl) ?_
    refine rn_ret (a := Dt K (DS (waysM t))) ?_ (As.le_refl _)
    have k := ew_lcP (K := K) (Γ := G0 2 [Dt K (DT t)]) (wi := iStr (tC (V.str "udlr"))) (g := gName 1) (vs := [1]) (tt := tTest (tOp rNotNone (tCall (SpD 2 (R_slid K)) [] L2.E0 (tCons (tVar 0) (tCons (tVar 1) tNil))) (tC V.non))) (te := tVar 1) [117, 100, 108, 114] (fun c => Dt K (.str ⟨#[c]⟩)) (fun c => (slidM t c).isSome) (fun c => DS [c])
      (ei_str (K := K) (x := "udlr") ev_str) (gw_name (by decide)) (by decide) (fun c hc => ⟨_, eg_name, ?_, fun _ => ev_var rfl⟩)
    · have e : (([117, 100, 108, 114].filter fun c => (slidM t c).isSome).map fun c => DS [c]) = ((waysM t).map fun c => [c]).map DS := by rw [List.map_map]; rfl
      rw [e] at k
      have j := ev_join (K := K) (to := tC (V.str "")) (ls := (waysM t).map fun c => [c]) ev_str (el_w k) (by
        rw [sing_flat]
        exact Nat.le_trans (List.length_filter_le _ _) (by decide))
      rw [sing_flat] at j
      exact j
    · have hst : (stepOf c).isSome = true := by
        simp at hc
        rcases hc with rfl | rfl | rfl | rfl <;> rfl
      have hR : ∀ o', o' = optT K (slidM t c) → R_slid K [Dt K (DT t), Dt K (.str ⟨#[c]⟩)] o' := fun o' e => ⟨t, c, W, rfl, ht.has0, ht.rect, by have := ht.len; omega, by have := ht.wid; omega, hst, e⟩
      cases hs : slidM t c with
      | none => exact eb_test (K := K) (ev_notNone (d := .none) (ev_call (as := [Dt K (DT t), Dt K (.str ⟨#[c]⟩)]) (es_cons (ev_var rfl) (es_cons (ev_var rfl) es_nil)) (hR _ (by rw [hs]; rfl)) rfl) ev_non)
      | some t' => exact eb_test (K := K) (ev_notNone (d := DT t') (ev_fixOT (ew_call (as := [Dt K (DT t), Dt K (.str ⟨#[c]⟩)]) (es_cons (ev_var rfl) (es_cons (ev_var rfl) es_nil)) (hR _ (by rw [hs]; rfl)) rfl)) ev_non)
theorem in_stepsB {a : Addr} (hS : StepsOk w K a) {c : Nat} (hc : Lett c) : ∃ o, PySem.W.nsIn K a ⟨#[c]⟩ = some o ∧ o.isSome = (stepOf c).isSome := in_steps hS hc
def R_asked_slides (K : PySem.W.Frag) (CS : Addr) (as : List As) (o : Outc) : Prop :=
  (∃ a, as = [a] ∧ NoStr K a ∧ o = .exc CS) ∨ (∃ l, as = [Dt K (DS l)] ∧ (∀ c ∈ l, Lett c) ∧ l.length ≤ 1000000 ∧ o = if (l.all fun c => (stepOf c).isSome) = true then .ret (Dt K .none) else .exc CS)
theorem ok_asked_slides {f : Addr} {fd : FuncData} {CS a_STEPS : Addr} (F : L2.Fun K "asked_slides" "asked_slides" s_asked_slides f fd) (g_STEPS : mg "STEPS" = some (.ref a_STEPS)) (hS : StepsOk w K a_STEPS) (r_BadSlides : ExcOk K mg "BadSlides" CS)
    (n_isinstance : mg "isinstance" = none) (n_str : mg "str" = none) (n_all : mg "all" = none) : FnOk P w K mg base (L2.CX P w) 1 f fd ["slides"] (SpD 1 (R_asked_slides K CS)) := by
  refine def_okX F sc_asked_slides rfl fun cdv A outer s Hf H as o E hr hR hE => ?_
  obtain ⟨es, n, kd_STEPS⟩ := hS.kd
  refine ⟨_, (pss_one (ps_if (PW.pt (pw_or (pt_not (pt_val (by exact (pe_callB (call_isiK' K) (by rfl) n_isinstance (by decide +kernel) (pa_cons (pv 0) (pa_cons (pe_bltn (v := .ty "str") (by rfl) n_str (by decide +kernel) rfl) pa_nil)))))) (pw_or1 (pt_not (pt_val (by exact (pe_callB (cr_allK K) (by rfl) n_all (by decide +kernel) (pa_cons (pe_lc (own := [("letter", 1)]) (g := (gName 1)) (by rfl) sc_asked_slides.nd (pi_str (pv 0)) (blkOk_by (N := ["slides", "letter"]) (sc := defScope s_asked_slides) (own := [("letter", 1)]) (by decide +kernel)) (fun _ _ _ _ _ => (pg_name (i := 1) sc_asked_slides.nd rfl (by first | exact Or.inl rfl | exact Or.inr rfl))) (fun _ _ _ _ _ => pts_nil) (fun _ _ _ _ _ => (pe_cmpR (op_inKd K w kd_STEPS) (pv 1) (pe_glob (v := .ref a_STEPS) (by rfl) g_STEPS rfl) (by rfl)))) pa_nil)))))))) (pss_one (ps_raise rfl (takes_of rfl rfl rfl rfl) (pmk_own PySem.F.excBase_ValueError r_BadSlides.xq r_BadSlides.gC r_BadSlides.kC (raises_own r_BadSlides.bC r_BadSlides.tC) (by exact rfl)))) pss_nil)), ?_⟩
  rcases hR with ⟨a, rfl, ⟨T, hT, hk⟩, rfl⟩ | ⟨l, rfl, hl, hll, ho⟩
  · refine rn_if (b := true) ?_ (fun _ D σ H Hf s q => hE s.b) fun h => nomatch h
    exact eb_or (c := true) (d := true) (eb_not (c := false) (eb_B (ev_isX (ev_var rfl) hT hk))) fun h => nomatch h
  · have k := ew_lcM (K := K) (Γ := G0 2 [Dt K (DS l)]) (wi := iStr (tVar 0)) (g := gName 1) (vs := [1]) (te := tOp (rInK K a_STEPS) (tVar 1) (tC (.ref a_STEPS))) l (fun c => Dt K (.str ⟨#[c]⟩)) (fun c => .bool (stepOf c).isSome)
      (ei_str (K := K) (x := SX.S l) (ev_var rfl)) (gw_name (by decide)) (by omega) (fun c hc => ⟨_, eg_name, (by
        obtain ⟨ov, h1, h2⟩ := in_steps hS (hl c hc)
        rw [← h2]
        exact ev_inK (ev_var rfl) h1)⟩)
    have e : (l.map fun c => PyData.bool (stepOf c).isSome) = (l.map fun c => (stepOf c).isSome).map PyData.bool := by rw [List.map_map]; rfl
    rw [e] at k
    refine rn_if (b := !true || !(l.all fun c => (stepOf c).isSome)) (eb_or (eb_not (eb_B (ev_isT (d := DS l) (ev_var rfl) (by simp)))) fun _ => eb_not (eb_B ((ev_all (el_w k)).is (by rw [List.all_map]; rfl)))) ?_ ?_
    · intro hb
      have hf : (l.all fun c => (stepOf c).isSome) = false := by simpa using hb
      rw [hf] at ho
      subst ho
      exact fun D σ H Hf s q => hE s.b
    · intro hb
      have hf : (l.all fun c => (stepOf c).isSome) = true := by
        cases h : (l.all fun c => (stepOf c).isSome) with
        | true => rfl
        | false => rw [h] at hb; cases hb
      rw [hf] at ho
      subst ho
      apply rn_next
      exact fun _ => .non
def backOf (c : Nat) : Nat := if c = 117 then 100 else if c = 100 then 117 else if c = 108 then 114 else if c = 114 then 108 else c
structure BackOk (w : World) (K : PySem.W.Frag) (d : Addr) : Prop where
  it : ∀ c, (stepOf c).isSome = true → KDct K w d ⟨#[c]⟩ (.str ⟨#[backOf c]⟩)
def undoM (l : List Nat) : List Nat := l.reverse.map backOf
def R_undone (K : PySem.W.Frag) (CS : Addr) (as : List As) (o : Outc) : Prop :=
  (∃ a, as = [a] ∧ NoStr K a ∧ o = .exc CS) ∨ (∃ l, as = [Dt K (DS l)] ∧ (∀ c ∈ l, Lett c) ∧ l.length ≤ 1000000 ∧ o = if (l.all fun c => (stepOf c).isSome) = true then .ret (Dt K (DS (undoM l))) else .exc CS)
theorem ok_undone {f : Addr} {fd : FuncData} {CS a_BACK : Addr} (F : L2.Fun K "undone" "undone" s_undone f fd) (c_asked_slides : Cl P w K mg base (L2.CX P w) 1 "asked_slides" (SpD 1 (R_asked_slides K CS))) (g_BACK : mg "BACK" = some (.ref a_BACK)) (hB : BackOk w K a_BACK) :
    FnOk P w K mg base (L2.CX P w) 2 f fd ["slides"] (SpD 1 (R_undone K CS)) := by
  refine def_okX F sc_undone rfl fun cdv A outer s Hf H as o E hr hR hE => ?_
  refine ⟨_, (pss_cons (ps_expr (by exact (pe_clX c_asked_slides hr (by decide) (by rfl) (takes_of rfl rfl rfl rfl) (pa_cons (pv 0) pa_nil))))
      (pss_one (ps_ret (pe_joinK K pe_str (pe_lc (own := [("letter", 1)]) (g := (gName 1)) (by rfl) sc_undone.nd (pi_str (pe_revS (pv 0))) (blkOk_by (N := ["slides", "letter"]) (sc := defScope s_undone) (own := [("letter", 1)]) (by decide +kernel)) (fun _ _ _ _ _ => (pg_name (i := 1) sc_undone.nd rfl (by first | exact Or.inl rfl | exact Or.inr rfl))) (fun _ _ _ _ _ => pts_nil) (fun _ _ _ _ _ => (pe_ix (ix_kdK K w) (pe_glob (v := .ref a_BACK) (by rfl) g_BACK rfl) (pv 1) (fun _ _ => rfl)))))))), ?_⟩
  apply rn_seq
  rcases hR with ⟨a, rfl, hk, rfl⟩ | ⟨l, rfl, hl, hll, ho⟩
  · exact rn_dropR (C := CS) (er_callS (as := [a]) (es_cons (ev_var rfl) es_nil) (.inl ⟨a, rfl, hk, rfl⟩) rfl) fun s => hE s.b
  · cases hf : (l.all fun c => (stepOf c).isSome) with
    | false =>
      rw [hf] at ho
      subst ho
      exact rn_dropR (C := CS) (er_callS (as := [Dt K (DS l)]) (es_cons (ev_var rfl) es_nil) (.inr ⟨l, rfl, hl, hll, by rw [hf]; rfl⟩) rfl) fun s => hE s.b
    | true =>
      rw [hf] at ho
      subst ho
      refine rn_drop (ev_callS (as := [Dt K (DS l)]) (es_cons (ev_var rfl) es_nil) (.inr ⟨l, rfl, hl, hll, by rw [hf]; rfl⟩) rfl) ?_
      refine rn_ret (a := Dt K (DS (undoM l))) ?_ (As.le_refl _)
      have k := ew_lcM (K := K) (Γ := G0 2 [Dt K (DS l)]) (wi := iStr (tRevS (tVar 0))) (g := gName 1) (vs := [1]) (te := tOp (rIxD K w) (tC (.ref a_BACK)) (tVar 1)) l.reverse (fun c => Dt K (.str ⟨#[c]⟩)) (fun c => DS [backOf c])
        (ei_str (K := K) (x := SX.S l.reverse) (ev_revS (x := SX.S l) (ev_var rfl) (by rw [SX.S_len, sizeLine_eq]; omega))) (gw_name (by decide)) (by rw [List.length_reverse]; omega) (fun c hc => ⟨_, eg_name, (by
          exact ev_kd (hB.it c (List.all_eq_true.mp hf c (List.mem_reverse.mp hc))) (fun H => .str _) (ev_var rfl))⟩)
      have e : (l.reverse.map fun c => DS [backOf c]) = ((undoM l).map fun c => [c]).map DS := by rw [List.map_map, undoM, List.map_map]; rfl
      rw [e] at k
      have j := ev_join (K := K) (to := tC (V.str "")) (ls := (undoM l).map fun c => [c]) ev_str (el_w k) (by
        rw [sing_flat, undoM, List.length_map, List.length_reverse]; omega)
      rw [sing_flat] at j
      exact j
def pushM (st : List Nat) (c : Nat) : List Nat := if st ≠ [] ∧ st.getLast? = some (backOf c) then st.dropLast else st ++ [c]
def thinM (l : List Nat) : List Nat := l.foldl pushM []
theorem push_len (st : List Nat) (c : Nat) : (pushM st c).length ≤ st.length + 1 := by
  unfold pushM
  split
  · rw [List.length_dropLast]; omega
  · simp
theorem fold_len : ∀ (l st : List Nat), (l.foldl pushM st).length ≤ st.length + l.length
  | [], st => by simp
  | c :: l, st => by
    have h1 := fold_len l (pushM st c)
    have h2 := push_len st c
    simp only [List.foldl_cons, List.length_cons]; omega
theorem fold_mem {p : Nat → Prop} : ∀ (l st : List Nat), (∀ c ∈ l, p c) → (∀ c ∈ st, p c) → ∀ c ∈ l.foldl pushM st, p c
  | [], st, _, h => h
  | c :: l, st, hl, hs => by
    refine fold_mem l (pushM st c) (fun x hx => hl x (by simp [hx])) ?_
    intro x hx
    unfold pushM at hx
    split at hx
    · exact hs x ((List.dropLast_sublist st).mem hx)
    · rcases List.mem_append.mp hx with h | h
      · exact hs x h
      · obtain rfl : x = c := by simpa using h
        exact hl x (by simp)
def R_thinned (K : PySem.W.Frag) (CS : Addr) (as : List As) (o : Outc) : Prop :=
  (∃ a, as = [a] ∧ NoStr K a ∧ o = .exc CS) ∨ (∃ l, as = [Dt K (DS l)] ∧ (∀ c ∈ l, Lett c) ∧ l.length ≤ 1000000 ∧ o = if (l.all fun c => (stepOf c).isSome) = true then .ret (Dt K (DS (thinM l))) else .exc CS)
theorem step_le {c : Nat} (h : (stepOf c).isSome = true) : c ≤ 117 := by
  unfold stepOf at h
  repeat' (split at h)
  all_goals first | omega | cases h
theorem strs_ok {st : List Nat} (h : ∀ c ∈ st, (stepOf c).isSome = true) : SeqAt.shaped (.list (st.map fun c => DS [c])) = true := by
  have h1 : PyData.canLayAll0 (st.map fun c => DS [c]) = true ∧ PyData.depthAll (st.map fun c => DS [c]) = 0 := by
    induction st with
    | nil => exact ⟨rfl, rfl⟩
    | cons c st ih =>
      have ih := ih fun x hx => h x (by simp [hx])
      have hc := h c (by simp)
      have : PyData.canLay0 (DS [c]) = true := by
        rw [PyData.canLay0]
        have := step_le hc
        simp [PyData.strOk, SX.S]; omega
      rw [List.map_cons, PyData.canLayAll0, PyData.depthAll, this, ih.1, ih.2]
      exact ⟨rfl, by rw [PyData.depth]; rfl⟩
  unfold SeqAt.shaped
  rw [PyData.canLay0, PyData.depth, h1.1, h1.2]; rfl
theorem ok_thinned {f : Addr} {fd : FuncData} {CS a_BACK : Addr} (F : L2.Fun K "thinned" "thinned" s_thinned f fd) (c_asked_slides : Cl P w K mg base (L2.CX P w) 1 "asked_slides" (SpD 1 (R_asked_slides K CS))) (g_BACK : mg "BACK" = some (.ref a_BACK)) (hB : BackOk w K a_BACK) :
    FnOk P w K mg base (L2.CX P w) 2 f fd ["slides"] (SpD 1 (R_thinned K CS)) := by
  refine def_okX F sc_thinned rfl fun cdv A outer s Hf H as o E hr hR hE => ?_
  refine ⟨_, (pss_cons (ps_expr (by exact (pe_clX c_asked_slides hr (by decide) (by rfl) (takes_of rfl rfl rfl rfl) (pa_cons (pv 0) pa_nil))))
      (pss_cons (ps_set (i := 1) sc_thinned.nd rfl (by first | exact Or.inl rfl | exact Or.inr rfl) (pe_lst pa_nil))
      (pss_cons (ps_for (passes_of rfl) rfl (pi_str (pv 0)) (pg_name (i := 2) sc_thinned.nd rfl (by first | exact Or.inl rfl | exact Or.inr rfl)) (pss_one (ps_if (PW.pt (pw_and (pt_cmpR (op_neDK K hr) (pv 1) (pe_lst pa_nil) (nomark _)) (pw_and1 (pt_cmpR op_eq (pe_ix (ix_listK K) (pv 1) (pe_un un_neg pe_int) (fun _ _ => rfl)) (pe_ix (ix_kdK K w) (pe_glob (v := .ref a_BACK) (by rfl) g_BACK rfl) (pv 2) (fun _ _ => rfl)) (nomark _))))) (pss_one (ps_expr (by exact (pe_bm0K K PySem.F.plainAttrs_list PySem.F.slot_list_pop PySem.F.type_list_pop mt_pop (pv 1))))) (pss_one (ps_expr (by exact (pe_bmK K PySem.F.plainAttrs_list PySem.F.slot_list_append PySem.F.type_list_append mt_append (pv 1) (pa_cons (pv 2) pa_nil))))))))
      (pss_one (ps_ret (pe_joinK K pe_str (pv 1))))))), ?_⟩
  apply rn_seq
  rcases hR with ⟨a, rfl, hk, rfl⟩ | ⟨l, rfl, hl, hll, ho⟩
  · exact rn_dropR (C := CS) (er_callS (as := [a]) (es_cons (ev_var rfl) es_nil) (.inl ⟨a, rfl, hk, rfl⟩) rfl) fun s => hE s.b
  · cases hf : (l.all fun c => (stepOf c).isSome) with
    | false =>
      rw [hf] at ho
      subst ho
      exact rn_dropR (C := CS) (er_callS (as := [Dt K (DS l)]) (es_cons (ev_var rfl) es_nil) (.inr ⟨l, rfl, hl, hll, by rw [hf]; rfl⟩) rfl) fun s => hE s.b
    | true =>
      rw [hf] at ho
      subst ho
      refine rn_drop (ev_callS (as := [Dt K (DS l)]) (es_cons (ev_var rfl) es_nil) (.inr ⟨l, rfl, hl, hll, by rw [hf]; rfl⟩) rfl) ?_
      have hstep : ∀ c ∈ l, (stepOf c).isSome = true := fun c hc => List.all_eq_true.mp hf c hc
      apply rn_seq
      refine rn_asgW (w := OL (([] : List PyData).map (Dt K))) (by walk_at "ev"; simp) ?_
      dsimp only
      apply rn_seq
      refine rn_for (fun i Γ => Γ = [.as (Dt K (DS l)), .ow (OL ((((l.take i).foldl pushM []).map fun c => DS [c]).map (Dt K))), .un]) (ei_str (K := K) (x := SX.S l) (ev_var rfl)) rfl ?_ ?_
      · rintro c' sb i a Γ1 rfl ha
        have ha' : (l.map fun c => Dt K (.str ⟨#[c]⟩))[i]? = some a := by unfold chs at ha; simpa using ha
        rw [List.getElem?_map] at ha'
        cases hc : l[i]? with
        | none => rw [hc] at ha'; cases ha'
        | some c =>
          rw [hc] at ha'
          obtain rfl := Option.some.inj ha'
          have hcm : c ∈ l := List.mem_of_getElem? hc
          have htk : (l.take (i + 1)).foldl pushM [] = pushM ((l.take i).foldl pushM []) c := by rw [List.take_add_one, hc, List.foldl_append]; rfl
          have hlen : ((l.take i).foldl pushM []).length ≤ l.length := Nat.le_trans (fold_len _ _) (by rw [List.length_take]; simp; omega)
          have hsm : ∀ x ∈ (l.take i).foldl pushM [], (stepOf x).isSome = true := fold_mem _ _ (fun x hx => hstep x (List.mem_of_mem_take hx)) fun _ h => nomatch h
          rw [htk]
          generalize (l.take i).foldl pushM [] = st at hlen hsm ⊢
          refine ⟨_, eg_name, ?_⟩
          refine rn_if (b := decide (st ≠ []) && decide (st.getLast? = some (backOf c))) ?_ ?_ ?_
          · refine eb_and ?_ fun h1 => ?_
            · refine eb_test (K := K) ((ev_neL (ds := st.map fun c => DS [c]) (e := .list []) (el_ow rfl) (ev_lst (ds := []) es_nil (by simp)) (strs_ok hsm) rfl).is ?_)
              cases st <;> simp [PyData.eqv, PyData.eqvAll]
            · have hne : st ≠ [] := by simpa using h1
              refine eb_test (K := K) ((ev_eqT (ev_ixLD (ds := st.map fun c => DS [c]) (d := DS [st.getLast hne]) (el_ow rfl) (ev_negI ev_int) ?_) (ev_kd (hB.it c (hstep c hcm)) (fun H => .str _) (ev_var rfl))).is ?_)
              · have e : (st.map fun c => DS [c]) = (st.dropLast.map fun c => DS [c]) ++ [DS [st.getLast hne]] := by
                  conv => lhs; rw [← List.dropLast_concat_getLast hne]
                  rw [List.map_append]; rfl
                rw [e]
                exact atI_last _ _
              · rw [List.getLast?_eq_getLast hne]
                congr 1
                exact decide_eq_decide.mpr ⟨fun h => by have := SX.S_inj h; simp at this; rw [this], fun h => by obtain h := Option.some.inj h; rw [h]⟩
          · intro hb
            simp only [Bool.and_eq_true, decide_eq_true_eq] at hb
            have hp : pushM st c = st.dropLast := by unfold pushM; rw [if_pos hb]
            rw [hp]
            refine rn_pop rfl (by simpa using hb.1) ?_
            refine ⟨[.as (Dt K (DS l)), .ow (OL ((st.dropLast.map fun c => DS [c]).map (Dt K))), .un], ?_, rfl⟩
            rw [← List.map_dropLast, ← List.map_dropLast]
            walk_at "gle"
          · intro hb
            have hp : pushM st c = st ++ [c] := by
              unfold pushM
              rw [if_neg]
              rintro ⟨h1, h2⟩
              simp [h1, h2] at hb
            rw [hp]
            refine rn_append (a := Dt K (DS [c])) rfl (ev_var rfl) (by simp only [List.length_map, sizeLine_eq]; omega) ?_
            refine ⟨[.as (Dt K (DS l)), .ow (OL (((st ++ [c]).map fun c => DS [c]).map (Dt K))), .un], ?_, rfl⟩
            rw [List.map_append, List.map_append]
            walk_at "gle"
      · rintro Γ1 rfl
        dsimp only
        have hl2 : l.take (chs K (SX.S l)).length = l := List.take_of_length_le (by simp [chs])
        rw [hl2]
        refine rn_ret (a := Dt K (DS (thinM l))) ?_ (As.le_refl _)
        have e : ((thinM l).map fun c => DS [c]) = ((thinM l).map fun c => [c]).map DS := by rw [List.map_map]; rfl
        have j := ev_join (K := K) (Γ := [.as (Dt K (DS l)), .ow (OL (((l.foldl pushM []).map fun c => DS [c]).map (Dt K))), .un]) (to := tC (V.str "")) (te := tVar 1) (ls := (thinM l).map fun c => [c]) ev_str (by rw [← e]; exact el_ow rfl) (by
          rw [sing_flat]
          have := fold_len l []
          unfold thinM
          simp at this; omega)
        rw [sing_flat] at j
        exact j
end
abbrev s_told : Stmt := topS 36
theorem sc_told : FnScope ["one", "other", "crossed", "steps"] ["one", "other"] (defScope s_told) :=
  ⟨rfl, rfl, rfl, by decide +kernel, rfl, by decide +kernel, by decide +kernel⟩
section
variable {P : Program} {w : World} {K : PySem.W.Frag} {mg : Str → Option Value} {base : Heap} {Γ : List Sl} {c : Cb} {k : Kt}
/-- trays that are none, or of other sides -/
def R_told (K : PySem.W.Frag) (CB CU : Addr) (as : List As) (o : Outc) : Prop :=
  (∃ a b, as = [a, b] ∧ BadTrayA K a ∧ o = .exc CB) ∨ (∃ t W b, as = [Dt K (DT t), b] ∧ TrayOk t W ∧ BadTrayA K b ∧ o = .exc CB) ∨
  (∃ t W u V, as = [Dt K (DT t), Dt K (DT u)] ∧ TrayOk t W ∧ TrayOk u V ∧ (t.length ≠ u.length ∨ W ≠ V) ∧ o = .exc CU)
theorem ok_told {f : Addr} {fd : FuncData} {CB CU : Addr} (F : L2.Fun K "told" "told" s_told f fd) (c_asked_tray : Cl P w K mg base (L2.CX P w) 2 "asked_tray" (SpD 1 (R_asked_tray K CB))) (r_Unlike : ExcOk K mg "Unlike" CU) (n_len : mg "len" = none) : FnOk P w K mg base (L2.CX P w) 3 f fd ["one", "other"] (SpD 2 (R_told K CB CU)) := by
  refine def_okX F sc_told rfl fun cdv A outer s Hf H as o E hr hR hE => ?_
  refine ⟨_, (pss_cons (ps_expr (by exact (pe_clX c_asked_tray hr (by decide) (by rfl) (takes_of rfl rfl rfl rfl) (pa_cons (pv 0) pa_nil))))
      (pss_cons (ps_expr (by exact (pe_clX c_asked_tray hr (by decide) (by rfl) (takes_of rfl rfl rfl rfl) (pa_cons (pv 1) pa_nil))))
      (pss_cons (ps_if (PW.pt (pw_or (pt_cmpR op_ne (by exact (pe_callB (call_lenK K) (by rfl) n_len (by decide +kernel) (pa_cons (pv 0) pa_nil))) (by exact (pe_callB (call_lenK K) (by rfl) n_len (by decide +kernel) (pa_cons (pv 1) pa_nil))) (nomark _)) (pw_or1 (pt_cmpR op_ne (by exact (pe_callB (call_lenK K) (by rfl) n_len (by decide +kernel) (pa_cons (pe_ix (ix_listK K) (pv 0) pe_int (fun _ _ => rfl)) pa_nil))) (by exact (pe_callB (call_lenK K) (by rfl) n_len (by decide +kernel) (pa_cons (pe_ix (ix_listK K) (pv 1) pe_int (fun _ _ => rfl)) pa_nil))) (nomark _))))) (pss_one (ps_raise rfl (takes_of rfl rfl rfl rfl) (pmk_own PySem.F.excBase_ValueError r_Unlike.xq r_Unlike.gC r_Unlike.kC (raises_own r_Unlike.bC r_Unlike.tC) (by exact rfl)))) pss_nil)
      pss_notcome))), ?_⟩
  apply rn_seq
  rcases hR with ⟨a, b, rfl, hb, rfl⟩ | ⟨t, W, b, rfl, ht, hb, rfl⟩ | ⟨t, W, u, V, rfl, ht, hu, hne, rfl⟩
  · exact rn_dropR (C := CB) (er_callS (as := [a]) (es_cons (ev_var rfl) es_nil) (asked_bad hb) rfl) fun s => hE s.b
  · refine rn_drop (ev_callS (as := [Dt K (DT t)]) (es_cons (ev_var rfl) es_nil) (asked_ok ht) rfl) ?_
    apply rn_seq
    exact rn_dropR (C := CB) (er_callS (as := [b]) (es_cons (ev_var rfl) es_nil) (asked_bad hb) rfl) fun s => hE s.b
  · refine rn_drop (ev_callS (as := [Dt K (DT t)]) (es_cons (ev_var rfl) es_nil) (asked_ok ht) rfl) ?_
    apply rn_seq
    refine rn_drop (ev_callS (as := [Dt K (DT u)]) (es_cons (ev_var rfl) es_nil) (asked_ok hu) rfl) ?_
    apply rn_seq
    have htl := ht.len
    have hul := hu.len
    refine rn_if (b := true) (EvB.is (c := !decide ((t.length : Int) = (u.length : Int)) || !decide ((W : Int) = (V : Int))) (eb_or' (eb_test (K := K) (ev_neI ((ev_lenLD (el_dt (ds := t.map DI) (ev_var rfl))).is (by rw [List.length_map, List.length_map])) ((ev_lenLD (el_dt (ds := u.map DI) (ev_var rfl))).is (by rw [List.length_map, List.length_map]))))
      (eb_test (K := K) (ev_neI ((ev_lenLD (el_dt (ds := (t.getD 0 []).map PyData.int) (ev_ixLD (el_dt (ds := t.map DI) (ev_var rfl)) ev_int (at_row (getq [] (by omega : 0 < t.length)) rfl)))).is (by rw [List.length_map, List.length_map, ht.rect _ (getD_mem (by omega))])) ((ev_lenLD (el_dt (ds := (u.getD 0 []).map PyData.int) (ev_ixLD (el_dt (ds := u.map DI) (ev_var rfl)) ev_int (at_row (getq [] (by omega : 0 < u.length)) rfl)))).is (by rw [List.length_map, List.length_map, hu.rect _ (getD_mem (by omega))]))))) ?_) (fun _ D σ H Hf s q => hE s.b) fun h => nomatch h
    rcases hne with h | h
    · rw [decide_eq_false (show ¬ (t.length : Int) = (u.length : Int) by omega)]; rfl
    · rw [decide_eq_false (show ¬ (W : Int) = (V : Int) by omega), Bool.not_false, Bool.or_true]
end
abbrev s_law_with_tray : Stmt := topS 38
theorem sc_law_with_tray : FnScope ["_law_door", "_law_tray"] ["_law_door", "_law_tray"] (defScope s_law_with_tray) :=
  ⟨rfl, rfl, rfl, by decide +kernel, rfl, by decide +kernel, by decide +kernel⟩
abbrev s_law_bad_tray : Stmt := topS 39
theorem sc_law_bad_tray : FnScope ["_law_which", "_law_more", "_law_bad", "_law_rows", "_law_columns", "_law_found", "_law_strange", "_law_row", "_law_column"] ["_law_which", "_law_more"] (defScope s_law_bad_tray) :=
  ⟨rfl, rfl, rfl, by decide +kernel, rfl, by decide +kernel, by decide +kernel⟩
abbrev s_law_great : Stmt := topS 40
theorem sc_law_great : FnScope ["_law_which", "_law_row"] ["_law_which"] (defScope s_law_great) :=
  ⟨rfl, rfl, rfl, by decide +kernel, rfl, by decide +kernel, by decide +kernel⟩
section
variable {P : Program} {w : World} {K : PySem.W.Frag} {mg : Str → Option Value} {base : Heap} {Γ : List Sl} {c : Cb} {k : Kt}
theorem tray22 : TrayOk [[1, 0], [2, 3]] 2 := ⟨by decide, by decide, fun x hx => by simp at hx; rcases hx with rfl | rfl <;> rfl, by decide⟩
theorem ev_tray22 {Γ : List Sl} : EvA (tLst (tCons (tLst (tCons (tC (V.int 1)) (tCons (tC (V.int 0)) tNil))) (tCons (tLst (tCons (tC (V.int 2)) (tCons (tC (V.int 3)) tNil))) tNil))) Γ (Dt K (DT [[1, 0], [2, 3]])) :=
  ev_lst (ds := [DI [1, 0], DI [2, 3]]) (es_cons (ev_lst (ds := [.int 1, .int 0]) (es_cons ev_int (es_cons ev_int es_nil)) (by simp [sizeLine_eq])) (es_cons (ev_lst (ds := [.int 2, .int 3]) (es_cons ev_int (es_cons ev_int es_nil)) (by simp [sizeLine_eq])) es_nil)) (by simp [sizeLine_eq])
def R_law_with_tray (K : PySem.W.Frag) (CB : Addr) (as : List As) (o : Outc) : Prop := ∃ (d : Int) (a : As), as = [Dt K (.int d), a] ∧ BadTrayA K a ∧ o = .exc CB
theorem ok_law_with_tray {f : Addr} {fd : FuncData} {CB CS CU : Addr} (F : L2.Fun K "_law_with_tray" "_law_with_tray" s_law_with_tray f fd) (c_moved : Cl P w K mg base (L2.CX P w) 4 "moved" (SpD 2 (R_moved K CB CS))) (c_ways : Cl P w K mg base (L2.CX P w) 3 "ways" (SpD 1 (R_ways K CB)))
    (c_told : Cl P w K mg base (L2.CX P w) 3 "told" (SpD 2 (R_told K CB CU))) : FnOk P w K mg base (L2.CX P w) 5 f fd ["_law_door", "_law_tray"] (SpD 2 (R_law_with_tray K CB)) := by
  refine def_okX F sc_law_with_tray rfl fun cdv A outer s Hf H as o E hr hR hE => ?_
  obtain ⟨d, a, rfl, hb, rfl⟩ := hR
  refine ⟨_, (pss_cons (ps_if (pt_cmpR op_lt (pv 0) pe_int (nomark _)) (pss_one (ps_ret (pe_ifExp (pt_cmpR op_eq (pv 0) pe_int (nomark _)) (by exact (pe_clX c_moved hr (by decide) (by rfl) (takes_of rfl rfl rfl rfl) (pa_cons (pv 1) (pa_cons pe_non pa_nil)))) (by exact (pe_clX c_ways hr (by decide) (by rfl) (takes_of rfl rfl rfl rfl) (pa_cons (pv 1) pa_nil)))))) pss_nil)
      (pss_one (ps_ret (pe_ifExp (pt_cmpR op_eq (pv 0) pe_int (nomark _)) (by exact (pe_clX c_told hr (by decide) (by rfl) (takes_of rfl rfl rfl rfl) (pa_cons (pv 1) (pa_cons pe_non pa_nil)))) (by exact (pe_clX c_told hr (by decide) (by rfl) (takes_of rfl rfl rfl rfl) (pa_cons (pe_lst (pa_cons (pe_lst (pa_cons pe_int (pa_cons pe_int pa_nil))) (pa_cons (pe_lst (pa_cons pe_int (pa_cons pe_int pa_nil))) pa_nil))) (pa_cons (pv 1) pa_nil)))))))), ?_⟩
  apply rn_seq
  refine rn_if (b := decide (d < 2)) (eb_test (K := K) (ev_I0b (g := fun i j => decide (i < j)) (ev_var rfl) ev_int)) (fun _ => ?_) fun _ => ?_
  · refine rn_retR (C := CB) (er_if (b := decide (d = 0)) (eb_test (K := K) (ev_eqI (ev_var rfl) ev_int)) (fun _ => er_callS (as := [a, Dt K .none]) (es_cons (ev_var rfl) (es_cons ev_non es_nil)) (.inl ⟨a, _, rfl, hb, rfl⟩) rfl) fun _ => er_callS (as := [a]) (es_cons (ev_var rfl) es_nil) (.inl ⟨a, rfl, hb, rfl⟩) rfl) fun s => hE s.b
  · apply rn_next
    refine rn_retR (C := CB) (er_if (b := decide (d = 2)) (eb_test (K := K) (ev_eqI (ev_var rfl) ev_int)) (fun _ => er_callS (as := [a, Dt K .none]) (es_cons (ev_var rfl) (es_cons ev_non es_nil)) (.inl ⟨a, _, rfl, hb, rfl⟩) rfl) fun _ => er_callS (as := [Dt K (DT [[1, 0], [2, 3]]), a]) (es_cons ev_tray22 (es_cons (ev_var rfl) es_nil)) (.inr (.inl ⟨_, 2, a, rfl, tray22, hb, rfl⟩)) rfl) fun s => hE s.b
/-! no trays -/
def badTable (K : PySem.W.Frag) : List As := [Dt K .none, Dt K (.tuple []), Dt K (.list []), Dt K (.str "10"), Dt K (.int 5), DkA [], Dt K (.list [.list []]), Dt K (DT [[1, 0], [2]]), Dt K (.list [.tuple [.int 1, .int 0]]), Dt K (DT [[1, 2]]), Dt K (DT [[0, 0]]), Dt K (DT [[0, 2]]), Dt K (DT [[0, 1, 1, 1, 1, 1, 1]]), Dt K (DI [0, 1])]
def strangeL (r c : Nat) : List PyData := [.none, .str "1", .bool true, .bool false, .int (-1), .int ((r * c : Nat) : Int), .list [.int 1], .tuple [.int 0], .int 1000000000, .int 0]
def cellsD (r c : Nat) : List (List PyData) := (List.range r).map fun i => (List.range c).map fun j => .int ((i * c + j : Nat) : Int)
def setD (t : List (List PyData)) (x y : Nat) (d : PyData) : List (List PyData) := t.set x ((t.getD x []).set y d)
theorem cells_len (r c : Nat) : (cellsD r c).length = r := by unfold cellsD; rw [List.length_map, List.length_range]
theorem cells_row (r c : Nat) : ∀ x ∈ cellsD r c, x.length = c := by
  intro x hx
  obtain ⟨i, _, rfl⟩ := List.mem_map.mp hx
  rw [List.length_map, List.length_range]
theorem setD_row {t : List (List PyData)} {x y W : Nat} {d : PyData} (h : ∀ r ∈ t, r.length = W) (hx : x < t.length) : ∀ r ∈ setD t x y d, r.length = W := by
  intro r hr
  rcases List.mem_or_eq_of_mem_set hr with hr | rfl
  · exact h r hr
  · rw [List.length_set]; exact h _ (getD_mem hx)
theorem setD_len {t : List (List PyData)} {x y : Nat} {d : PyData} : (setD t x y d).length = t.length := by unfold setD; rw [List.length_set]
def matD (r c x y z : Nat) : List (List PyData) :=
  let b := setD (cellsD r c) x y ((strangeL r c).getD z .none)
  if z = 9 then setD (setD b 0 0 (.int 1)) 0 1 (.int 1) else b
def badA (K : PySem.W.Frag) (w m : Int) : As :=
  if w % 24 < 14 then (badTable K).getD (w % 24).toNat (Dt K .none)
  else Dt K (.list ((matD (1 + m % 3).toNat (2 + m / 3 % 4).toNat (w / 24 % (1 + m % 3)).toNat (w / 72 % (2 + m / 3 % 4)).toNat (w % 24 - 14).toNat).map PyData.list))
def flatNum (rows : List PyData) : List Int := rows.flatMap fun r => (itemsD r).map numD
theorem ask_nums {rows : List PyData} (h : ¬ (flatNum rows).Perm (upto (flatNum rows).length)) : askM (.list rows) = false := by
  rw [askM_list]
  have : decide (srt (rows.flatMap fun r => (itemsD r).map numD) = upto (rows.flatMap fun r => (itemsD r).map numD).length) = false := decide_eq_false fun e => h (by
    have := srt_perm (flatNum rows)
    unfold flatNum at this ⊢
    rw [e] at this
    exact this.symm)
  rw [this, Bool.and_false]
theorem ask_row {rows : List PyData} {r : PyData} (hr : r ∈ rows) (h : ∀ W, rowOkM W r = false) : askM (.list rows) = false := by
  rw [askM_list]
  have : rows.all (rowOkM (itemsD (rows.getD 0 .none)).length) = false := by
    rw [Bool.eq_false_iff]
    intro e
    have := List.all_eq_true.mp e r hr
    rw [h] at this
    cases this
  rw [this, Bool.and_false, Bool.false_and, Bool.false_and]
theorem ask_wide {rows : List PyData} (h : ¬ (itemsD (rows.getD 0 .none)).length ≤ 6) : askM (.list rows) = false := by
  rw [askM_list]
  have : decide (1 ≤ (itemsD (rows.getD 0 .none)).length ∧ (itemsD (rows.getD 0 .none)).length ≤ 6) = false := decide_eq_false fun e => h e.2
  rw [this, Bool.and_false, Bool.false_and]
theorem ask_uneven {rows : List PyData} {r : PyData} (hr : r ∈ rows) (h : (itemsD r).length ≠ (itemsD (rows.getD 0 .none)).length) : askM (.list rows) = false := by
  rw [askM_list]
  have : rows.all (rowOkM (itemsD (rows.getD 0 .none)).length) = false := by
    rw [Bool.eq_false_iff]
    intro e
    have := List.all_eq_true.mp e r hr
    unfold rowOkM at this
    simp only [Bool.and_eq_true, decide_eq_true_eq] at this
    exact h this.1.2
  rw [this, Bool.and_false, Bool.false_and, Bool.false_and]
theorem small_rows {t : List (List Int)} (h1 : t.length ≤ 1000) (h2 : ∀ r ∈ t, r.length ≤ 1000) : Small (DT t) := by
  refine ⟨by rw [List.length_map]; exact h1, fun r hr => ?_⟩
  obtain ⟨x, hx, rfl⟩ := List.mem_map.mp hr
  show (x.map PyData.int).length ≤ 1000
  rw [List.length_map]
  exact h2 x hx
theorem flat_memD {t : List (List PyData)} {r : List PyData} {z : Int} (h1 : r ∈ t) (h2 : PyData.int z ∈ r) : z ∈ flatNum (t.map PyData.list) := by
  unfold flatNum
  rw [List.mem_flatMap]
  exact ⟨.list r, List.mem_map.mpr ⟨r, h1, rfl⟩, List.mem_map.mpr ⟨_, h2, rfl⟩⟩
theorem flat_lenD {t : List (List PyData)} {W : Nat} (h : ∀ r ∈ t, r.length = W) : (flatNum (t.map PyData.list)).length = t.length * W := by
  unfold flatNum
  rw [flat_len (w := W), List.length_map]
  intro r hr
  obtain ⟨x, hx, rfl⟩ := List.mem_map.mp hr
  rw [List.length_map]
  exact h x hx
theorem upto_nodup' (n : Nat) : (upto n).Nodup := by
  unfold upto
  rw [List.nodup_iff_pairwise_ne, List.pairwise_map]
  exact List.pairwise_lt_range.imp (fun h => by omega)
theorem mat_bad {r c x y z : Nat} (hr : 1 ≤ r ∧ r ≤ 3) (hc : 2 ≤ c ∧ c ≤ 5) (hx : x < r) (hy : y < c) (hz : z < 10) : askM (.list ((matD r c x y z).map PyData.list)) = false := by
  have hrow := cells_row r c
  have hlen := cells_len r c
  have hxl : x < (cellsD r c).length := by omega
  have hrl : ((cellsD r c).getD x []).length = c := hrow _ (getD_mem hxl)
  have hin : ∀ d, d ∈ (((cellsD r c).getD x []).set y d) := fun d => List.mem_set (by omega) _
  have hrm : ∀ d, ((cellsD r c).getD x []).set y d ∈ setD (cellsD r c) x y d := fun d => List.mem_set hxl _
  have hnon : ∀ d, isNum d = false → askM (.list ((setD (cellsD r c) x y d).map PyData.list)) = false := fun d hd => ask_row (List.mem_map.mpr ⟨_, hrm d, rfl⟩) fun W => by
    unfold rowOkM
    have : (itemsD (.list (((cellsD r c).getD x []).set y d))).all isNum = false := by
      rw [Bool.eq_false_iff]
      intro e
      have := List.all_eq_true.mp e d (hin d)
      rw [hd] at this
      cases this
    rw [this, Bool.and_false]
  have hnum : ∀ v : Int, ¬ (0 ≤ v ∧ v < ((r * c : Nat) : Int)) → askM (.list ((setD (cellsD r c) x y (.int v)).map PyData.list)) = false := fun v hv => ask_nums fun hp => by
    have hm := flat_memD (hrm (.int v)) (hin (.int v))
    have := upto_mem.mp (hp.mem_iff.mp hm)
    rw [flat_lenD (setD_row hrow hxl), setD_len, hlen] at this
    exact hv this
  have hrc : r * c ≤ 15 := Nat.mul_le_mul hr.2 hc.2
  unfold matD
  dsimp only
  have : z = 0 ∨ z = 1 ∨ z = 2 ∨ z = 3 ∨ z = 4 ∨ z = 5 ∨ z = 6 ∨ z = 7 ∨ z = 8 ∨ z = 9 := by omega
  rcases this with rfl | rfl | rfl | rfl | rfl | rfl | rfl | rfl | rfl | rfl
  · exact hnon _ rfl
  · exact hnon _ rfl
  · exact hnon _ rfl
  · exact hnon _ rfl
  · exact hnum _ (by omega)
  · exact hnum _ (by omega)
  · exact hnon _ rfl
  · exact hnon _ rfl
  · exact hnum _ (by omega)
  · rw [if_pos rfl]
    generalize hb : setD (cellsD r c) x y ((strangeL r c).getD 9 .none) = b
    have hbr : ∀ q ∈ b, q.length = c := by rw [← hb]; exact setD_row hrow hxl
    have hbl : b.length = r := by rw [← hb, setD_len, hlen]
    cases b with
    | nil => simp at hbl; omega
    | cons q b =>
      have hq := hbr q (by simp)
      match q, hq with
      | [], h => simp at h; omega
      | [_], h => simp at h; omega
      | q1 :: q2 :: q, _ =>
        refine ask_nums fun hp => ?_
        have := hp.nodup_iff.mpr (upto_nodup' _)
        have e : flatNum ((setD (setD ((q1 :: q2 :: q) :: b) 0 0 (.int 1)) 0 1 (.int 1)).map PyData.list) = 1 :: 1 :: ((q.map numD) ++ flatNum (b.map PyData.list)) := rfl
        rw [e] at this
        have := (List.nodup_cons.mp this).1
        exact this (by simp)
/-! trays that are too great -/
def greatT (w : Int) : List (List Int) := if w % 2 = 0 then (upto 7).map fun x => [x] else [upto 7]
theorem great_bad (w : Int) : BadTrayA K (Dt K (DT (greatT w))) := by
  refine .inl ⟨_, rfl, ?_, ?_⟩
  · unfold greatT
    split <;> exact ⟨by decide, by decide⟩
  · unfold greatT
    split
    · show askM (.list _) = false
      rw [askM_list]
      simp [upto]
    · exact ask_wide (by show ¬ ((upto 7).map PyData.int).length ≤ 6; rw [List.length_map, upto_len]; omega)
def R_law_great (K : PySem.W.Frag) (as : List As) (o : Outc) : Prop := ∃ (x : Int), as = [Dt K (.int x)] ∧ o = .ret (Dt K (DT (greatT x)))
theorem ok_law_great {f : Addr} {fd : FuncData} (F : L2.Fun K "_law_great" "_law_great" s_law_great f fd) (n_range : mg "range" = none) (n_list : mg "list" = none) : FnOk P w K mg base L2.CX0 1 f fd ["_law_which"] (SpD 1 (R_law_great K)) := by
  refine def_ok F sc_law_great rfl fun cdv A outer s Hf H as o E hr hR => ?_
  obtain ⟨x, rfl, rfl⟩ := hR
  refine ⟨_, (pss_cons (ps_if (pt_cmpR op_eq (pe_op op_mod (pv 0) pe_int) pe_int (nomark _)) (pss_one (ps_ret (pe_lc (own := [("_law_row", 1)]) (g := (gName 1)) (by rfl) sc_law_great.nd (pi_range1 (by rfl) n_range (pa_cons pe_int pa_nil)) (blkOk_by (N := ["_law_which", "_law_row"]) (sc := defScope s_law_great) (own := [("_law_row", 1)]) (by decide +kernel)) (fun _ _ _ _ _ => (pg_name (i := 1) sc_law_great.nd rfl (by first | exact Or.inl rfl | exact Or.inr rfl))) (fun _ _ _ _ _ => pts_nil) (fun _ _ _ _ _ => (pe_lst (pa_cons (pv 1) pa_nil)))))) pss_nil)
      (pss_one (ps_ret (pe_lst (pa_cons (pe_listRg (by rfl) (by rfl) n_list (prg_1 (by rfl) n_range pe_int)) pa_nil))))), ?_⟩
  apply rn_seq
  refine rn_if (b := decide (x % 2 = 0)) (eb_test (K := K) (ev_eqI (ev_Ii (g := fun i j => i % j) (ev_var rfl) ev_int (by decide)) ev_int)) (fun hb => ?_) fun hb => ?_
  · have hb := of_decide_eq_true hb
    refine rn_ret (a := Dt K (DT (greatT x))) ?_ (As.le_refl _)
    have k := ew_lcM (K := K) (Γ := G0 2 [Dt K (.int x)]) (wi := iRng1 (tCons (tC (V.int 7)) tNil)) (g := gName 1) (vs := [1]) (te := tLst (tCons (tVar 1) tNil)) (List.range 7) (fun i => Dt K (.int ((i : Nat) : Int))) (fun i => DI [((i : Nat) : Int)]) ?_ (gw_name (by decide)) (by simp) fun i hi => ⟨_, eg_name, ?_⟩
    · have e : ((List.range 7).map fun i => DI [((i : Nat) : Int)]) = (greatT x).map DI := by unfold greatT; rw [if_pos hb]; rfl
      rw [e] at k
      exact ev_fixD k
    · exact ei_rng1 (K := K) (n := 7) (es_cons ev_int es_nil) (by decide)
    · exact ev_lst (ds := [.int _]) (es_cons (ev_var rfl) es_nil) (by simp [sizeLine_eq])
  · have hb := of_decide_eq_false hb
    apply rn_next
    refine rn_ret (a := Dt K (DT (greatT x))) ?_ (As.le_refl _)
    have e : greatT x = [upto 7] := by unfold greatT; rw [if_neg hb]
    rw [e]
    exact ev_lst (ds := [DI (upto 7)]) (es_cons (ev_fixD (ew_listRg (n := 7) ev_int (by decide))) es_nil) (by simp [sizeLine_eq])
theorem table_bad {z : Nat} (hz : z < 14) : BadTrayA K ((badTable K).getD z (Dt K .none)) := by
  have two : ∀ a b : Int, ¬ ([a, b].Perm (upto 2)) → BadTrayA K (Dt K (DT [[a, b]])) := fun a b h => .inl ⟨_, rfl, small_rows (by simp) (by simp), ask_nums h⟩
  have : z = 0 ∨ z = 1 ∨ z = 2 ∨ z = 3 ∨ z = 4 ∨ z = 5 ∨ z = 6 ∨ z = 7 ∨ z = 8 ∨ z = 9 ∨ z = 10 ∨ z = 11 ∨ z = 12 ∨ z = 13 := by omega
  rcases this with rfl | rfl | rfl | rfl | rfl | rfl | rfl | rfl | rfl | rfl | rfl | rfl | rfl | rfl
  · exact .inl ⟨.none, rfl, trivial, rfl⟩
  · exact .inl ⟨.tuple [], rfl, trivial, rfl⟩
  · exact .inl ⟨.list [], rfl, ⟨by simp, by simp⟩, rfl⟩
  · exact .inl ⟨.str "10", rfl, trivial, rfl⟩
  · exact .inl ⟨.int 5, rfl, trivial, rfl⟩
  · refine .inr ⟨"dict", fun H v h => ?_, by decide +kernel⟩
    obtain ⟨p, kvs, rfl, hp, _⟩ := h
    exact .base (.dK hp)
  · exact .inl ⟨.list [.list []], rfl, ⟨by simp, by simp [itemsD]⟩, by rw [askM_list]; simp [itemsD]⟩
  · exact .inl ⟨DT [[1, 0], [2]], rfl, small_rows (by simp) (by simp), ask_uneven (r := DI [2]) (by simp) (by decide)⟩
  · exact .inl ⟨.list [.tuple [.int 1, .int 0]], rfl, ⟨by simp, by simp [itemsD]⟩, by rw [askM_list]; simp [isT]⟩
  · exact two 1 2 (by decide)
  · exact two 0 0 (by decide)
  · exact two 0 2 (by decide)
  · exact .inl ⟨DT [[0, 1, 1, 1, 1, 1, 1]], rfl, small_rows (by simp) (by simp), ask_wide (by decide)⟩
  · exact .inl ⟨DI [0, 1], rfl, ⟨by simp, by simp [itemsD]⟩, by show askM (.list _) = false; rw [askM_list]; simp [isT]⟩
theorem badA_bad {x m : Int} : BadTrayA K (badA K x m) := by
  have h1 := Int.emod_lt_of_pos x (show (0 : Int) < 24 by decide)
  have h2 := Int.emod_nonneg x (show (24 : Int) ≠ 0 by decide)
  have h3 := Int.emod_lt_of_pos m (show (0 : Int) < 3 by decide)
  have h4 := Int.emod_nonneg m (show (3 : Int) ≠ 0 by decide)
  have h5 := Int.emod_lt_of_pos (m / 3) (show (0 : Int) < 4 by decide)
  have h6 := Int.emod_nonneg (m / 3) (show (4 : Int) ≠ 0 by decide)
  have h7 := Int.emod_lt_of_pos (x / 24) (show (0 : Int) < 1 + m % 3 by omega)
  have h8 := Int.emod_nonneg (x / 24) (show (1 + m % 3 : Int) ≠ 0 by omega)
  have h9 := Int.emod_lt_of_pos (x / 72) (show (0 : Int) < 2 + m / 3 % 4 by omega)
  have h10 := Int.emod_nonneg (x / 72) (show (2 + m / 3 % 4 : Int) ≠ 0 by omega)
  unfold badA
  split
  · exact table_bad (by omega)
  · refine .inl ⟨_, rfl, ⟨?_, ?_⟩, mat_bad (by omega) (by omega) (by omega) (by omega) (by omega)⟩
    · rw [List.length_map]
      unfold matD
      dsimp only
      split <;> simp only [setD_len, cells_len] <;> omega
    · intro r hr
      obtain ⟨q, hq, rfl⟩ := List.mem_map.mp hr
      show q.length ≤ 1000
      have hxl : (x / 24 % (1 + m % 3)).toNat < (cellsD (1 + m % 3).toNat (2 + m / 3 % 4).toNat).length := by rw [cells_len]; omega
      have e1 : ∀ d, ∀ q ∈ setD (cellsD (1 + m % 3).toNat (2 + m / 3 % 4).toNat) (x / 24 % (1 + m % 3)).toNat (x / 72 % (2 + m / 3 % 4)).toNat d, q.length = (2 + m / 3 % 4).toNat := fun d => setD_row (cells_row _ _) hxl
      have hl0 : 0 < (cellsD (1 + m % 3).toNat (2 + m / 3 % 4).toNat).length := by rw [cells_len]; omega
      unfold matD at hq
      dsimp only at hq
      split at hq
      · rw [setD_row (setD_row (e1 _) (by rw [setD_len]; exact hl0)) (by rw [setD_len, setD_len]; exact hl0) q hq]; omega
      · rw [e1 _ q hq]; omega
def R_law_bad_tray (K : PySem.W.Frag) (as : List As) (o : Outc) : Prop := ∃ (x m : Int), as = [Dt K (.int x), Dt K (.int m)] ∧ o = .ret (badA K x m)
theorem ok_law_bad_tray {f : Addr} {fd : FuncData} (F : L2.Fun K "_law_bad_tray" "_law_bad_tray" s_law_bad_tray f fd) (n_range : mg "range" = none) : FnOk P w K mg base L2.CX0 1 f fd ["_law_which", "_law_more"] (SpD 2 (R_law_bad_tray K)) := by
  refine def_ok F sc_law_bad_tray rfl fun cdv A outer s Hf H as o E hr hR => ?_
  obtain ⟨x, m, rfl, rfl⟩ := hR
  refine ⟨_, (pss_cons (ps_set (i := 2) sc_law_bad_tray.nd rfl (by first | exact Or.inl rfl | exact Or.inr rfl) (pe_lst (pa_cons pe_non (pa_cons (pe_tup pa_nil) (pa_cons (pe_lst pa_nil) (pa_cons pe_str (pa_cons pe_int (pa_cons pe_dnewK (pa_cons (pe_lst (pa_cons (pe_lst pa_nil) pa_nil)) (pa_cons (pe_lst (pa_cons (pe_lst (pa_cons pe_int (pa_cons pe_int pa_nil))) (pa_cons (pe_lst (pa_cons pe_int pa_nil)) pa_nil))) (pa_cons (pe_lst (pa_cons (pe_tup (pa_cons pe_int (pa_cons pe_int pa_nil))) pa_nil)) (pa_cons (pe_lst (pa_cons (pe_lst (pa_cons pe_int (pa_cons pe_int pa_nil))) pa_nil)) (pa_cons (pe_lst (pa_cons (pe_lst (pa_cons pe_int (pa_cons pe_int pa_nil))) pa_nil)) (pa_cons (pe_lst (pa_cons (pe_lst (pa_cons pe_int (pa_cons pe_int pa_nil))) pa_nil)) pa_nil))))))))))))))
      (pss_cons (ps_set (i := 2) sc_law_bad_tray.nd rfl (by first | exact Or.inl rfl | exact Or.inr rfl) (pe_op op_cat (pv 2) (pe_lst (pa_cons (pe_lst (pa_cons (pe_op op_cat (pe_lst (pa_cons pe_int pa_nil)) (pe_op op_rep (pe_lst (pa_cons pe_int pa_nil)) pe_int)) pa_nil)) (pa_cons (pe_lst (pa_cons pe_int (pa_cons pe_int pa_nil))) pa_nil)))))
      (pss_cons (ps_if (pt_cmpR op_lt (pe_op op_mod (pv 0) pe_int) pe_int (nomark _)) (pss_one (ps_ret (pe_ix (ix_listK K) (pv 2) (pe_op op_mod (pv 0) pe_int) (fun _ _ => rfl)))) pss_nil)
      (pss_cons (ps_asg (pe_tup (pa_cons (pe_op op_add pe_int (pe_op op_mod (pv 1) pe_int)) (pa_cons (pe_op op_add pe_int (pe_op op_mod (pe_op op_fdiv (pv 1) pe_int) pe_int)) pa_nil))) (pg_tupK K (n := 2) (pgs_cons (pg_name (i := 3) sc_law_bad_tray.nd rfl (by first | exact Or.inl rfl | exact Or.inr rfl)) (pgs_cons (pg_name (i := 4) sc_law_bad_tray.nd rfl (by first | exact Or.inl rfl | exact Or.inr rfl)) pgs_nil))))
      (pss_cons (ps_setLc (i := 5) (own := [("_law_row", 7)]) (g := (gName 7)) (by rfl) sc_law_bad_tray.nd rfl rfl (sw_true rfl rfl rfl (by decide +kernel)) (pi_range1 (by rfl) n_range (pa_cons (pv 3) pa_nil)) (blkOk_by (N := ["_law_which", "_law_more", "_law_bad", "_law_rows", "_law_columns", "_law_found", "_law_strange", "_law_row", "_law_column"]) (sc := defScope s_law_bad_tray) (own := [("_law_row", 7)]) (by decide +kernel)) (fun _ _ _ _ _ => (pg_name (i := 7) sc_law_bad_tray.nd rfl (by first | exact Or.inl rfl | exact Or.inr rfl))) (fun _ _ _ _ _ => pts_nil) (fun _ _ _ _ _ => (pe_lc (own := [("_law_column", 8)]) (g := (gName 8)) (by rfl) sc_law_bad_tray.nd (pi_range1 (by rfl) n_range (pa_cons (pv 4) pa_nil)) (blkOk_by (N := ["_law_which", "_law_more", "_law_bad", "_law_rows", "_law_columns", "_law_found", "_law_strange", "_law_row", "_law_column"]) (sc := ⟨.function, [(".0", .local), ("_law_row", .cell), ("range", .globalImplicit), ("_law_columns", .cell)], false, false, []⟩) (own := [("_law_column", 8)]) (by decide +kernel)) (fun _ _ _ _ _ => (pg_name (i := 8) sc_law_bad_tray.nd rfl (by first | exact Or.inl rfl | exact Or.inr rfl))) (fun _ _ _ _ _ => pts_nil) (fun _ _ _ _ _ => (pe_op op_add (pe_op op_mulB (pv 7) (pv 4)) (pv 8))))))
      (pss_cons (ps_set (i := 6) sc_law_bad_tray.nd rfl (by first | exact Or.inl rfl | exact Or.inr rfl) (pe_lst (pa_cons pe_non (pa_cons pe_str (pa_cons pe_bl (pa_cons pe_bl (pa_cons (pe_un un_neg pe_int) (pa_cons (pe_op op_mulB (pv 3) (pv 4)) (pa_cons (pe_lst (pa_cons pe_int pa_nil)) (pa_cons (pe_tup (pa_cons pe_int pa_nil)) (pa_cons (pe_op op_pow pe_int pe_int) (pa_cons pe_int pa_nil))))))))))))
      (pss_cons (ps_asg (pe_ix (ix_listK K) (pv 6) (pe_op op_sub (pe_op op_mod (pv 0) pe_int) pe_int) (fun _ _ => rfl)) (pg_sub (pe_ix (ix_listK K) (pv 5) (pe_op op_mod (pe_op op_fdiv (pv 0) pe_int) (pv 3)) (fun _ _ => rfl)) (pe_op op_mod (pe_op op_fdiv (pv 0) pe_int) (pv 4)) set_list))
      (pss_cons (ps_if (pt_cmpR op_eq (pe_op op_mod (pv 0) pe_int) pe_int (nomark _)) (pss_one (ps_asg (pe_tup (pa_cons pe_int (pa_cons pe_int pa_nil))) (pg_tupK K (n := 2) (pgs_cons (pg_sub (pe_ix (ix_listK K) (pv 5) pe_int (fun _ _ => rfl)) pe_int set_list) (pgs_cons (pg_sub (pe_ix (ix_listK K) (pv 5) pe_int (fun _ _ => rfl)) pe_int set_list) pgs_nil))))) pss_nil)
      (pss_one (ps_ret (pv 5))))))))))), ?_⟩
  have h1 := Int.emod_lt_of_pos x (show (0 : Int) < 24 by decide)
  have h2 := Int.emod_nonneg x (show (24 : Int) ≠ 0 by decide)
  have h3 := Int.emod_lt_of_pos m (show (0 : Int) < 3 by decide)
  have h4 := Int.emod_nonneg m (show (3 : Int) ≠ 0 by decide)
  have h5 := Int.emod_lt_of_pos (m / 3) (show (0 : Int) < 4 by decide)
  have h6 := Int.emod_nonneg (m / 3) (show (4 : Int) ≠ 0 by decide)
  change Rn _ _ [.as (Dt K (.int x)), .as (Dt K (.int m)), .un, .un, .un, .un, .un, .un, .un] _
  have sl : ∀ n : Nat, n ≤ 1000 → n ≤ sizeLine := fun n h => by rw [sizeLine_eq]; omega
  have i2 : ∀ {Γ : List Sl} (a b : Int), EvA (tLst (tCons (tC (V.int a)) (tCons (tC (V.int b)) tNil))) Γ (Dt K (DI [a, b])) := fun a b => ev_lst (ds := [.int a, .int b]) (es_cons ev_int (es_cons ev_int es_nil)) (sl _ (by simp))
  have i1 : ∀ {Γ : List Sl} (a : Int), EvA (tLst (tCons (tC (V.int a)) tNil)) Γ (Dt K (DI [a])) := fun a => ev_lst (ds := [.int a]) (es_cons ev_int es_nil) (sl _ (by simp))
  have l1 : ∀ {Γ : List Sl} {te : TE} {d : PyData}, EvA te Γ (Dt K d) → EvA (tLst (tCons te tNil)) Γ (Dt K (.list [d])) := fun {Γ te d} h => ev_lst (ds := [d]) (es_cons h es_nil) (sl _ (by simp))
  apply rn_seq
  refine rn_asgW (w := OL ((badTable K).take 12)) (ew_lst (es_cons ev_non (es_cons (ev_tup (ds := []) es_nil (sl _ (by simp))) (es_cons (ev_lst (ds := []) es_nil (sl _ (by simp))) (es_cons ev_str (es_cons ev_int (es_cons ev_dnew (es_cons (l1 (ev_lst (ds := []) es_nil (sl _ (by simp))))
    (es_cons (ev_lst (ds := [DI [1, 0], DI [2]]) (es_cons (i2 1 0) (es_cons (i1 2) es_nil)) (sl _ (by simp))) (es_cons (l1 (ev_tup (ds := [.int 1, .int 0]) (es_cons ev_int (es_cons ev_int es_nil)) (sl _ (by simp)))) (es_cons (l1 (i2 1 2)) (es_cons (l1 (i2 0 0)) (es_cons (l1 (i2 0 2)) es_nil)))))))))))) (sl _ (by simp [badTable]))) ?_
  dsimp only [List.set]
  apply rn_seq
  refine rn_asgW (w := OL (badTable K)) (ew_cat (el_ow (as := (badTable K).take 12) rfl) (el_w (ew_lst (as := [Dt K (DT [[0, 1, 1, 1, 1, 1, 1]]), Dt K (DI [0, 1])]) (es_cons (l1 (d := DI [0, 1, 1, 1, 1, 1, 1]) (ev_fixD (ds := [0, 1, 1, 1, 1, 1, 1].map PyData.int)
    (ew_cat (as := [Dt K (.int 0)]) (bs := (List.replicate 6 [Dt K (.int 1)]).flatten) (el_w (ew_lst (es_cons ev_int es_nil) (sl _ (by simp)))) (el_w (ew_rep (K := K) (as := [Dt K (.int 1)]) (n := 6) (m := 6) (el_w (ew_lst (es_cons ev_int es_nil) (sl _ (by simp)))) ev_int rfl (by decide) (sl _ (by simp)))) (sl _ (by simp))))) (es_cons (i2 0 1) es_nil)) (sl _ (by simp)))) (sl _ (by simp [badTable]))) ?_
  dsimp only [List.set]
  apply rn_seq
  refine rn_if (b := decide (x % 24 < 14)) (eb_test (K := K) (ev_I0b (g := fun i j => decide (i < j)) (ev_Ii (g := fun i j => i % j) (ev_var rfl) ev_int (by decide)) ev_int)) (fun hb => ?_) fun hb => ?_
  · have hb := of_decide_eq_true hb
    have e : badA K x m = (badTable K).getD (x % 24).toNat (Dt K .none) := by unfold badA; rw [if_pos hb]
    rw [e]
    refine rn_ret (ev_ixL (i := x % 24) (el_ow rfl) (ev_Ii (g := fun i j => i % j) (ev_var rfl) ev_int (by decide)) (at_nat (j := (x % 24).toNat) (getq _ (by show _ < 14; omega)) (by omega))) (As.le_refl _)
  have hb := of_decide_eq_false hb
  have e : badA K x m = Dt K (.list ((matD (1 + m % 3).toNat (2 + m / 3 % 4).toNat (x / 24 % (1 + m % 3)).toNat (x / 72 % (2 + m / 3 % 4)).toNat (x % 24 - 14).toNat).map PyData.list)) := by unfold badA; rw [if_neg hb]
  rw [e]
  apply rn_next
  obtain ⟨r, hr⟩ : ∃ r : Nat, r = (1 + m % 3).toNat := ⟨_, rfl⟩
  obtain ⟨cl, hcl⟩ : ∃ r : Nat, r = (2 + m / 3 % 4).toNat := ⟨_, rfl⟩
  have er : (1 + m % 3 : Int) = ((r : Nat) : Int) := by omega
  have ec : (2 + m / 3 % 4 : Int) = ((cl : Nat) : Int) := by omega
  rw [← hr, ← hcl, er, ec]
  have hr3 : 1 ≤ r ∧ r ≤ 3 := by omega
  have hc5 : 2 ≤ cl ∧ cl ≤ 5 := by omega
  have h7 := Int.emod_lt_of_pos (x / 24) (show (0 : Int) < (r : Int) by omega)
  have h8 := Int.emod_nonneg (x / 24) (show (r : Int) ≠ 0 by omega)
  have h9 := Int.emod_lt_of_pos (x / 72) (show (0 : Int) < (cl : Int) by omega)
  have h10 := Int.emod_nonneg (x / 72) (show (cl : Int) ≠ 0 by omega)
  apply rn_seq
  refine rn_asgG (a := Dt K (.tuple [.int (r : Nat), .int (cl : Nat)])) (ev_tupD (ed_cons ((ev_I0i (g := fun i j => i + j) ev_int (ev_Ii (g := fun i j => i % j) (ev_var rfl) ev_int (by decide))).is (by rw [er])) (ed_cons ((ev_I0i (g := fun i j => i + j) ev_int (ev_Ii (g := fun i j => i % j) (ev_Ii (g := fun i j => i / j) (ev_var rfl) ev_int ⟨by omega, by omega⟩) ev_int (by decide))).is (by rw [ec])) ed_nil)) (sl _ (by simp))) (eg_tup (ds := [_, _]) (eg_cons eg_name (eg_cons eg_name eg_nil)) rfl) ?_
  dsimp only [List.set]
  apply rn_seq
  refine rn_asgW (w := OD K (cellsD r cl)) ?_ ?_
  · refine ew_lcOO (g := gName 7) (vs := [7]) (xs := (List.range r).map fun i => Dt K (.int ((i : Nat) : Int))) ((cellsD r cl).map fun q => q.map (Dt K)) (gw_name (by decide)) ?_ (by rw [List.length_map, List.length_map, cells_len, List.length_range]) (by rw [List.length_map, List.length_range]; omega) fun i a ha => ⟨_, eg_name, fun q hq => ?_⟩
    · have j := ei_rng1 (K := K) (Γ := [.as (Dt K (.int x)), .as (Dt K (.int m)), .ow (OL (badTable K)), .as (Dt K (.int (r : Nat))), .as (Dt K (.int (cl : Nat))), .un, .un, .un, .un]) (t := tCons (tVar 3) tNil) (n := (r : Nat)) (es_cons (ev_var rfl) es_nil) (by omega)
      rw [Int.toNat_natCast] at j
      exact j
    · have hi : i < r := by
        have := (List.getElem?_eq_some_iff.mp ha).1
        simpa using this
      rw [List.getElem?_map, List.getElem?_range hi] at ha
      obtain rfl := Option.some.inj ha
      have e : ((cellsD r cl).map fun q => q.map (Dt K))[i]? = some (((List.range cl).map fun j => PyData.int ((i * cl + j : Nat) : Int)).map (Dt K)) := by
        rw [List.getElem?_map]
        unfold cellsD
        rw [List.getElem?_map, List.getElem?_range hi]; rfl
      rw [e] at hq
      obtain rfl := Option.some.inj hq
      refine ew_lcM (K := K) (g := gName 8) (vs := [8]) (List.range cl) (fun j => Dt K (.int ((j : Nat) : Int))) (fun j => PyData.int ((i * cl + j : Nat) : Int)) ?_ (gw_name (by decide)) (by rw [List.length_range]; omega) fun j hj => ⟨_, eg_name, ?_⟩
      · have j := ei_rng1 (K := K) (Γ := [.as (Dt K (.int x)), .as (Dt K (.int m)), .ow (OL (badTable K)), .as (Dt K (.int (r : Nat))), .as (Dt K (.int (cl : Nat))), .un, .un, .as (Dt K (.int ((i : Nat) : Int))), .un]) (t := tCons (tVar 4) tNil) (n := (cl : Nat)) (es_cons (ev_var rfl) es_nil) (by omega)
        rw [Int.toNat_natCast] at j
        exact j
      · exact (ev_I0i (g := fun i j => i + j) (ev_Ii (g := fun i j => i * j) (ev_var (a := Dt K (.int ((i : Nat) : Int))) rfl) (ev_var (a := Dt K (.int (cl : Nat))) rfl) (mulOk (a := 10) (b := 10) (by omega) (by omega) (by decide) (by decide) (by decide))) (ev_var (a := Dt K (.int ((j : Nat) : Int))) rfl)).is (by simp)
  dsimp only [List.set]
  apply rn_seq
  refine rn_asgW (w := OL ((strangeL r cl).map (Dt K))) (ew_lst (es_cons ev_non (es_cons ev_str (es_cons ev_bl (es_cons ev_bl (es_cons (ev_negI ev_int) (es_cons ((ev_Ii (g := fun i j => i * j) (ev_var (a := Dt K (.int (r : Nat))) rfl) (ev_var (a := Dt K (.int (cl : Nat))) rfl) (mulOk (a := 10) (b := 10) (by omega) (by omega) (by decide) (by decide) (by decide))).is (by simp)) (es_cons (i1 1)
    (es_cons (ev_tup (ds := [.int 0]) (es_cons ev_int es_nil) (sl _ (by simp))) (es_cons ((ev_Ii (g := fun i j => i ^ j.toNat) (i := 10) (j := 9) ev_int ev_int ⟨by decide, by decide, by decide⟩).is (by rfl)) (es_cons ev_int es_nil)))))))))) (sl _ (by simp [strangeL]))) ?_
  refine rn_fixD (i := 6) (ds := strangeL r cl) rfl ?_
  dsimp only [List.set]
  obtain ⟨xi, hxi⟩ : ∃ n : Nat, n = (x / 24 % (r : Int)).toNat := ⟨_, rfl⟩
  obtain ⟨yi, hyi⟩ : ∃ n : Nat, n = (x / 72 % (cl : Int)).toNat := ⟨_, rfl⟩
  obtain ⟨zi, hzi⟩ : ∃ n : Nat, n = (x % 24 - 14).toNat := ⟨_, rfl⟩
  rw [← hxi, ← hyi, ← hzi]
  have hxl : xi < (cellsD r cl).length := by rw [cells_len]; omega
  have hrowl : ∀ i, i < r → ((cellsD r cl).getD i []).length = cl := fun i hi => cells_row r cl _ (getD_mem (by rw [cells_len]; exact hi))
  apply rn_seq
  refine rn_asgH (a := Dt K ((strangeL r cl).getD zi .none)) (ev_ixLD (ds := strangeL r cl) (i := x % 24 - 14) (el_dt (ev_var rfl)) (ev_I0i (g := fun i j => i - j) (ev_Ii (g := fun i j => i % j) (ev_var rfl) ev_int (by decide)) ev_int) (at_nat (j := zi) (getq _ (by show _ < 10; omega)) (by omega)))
    (gh_setOD (i := 5) (m := xi) (n := yi) (x := x / 24 % (r : Int)) (y := x / 72 % (cl : Int)) (row := (cellsD r cl).getD xi []) rfl (ev_Ii (g := fun i j => i % j) (ev_Ii (g := fun i j => i / j) (ev_var (a := Dt K (.int x)) rfl) ev_int ⟨by omega, by omega⟩) (ev_var (a := Dt K (.int (r : Nat))) rfl) (by omega)) (ev_Ii (g := fun i j => i % j) (ev_Ii (g := fun i j => i / j) (ev_var (a := Dt K (.int x)) rfl) ev_int ⟨by omega, by omega⟩) (ev_var (a := Dt K (.int (cl : Nat))) rfl) (by omega)) (by omega) (by omega) (getq [] hxl) (by rw [hrowl xi (by omega)]; omega)) ?_
  dsimp only [List.set]
  obtain ⟨bt, hbt⟩ : ∃ bt, bt = setD (cellsD r cl) xi yi ((strangeL r cl).getD zi .none) := ⟨_, rfl⟩
  have hbt' : (cellsD r cl).set xi (((cellsD r cl).getD xi []).set yi ((strangeL r cl).getD zi .none)) = bt := by rw [hbt]; rfl
  rw [hbt']
  have hbr : ∀ q ∈ bt, q.length = cl := by rw [hbt]; exact setD_row (cells_row r cl) hxl
  have hbl : bt.length = r := by rw [hbt, setD_len, cells_len]
  have hmat : matD r cl xi yi zi = if zi = 9 then setD (setD bt 0 0 (.int 1)) 0 1 (.int 1) else bt := by rw [hbt]; rfl
  apply rn_seq
  refine rn_if (b := decide (x % 24 = 23)) (eb_test (K := K) (ev_eqI (ev_Ii (g := fun i j => i % j) (ev_var (a := Dt K (.int x)) rfl) ev_int (by decide)) ev_int)) (fun hb2 => ?_) fun hb2 => ?_
  · have hb2 := of_decide_eq_true hb2
    have h1r : ∀ q ∈ setD bt 0 0 (.int 1), q.length = cl := setD_row hbr (by omega)
    refine rn_asgH (a := TpA K [Dt K (.int 1), Dt K (.int 1)]) (ev_tupA (es_cons ev_int (es_cons ev_int es_nil)) (sl _ (by simp))) (gh_tup (gh_cons (gh_setOD (i := 5) (m := 0) (n := 0) (row := bt.getD 0 []) rfl ev_int ev_int rfl rfl (getq [] (by omega)) (by rw [hbr _ (getD_mem (by omega))]; omega))
      (gh_cons (gh_setOD (i := 5) (m := 0) (n := 1) (row := (setD bt 0 0 (.int 1)).getD 0 []) rfl ev_int ev_int rfl rfl (getq [] (by rw [List.length_set]; omega)) (by rw [h1r _ (getD_mem (by rw [setD_len]; omega))]; omega)) gh_nil)) rfl) ?_
    dsimp only [List.set]
    refine rn_fixOD (i := 5) (tr := setD (setD bt 0 0 (.int 1)) 0 1 (.int 1)) rfl ?_
    refine rn_ret (ev_var rfl) ?_
    rw [hmat, if_pos (by omega)]
    exact As.le_refl _
  · have hb2 := of_decide_eq_false hb2
    apply rn_next
    refine rn_fixOD (i := 5) (tr := bt) rfl ?_
    refine rn_ret (ev_var rfl) ?_
    rw [hmat, if_neg (by omega)]
    exact As.le_refl _
end
abbrev s_law_told : Stmt := topS 41
theorem sc_law_told : FnScope ["_law_kind", "_law_which", "_law_more", "_law_tray", "_law_bad", "_law_door", "_law_other", "error", "_law_found"] ["_law_kind", "_law_which", "_law_more"] (defScope s_law_told) :=
  ⟨rfl, rfl, rfl, by decide +kernel, rfl, by decide +kernel, by decide +kernel⟩
section
variable {P : Program} {w : World} {K : PySem.W.Frag} {mg : Str → Option Value} {base : Heap} {Γ : List Sl} {c : Cb} {k : Kt}
theorem step_none {t : List (List Int)} : ∀ {l : List Nat}, (∃ c ∈ l, stepOf c = none) → slidAllM t l = none
  | [], h => by obtain ⟨c, h, _⟩ := h; cases h
  | a :: l, h => by
    unfold slidAllM
    rw [List.foldlM_cons]
    cases hs : slidM t a with
    | none => rfl
    | some u =>
      obtain ⟨c, hc, hn⟩ := h
      rcases List.mem_cons.mp hc with rfl | hc
      · rw [slid_nostep hn] at hs; cases hs
      · exact step_none ⟨c, hc, hn⟩
/-! what is no slides -/
def BadSl (K : PySem.W.Frag) (a : As) : Prop := NoStr K a ∨ ∃ l, a = Dt K (DS l) ∧ (∀ c ∈ l, Lett c) ∧ l.length ≤ 1000 ∧ ∃ c ∈ l, stepOf c = none
theorem bad_moved {a : As} {CB CS : Addr} {t : List (List Int)} {W : Nat} (ht : TrayOk t W) (h : BadSl K a) : R_moved K CB CS [Dt K (DT t), a] (.exc CS) := by
  rcases h with h | ⟨l, rfl, h1, h2, h3⟩
  · exact .inr (.inl ⟨t, W, a, rfl, ht, h, rfl⟩)
  · exact .inr (.inr ⟨t, W, l, rfl, ht, h1, by omega, by rw [step_none h3]⟩)
theorem all_none {l : List Nat} (h : ∃ c ∈ l, stepOf c = none) : (l.all fun c => (stepOf c).isSome) = false := by
  rw [Bool.eq_false_iff]
  intro e
  obtain ⟨c, hc, hn⟩ := h
  have := List.all_eq_true.mp e c hc
  rw [hn] at this
  cases this
theorem bad_undone {a : As} {CS : Addr} (h : BadSl K a) : R_undone K CS [a] (.exc CS) := by
  rcases h with h | ⟨l, rfl, h1, h2, h3⟩
  · exact .inl ⟨a, rfl, h, rfl⟩
  · exact .inr ⟨l, rfl, h1, by omega, by rw [all_none h3]; rfl⟩
theorem bad_thinned {a : As} {CS : Addr} (h : BadSl K a) : R_thinned K CS [a] (.exc CS) := by
  rcases h with h | ⟨l, rfl, h1, h2, h3⟩
  · exact .inl ⟨a, rfl, h, rfl⟩
  · exact .inr ⟨l, rfl, h1, by omega, by rw [all_none h3]; rfl⟩
def slTable (K : PySem.W.Frag) (n : Nat) : List As := [Dt K .none, Dt K (.int 5), Dt K (.list [DS [117]]), Dt K (.tuple [DS [100]]), Dt K (DS [85]), Dt K (DS [100, 32, 120]), Dt K (.bool true), DkA [], Dt K (DS ((List.replicate n [108, 100]).flatten ++ [63]))]
theorem rep_mem {l : List Nat} {n x : Nat} (h : x ∈ (List.replicate n l).flatten) : x ∈ l := by
  obtain ⟨q, hq, hx⟩ := List.mem_flatten.mp h
  rw [(List.mem_replicate.mp hq).2] at hx
  exact hx
theorem rep_len (l : List Nat) : ∀ n : Nat, (List.replicate n l).flatten.length = n * l.length
  | 0 => by simp
  | n + 1 => by rw [List.replicate_succ, List.flatten_cons, List.length_append, rep_len l n, Nat.succ_mul, Nat.add_comm]
theorem dq_tupTy {H : Hp} {a : Addr} {xs : List V} (h : SqT K H a xs) : TyX K H (.ref a) (.type "tuple") := by
  rcases h with (h | ⟨o, h⟩) | ⟨o, its, n, h, hc, _⟩
  · exact .base (.tup h)
  · exact .fTuple h
  · exact .kTuple h hc
theorem no_str {d : PyData} {T : String} (h : ∀ H v, Dq K H v d → TyX K H v (.type T)) (hk : kitB T "str" = some false) : BadSl K (Dt K d) := .inl ⟨T, h, hk⟩
theorem slTable_bad {z n : Nat} (hz : z < 9) (hn : n ≤ 100) : BadSl K ((slTable K n).getD z (Dt K .none)) := by
  have : z = 0 ∨ z = 1 ∨ z = 2 ∨ z = 3 ∨ z = 4 ∨ z = 5 ∨ z = 6 ∨ z = 7 ∨ z = 8 := by omega
  rcases this with rfl | rfl | rfl | rfl | rfl | rfl | rfl | rfl | rfl
  · exact no_str (fun H v h => by cases h; exact .base .non) (by decide +kernel)
  · exact no_str (fun H v h => by cases h; exact .base (.int _)) (by decide +kernel)
  · exact no_str (fun H v h => by cases h with | lst h _ => exact .base (.lst h)) (by decide +kernel)
  · refine no_str (T := "tuple") (fun H v h => ?_) (by decide +kernel)
    cases h with
    | tup h _ => exact dq_tupTy h
  · exact .inr ⟨_, rfl, by simp [Lett], by simp, 85, by simp, by decide⟩
  · exact .inr ⟨_, rfl, by simp [Lett, stepOf], by simp, 32, by simp, by decide⟩
  · exact no_str (fun H v h => by cases h; exact .base (.bl _)) (by decide +kernel)
  · refine .inl ⟨"dict", fun H v h => ?_, by decide +kernel⟩
    obtain ⟨p, kvs, rfl, hp, _⟩ := h
    exact .base (.dK hp)
  · refine .inr ⟨_, rfl, fun c hc => ?_, by rw [List.length_append, rep_len]; simp; omega, 63, by simp, by decide⟩
    rcases List.mem_append.mp hc with h | h
    · have := rep_mem h
      simp at this
      rcases this with rfl | rfl <;> exact .inl rfl
    · obtain rfl : c = 63 := by simpa using h
      exact .inr (.inr (.inr (.inr rfl)))
/-! slides that leave the tray -/
def offTable (n : Nat) : List (List Nat) := [[117], [114], [100, 100], [108, 108], (List.replicate (1 + n % 3) [100, 114, 117]).flatten, [108] ++ (List.replicate (2 + n % 5) [100]).flatten]
theorem off_none {z n : Nat} (hz : z < 6) : slidAllM [[1, 0], [2, 3]] ((offTable n).getD z []) = none := by
  have : z = 0 ∨ z = 1 ∨ z = 2 ∨ z = 3 ∨ z = 4 ∨ z = 5 := by omega
  rcases this with rfl | rfl | rfl | rfl | rfl | rfl
  · show slidAllM _ [117] = none; decide
  · show slidAllM _ [114] = none; decide
  · show slidAllM _ [100, 100] = none; decide
  · show slidAllM _ [108, 108] = none; decide
  · show slidAllM _ (List.replicate (1 + n % 3) [100, 114, 117]).flatten = none
    rw [Nat.add_comm, List.replicate_succ, List.flatten_cons]
    exact slidAll_stop (i := 2) (by show slidAllM _ [100, 114] = none; decide)
  · show slidAllM _ ([108] ++ (List.replicate (2 + n % 5) [100]).flatten) = none
    rw [show 2 + n % 5 = n % 5 + 1 + 1 by omega, List.replicate_succ, List.replicate_succ, List.flatten_cons, List.flatten_cons]
    exact slidAll_stop (i := 3) (by show slidAllM _ [108, 100, 100] = none; decide)
theorem off_ok {z n : Nat} (hz : z < 6) : (∀ c ∈ (offTable n).getD z [], Lett c) ∧ ((offTable n).getD z []).length ≤ 1000 := by
  have h3 : n % 3 < 3 := Nat.mod_lt _ (by decide)
  have h5 : n % 5 < 5 := Nat.mod_lt _ (by decide)
  have : z = 0 ∨ z = 1 ∨ z = 2 ∨ z = 3 ∨ z = 4 ∨ z = 5 := by omega
  rcases this with rfl | rfl | rfl | rfl | rfl | rfl
  · exact ⟨by simp [offTable, Lett, stepOf], by simp [offTable]⟩
  · exact ⟨by simp [offTable, Lett, stepOf], by simp [offTable]⟩
  · exact ⟨by simp [offTable, Lett, stepOf], by simp [offTable]⟩
  · exact ⟨by simp [offTable, Lett, stepOf], by simp [offTable]⟩
  · refine ⟨fun c hc => ?_, by show (List.replicate (1 + n % 3) [100, 114, 117]).flatten.length ≤ 1000; rw [rep_len]; simp; omega⟩
    have := rep_mem hc
    simp at this
    rcases this with rfl | rfl | rfl <;> exact .inl rfl
  · refine ⟨fun c hc => ?_, by show ([108] ++ (List.replicate (2 + n % 5) [100]).flatten).length ≤ 1000; rw [List.length_append, rep_len]; simp; omega⟩
    rcases List.mem_append.mp hc with h | h
    · obtain rfl : c = 108 := by simpa using h
      exact .inl rfl
    · have := rep_mem h
      obtain rfl : c = 100 := by simpa using this
      exact .inl rfl
/-! trays of other sides -/
def otherT (z : Nat) : List (List Int) := ([[[0]], [[0, 1]], [[0], [1]], [[0, 1, 2], [3, 4, 5]], [[0, 1], [2, 3], [4, 5]]] : List (List (List Int))).getD z []
theorem other_ok {z : Nat} (hz : z < 5) : ∃ W, TrayOk (otherT z) W ∧ (2 ≠ (otherT z).length ∨ 2 ≠ W) := by
  have : z = 0 ∨ z = 1 ∨ z = 2 ∨ z = 3 ∨ z = 4 := by omega
  rcases this with rfl | rfl | rfl | rfl | rfl
  · exact ⟨1, ⟨by decide, by decide, fun x hx => by simp [otherT] at hx; subst hx; rfl, by decide⟩, by decide⟩
  · exact ⟨2, ⟨by decide, by decide, fun x hx => by simp [otherT] at hx; subst hx; rfl, by decide⟩, by decide⟩
  · exact ⟨1, ⟨by decide, by decide, fun x hx => by simp [otherT] at hx; rcases hx with rfl | rfl <;> rfl, by decide⟩, by decide⟩
  · exact ⟨3, ⟨by decide, by decide, fun x hx => by simp [otherT] at hx; rcases hx with rfl | rfl <;> rfl, by decide⟩, by decide⟩
  · exact ⟨2, ⟨by decide, by decide, fun x hx => by simp [otherT] at hx; rcases hx with rfl | rfl | rfl <;> rfl, by decide⟩, by decide⟩
structure ErrOk (K : PySem.W.Frag) (C CB CS CU CT : Addr) (b1 b2 b3 : Bool) : Prop where
  x : ExcC K C
  m : PySem.W.exmOne K (.ref C) (.ref CT) = some true
  e1 : PySem.W.kitOne K (.ref C) (.ref CB) = some b1
  e2 : PySem.W.kitOne K (.ref C) (.ref CS) = some b2
  e3 : PySem.W.kitOne K (.ref C) (.ref CU) = some b3
  ve : PySem.W.kitOne K (.ref C) (.type "ValueError") = some true
def dueC (CB CS CU : Addr) (k : Int) : Addr := if k = 0 then CB else if k = 3 then CU else CS
def dueD (k : Int) : PyData := .list [.bool (decide (k = 0)), .bool (decide (k = 1) || decide (k = 2)), .bool (decide (k = 3)), .bool true]
theorem getq_as {z : Nat} {l : List As} {d : As} (h : z < l.length) : l[z]? = some (l.getD z d) := getq d h
def R_law_told (K : PySem.W.Frag) (as : List As) (o : Outc) : Prop := ∃ (k x m : Int), as = [Dt K (.int k), Dt K (.int x), Dt K (.int m)] ∧ 0 ≤ k ∧ k < 4 ∧ 0 ≤ m ∧ o = .ret (Dt K (dueD k))
theorem ok_law_told {f : Addr} {fd : FuncData} {a_BadTray a_BadSlides a_Unlike a_TrayError : Addr} (F : L2.Fun K "_law_told" "_law_told" s_law_told f fd) (c_law_with_tray : Cl P w K mg base (L2.CX P w) 5 "_law_with_tray" (SpD 2 (R_law_with_tray K a_BadTray))) (c_law_great : Cl P w K mg base L2.CX0 1 "_law_great" (SpD 1 (R_law_great K))) (c_law_bad_tray : Cl P w K mg base L2.CX0 1 "_law_bad_tray" (SpD 2 (R_law_bad_tray K)))
    (c_moved : Cl P w K mg base (L2.CX P w) 4 "moved" (SpD 2 (R_moved K a_BadTray a_BadSlides))) (c_undone : Cl P w K mg base (L2.CX P w) 2 "undone" (SpD 1 (R_undone K a_BadSlides))) (c_thinned : Cl P w K mg base (L2.CX P w) 2 "thinned" (SpD 1 (R_thinned K a_BadSlides))) (c_told : Cl P w K mg base (L2.CX P w) 3 "told" (SpD 2 (R_told K a_BadTray a_Unlike)))
    (g_TrayError : mg "TrayError" = some (.ref a_TrayError)) (g_BadTray : mg "BadTray" = some (.ref a_BadTray)) (g_BadSlides : mg "BadSlides" = some (.ref a_BadSlides)) (g_Unlike : mg "Unlike" = some (.ref a_Unlike))
    (hX1 : ErrOk K a_BadTray a_BadTray a_BadSlides a_Unlike a_TrayError true false false) (hX2 : ErrOk K a_BadSlides a_BadTray a_BadSlides a_Unlike a_TrayError false true false) (hX3 : ErrOk K a_Unlike a_BadTray a_BadSlides a_Unlike a_TrayError false false true)
    (n_isinstance : mg "isinstance" = none) (n_ValueError : mg "ValueError" = none) : FnOk P w K mg base L2.CX0 6 f fd ["_law_kind", "_law_which", "_law_more"] (SpD 3 (R_law_told K)) := by
  refine def_ok F sc_law_told rfl fun cdv A outer s Hf H as o E hr hR => ?_
  obtain ⟨k, x, m, rfl, hk0, hk4, hm0, rfl⟩ := hR
  refine ⟨_, (pss_cons (ps_set (i := 3) sc_law_told.nd rfl (by first | exact Or.inl rfl | exact Or.inr rfl) (pe_lst (pa_cons (pe_lst (pa_cons pe_int (pa_cons pe_int pa_nil))) (pa_cons (pe_lst (pa_cons pe_int (pa_cons pe_int pa_nil))) pa_nil))))
      (pss_cons (ps_tryT K (i := 7) rfl rfl sc_law_told.nd rfl rfl ⟨rfl, by decide, Or.inl g_TrayError⟩ (fun W pn xe tk _ => (pss_one (ps_if (PW.pt (pw_and (pt_cmpR op_eq (pv 0) pe_int (nomark _)) (pw_and1 (pt_cmpR op_eq (pe_op op_mod (pv 1) pe_int) pe_int (nomark _))))) (pss_one (ps_expr (by exact (pe_clX c_law_with_tray hr (by decide) (by rfl) tk (pa_cons (pe_op op_mod (pe_op op_fdiv (pv 1) pe_int) pe_int) (pa_cons (by exact (pe_cl c_law_great hr (by decide) (by rfl) (pa_cons (pe_op op_fdiv (pv 1) pe_int) pa_nil))) pa_nil)))))) (pss_one (ps_if (pt_cmpR op_eq (pv 0) pe_int (nomark _)) (pss_one (ps_expr (by exact (pe_clX c_law_with_tray hr (by decide) (by rfl) tk (pa_cons (pe_op op_mod (pe_op op_fdiv (pv 1) pe_int) pe_int) (pa_cons (by exact (pe_cl c_law_bad_tray hr (by decide) (by rfl) (pa_cons (pv 1) (pa_cons (pv 2) pa_nil)))) pa_nil)))))) (pss_one (ps_if (pt_cmpR op_eq (pv 0) pe_int (nomark _)) (pss_cons (ps_set (i := 4) sc_law_told.nd rfl (by first | exact Or.inl rfl | exact Or.inr rfl) (pe_ix (ix_listK K) (pe_lst (pa_cons pe_non (pa_cons pe_int (pa_cons (pe_lst (pa_cons pe_str pa_nil)) (pa_cons (pe_tup (pa_cons pe_str pa_nil)) (pa_cons pe_str (pa_cons pe_str (pa_cons pe_bl (pa_cons pe_dnewK (pa_cons (pe_op op_addStr (pe_op op_mulS pe_str (pe_op op_mod (pv 2) pe_int)) pe_str) pa_nil)))))))))) (pe_op op_mod (pv 1) pe_int) (fun _ _ => rfl)))
      (pss_cons (ps_set (i := 5) sc_law_told.nd rfl (by first | exact Or.inl rfl | exact Or.inr rfl) (pe_op op_mod (pe_op op_fdiv (pv 1) pe_int) pe_int))
      (pss_one (ps_expr (pe_ifExp (pt_cmpR op_eq (pv 5) pe_int (nomark _)) (by exact (pe_clX c_moved hr (by decide) (by rfl) tk (pa_cons (pv 3) (pa_cons (pv 4) pa_nil)))) (pe_ifExp (pt_cmpR op_eq (pv 5) pe_int (nomark _)) (by exact (pe_clX c_undone hr (by decide) (by rfl) tk (pa_cons (pv 4) pa_nil))) (by exact (pe_clX c_thinned hr (by decide) (by rfl) tk (pa_cons (pv 4) pa_nil))))))))) (pss_one (ps_if (pt_cmpR op_eq (pv 0) pe_int (nomark _)) (pss_one (ps_expr (by exact (pe_clX c_moved hr (by decide) (by rfl) tk (pa_cons (pv 3) (pa_cons (pe_ix (ix_listK K) (pe_lst (pa_cons pe_str (pa_cons pe_str (pa_cons pe_str (pa_cons pe_str (pa_cons (pe_op op_mulS pe_str (pe_op op_add pe_int (pe_op op_mod (pv 2) pe_int))) (pa_cons (pe_op op_addStr pe_str (pe_op op_mulS pe_str (pe_op op_add pe_int (pe_op op_mod (pv 2) pe_int)))) pa_nil))))))) (pe_op op_mod (pv 1) pe_int) (fun _ _ => rfl)) pa_nil)))))) (pss_cons (ps_set (i := 6) sc_law_told.nd rfl (by first | exact Or.inl rfl | exact Or.inr rfl) (pe_ix (ix_listK K) (pe_lst (pa_cons (pe_lst (pa_cons (pe_lst (pa_cons pe_int pa_nil)) pa_nil)) (pa_cons (pe_lst (pa_cons (pe_lst (pa_cons pe_int (pa_cons pe_int pa_nil))) pa_nil)) (pa_cons (pe_lst (pa_cons (pe_lst (pa_cons pe_int pa_nil)) (pa_cons (pe_lst (pa_cons pe_int pa_nil)) pa_nil))) (pa_cons (pe_lst (pa_cons (pe_lst (pa_cons pe_int (pa_cons pe_int (pa_cons pe_int pa_nil)))) (pa_cons (pe_lst (pa_cons pe_int (pa_cons pe_int (pa_cons pe_int pa_nil)))) pa_nil))) (pa_cons (pe_lst (pa_cons (pe_lst (pa_cons pe_int (pa_cons pe_int pa_nil))) (pa_cons (pe_lst (pa_cons pe_int (pa_cons pe_int pa_nil))) (pa_cons (pe_lst (pa_cons pe_int (pa_cons pe_int pa_nil))) pa_nil)))) pa_nil)))))) (pe_op op_mod (pv 1) pe_int) (fun _ _ => rfl)))
      (pss_one (ps_expr (pe_ifExp (pt_cmpR op_eq (pe_op op_mod (pe_op op_fdiv (pv 1) pe_int) pe_int) pe_int (nomark _)) (by exact (pe_clX c_told hr (by decide) (by rfl) tk (pa_cons (pv 3) (pa_cons (pv 6) pa_nil)))) (by exact (pe_clX c_told hr (by decide) (by rfl) tk (pa_cons (pv 6) (pa_cons (pv 3) pa_nil))))))))))))))))) (fun a oe cls d pn hz hf => (pss_cons (ps_set (i := 8) sc_law_told.nd rfl (by first | exact Or.inl rfl | exact Or.inr rfl) (pe_lst (pa_cons (by exact (pe_callB (call_isE1 K hz hf) (by rfl) n_isinstance (by decide +kernel) (pa_cons (pv 7) (pa_cons (pe_glob (v := .ref a_BadTray) (by rfl) g_BadTray rfl) pa_nil)))) (pa_cons (by exact (pe_callB (call_isE1 K hz hf) (by rfl) n_isinstance (by decide +kernel) (pa_cons (pv 7) (pa_cons (pe_glob (v := .ref a_BadSlides) (by rfl) g_BadSlides rfl) pa_nil)))) (pa_cons (by exact (pe_callB (call_isE1 K hz hf) (by rfl) n_isinstance (by decide +kernel) (pa_cons (pv 7) (pa_cons (pe_glob (v := .ref a_Unlike) (by rfl) g_Unlike rfl) pa_nil)))) pa_nil)))))
      (pss_one (ps_ret (pe_op op_cat (pv 8) (pe_lst (pa_cons (by exact (pe_callB (call_isE1 K hz hf) (by rfl) n_isinstance (by decide +kernel) (pa_cons (pv 7) (pa_cons (pe_bltn (v := .ty "ValueError") (by rfl) n_ValueError (by decide +kernel) rfl) pa_nil)))) pa_nil))))))))
      (pss_one (ps_ret (pe_lst pa_nil))))), ?_⟩
  have sl : ∀ n : Nat, n ≤ 1000 → n ≤ sizeLine := fun n h => by rw [sizeLine_eq]; omega
  have hX : ErrOk K (dueC a_BadTray a_BadSlides a_Unlike k) a_BadTray a_BadSlides a_Unlike a_TrayError (decide (k = 0)) (decide (k = 1) || decide (k = 2)) (decide (k = 3)) := by
    unfold dueC
    obtain rfl | rfl | rfl | rfl : k = 0 ∨ k = 1 ∨ k = 2 ∨ k = 3 := by omega
    · exact hX1
    · exact hX2
    · exact hX2
    · exact hX3
  change Rn _ _ [.as (Dt K (.int k)), .as (Dt K (.int x)), .as (Dt K (.int m)), .un, .un, .un, .un, .un, .un] _
  apply rn_seq
  refine rn_asg (a := Dt K (DT [[1, 0], [2, 3]])) ev_tray22 ?_
  dsimp only [List.set]
  apply rn_seq
  refine rn_try (fun C Γ' => C = dueC a_BadTray a_BadSlides a_Unlike k ∧ Γ'.length = 9) (fun W hW => ?_) ?_
  · have x24 := Int.emod_nonneg x (show (25 : Int) ≠ 0 by decide)
    refine rn_if (b := decide (k = 0) && decide (x % 25 = 0)) (eb_and' (eb_test (K := K) (ev_eqI (ev_var rfl) ev_int)) (eb_test (K := K) (ev_eqI (ev_Ii (g := fun i j => i % j) (ev_var rfl) ev_int (by decide)) ev_int))) (fun hb => ?_) fun hb => ?_
    · have hk : k = 0 := by
        rw [Bool.and_eq_true, decide_eq_true_eq] at hb
        exact hb.1
      subst hk
      exact rn_dropR (C := a_BadTray) (er_callS (as := [_, Dt K (DT (greatT (x / 100)))]) (es_cons (ev_Ii (g := fun i j => i % j) (ev_Ii (g := fun i j => i / j) (ev_var rfl) ev_int ⟨by omega, by omega⟩) ev_int (by decide)) (es_cons (ev_call (as := [Dt K (.int (x / 100))]) (es_cons (ev_Ii (g := fun i j => i / j) (ev_var rfl) ev_int ⟨by omega, by omega⟩) es_nil) ⟨_, rfl, rfl⟩ rfl) es_nil)) ⟨_, _, rfl, great_bad _, rfl⟩ rfl) fun s => hW _ _ ⟨rfl, rfl⟩ s
    refine rn_if (b := decide (k = 0)) (eb_test (K := K) (ev_eqI (ev_var rfl) ev_int)) (fun hb => ?_) fun hb => ?_
    · obtain rfl : k = 0 := of_decide_eq_true hb
      exact rn_dropR (C := a_BadTray) (er_callS (as := [_, badA K x m]) (es_cons (ev_Ii (g := fun i j => i % j) (ev_Ii (g := fun i j => i / j) (ev_var rfl) ev_int ⟨by omega, by omega⟩) ev_int (by decide)) (es_cons (ev_call (as := [Dt K (.int x), Dt K (.int m)]) (es_cons (ev_var rfl) (es_cons (ev_var rfl) es_nil)) ⟨x, m, rfl, rfl⟩ rfl) es_nil)) ⟨_, _, rfl, badA_bad, rfl⟩ rfl) fun s => hW _ _ ⟨rfl, rfl⟩ s
    have hk1 := of_decide_eq_false hb
    refine rn_if (b := decide (k = 1)) (eb_test (K := K) (ev_eqI (ev_var rfl) ev_int)) (fun hb => ?_) fun hb => ?_
    · obtain rfl : k = 1 := of_decide_eq_true hb
      have z1 := Int.emod_lt_of_pos x (show (0 : Int) < 9 by decide)
      have z2 := Int.emod_nonneg x (show (9 : Int) ≠ 0 by decide)
      have m1 := Int.emod_lt_of_pos m (show (0 : Int) < 9 by decide)
      have m2 := Int.emod_nonneg m (show (9 : Int) ≠ 0 by decide)
      obtain ⟨z, hz⟩ : ∃ z : Nat, z = (x % 9).toNat := ⟨_, rfl⟩
      obtain ⟨n, hn⟩ : ∃ n : Nat, n = (m % 9).toNat := ⟨_, rfl⟩
      have hbad := slTable_bad (K := K) (z := z) (n := n) (by omega) (by omega)
      have htl : z < (slTable K n).length := by show z < 9; omega
      apply rn_seq
      refine rn_asg (a := (slTable K n).getD z (Dt K .none)) (ev_ixL (i := x % 9) (el_w (ew_lst (as := slTable K n) (es_cons ev_non (es_cons ev_int (es_cons (ev_lst (ds := [DS [117]]) (es_cons ev_str es_nil) (sl _ (by simp))) (es_cons (ev_tup (ds := [DS [100]]) (es_cons ev_str es_nil) (sl _ (by simp))) (es_cons ev_str (es_cons ev_str (es_cons ev_bl (es_cons ev_dnew (es_cons ?_ es_nil))))))))) (sl _ (by simp [slTable])))) (ev_Ii (g := fun i j => i % j) (ev_var rfl) ev_int (by decide)) (at_nat (j := z) (getq_as htl) (by omega))) ?_
      · exact (ev_addStr (x := SX.S (List.replicate n [108, 100]).flatten) (y := SX.S [63]) (ev_mulS (l := [108, 100]) (n := m % 9) (m := n) ev_str (ev_Ii (g := fun i j => i % j) (ev_var rfl) ev_int (by decide)) (by omega) (by omega) (by simp)) ev_str (by rw [SX.S_len, SX.S_len, rep_len, sizeLine_eq]; simp; omega)).is (by rw [SX.S_cat])
      dsimp only [List.set]
      generalize (slTable K n).getD z (Dt K .none) = bd at hbad
      apply rn_seq
      refine rn_asg (ev_Ii (g := fun i j => i % j) (ev_Ii (g := fun i j => i / j) (ev_var rfl) ev_int ⟨by omega, by omega⟩) ev_int (by decide)) ?_
      dsimp only [List.set]
      exact rn_dropR (C := a_BadSlides) (er_if (eb_test (K := K) (ev_eqI (ev_var rfl) ev_int)) (fun _ => er_callS (as := [Dt K (DT [[1, 0], [2, 3]]), bd]) (es_cons (ev_var rfl) (es_cons (ev_var rfl) es_nil)) (bad_moved tray22 hbad) rfl) fun _ => er_if (eb_test (K := K) (ev_eqI (ev_var rfl) ev_int)) (fun _ => er_callS (as := [bd]) (es_cons (ev_var rfl) es_nil) (bad_undone hbad) rfl) fun _ => er_callS (as := [bd]) (es_cons (ev_var rfl) es_nil) (bad_thinned hbad) rfl) fun s => hW _ _ ⟨rfl, rfl⟩ s
    have hk2 := of_decide_eq_false hb
    refine rn_if (b := decide (k = 2)) (eb_test (K := K) (ev_eqI (ev_var rfl) ev_int)) (fun hb => ?_) fun hb => ?_
    · obtain rfl : k = 2 := of_decide_eq_true hb
      have z1 := Int.emod_lt_of_pos x (show (0 : Int) < 6 by decide)
      have z2 := Int.emod_nonneg x (show (6 : Int) ≠ 0 by decide)
      have m1 := Int.emod_lt_of_pos m (show (0 : Int) < 3 by decide)
      have m2 := Int.emod_nonneg m (show (3 : Int) ≠ 0 by decide)
      have m3 := Int.emod_lt_of_pos m (show (0 : Int) < 5 by decide)
      have m4 := Int.emod_nonneg m (show (5 : Int) ≠ 0 by decide)
      obtain ⟨z, hz⟩ : ∃ z : Nat, z = (x % 6).toNat := ⟨_, rfl⟩
      obtain ⟨n, hn⟩ : ∃ n : Nat, n = m.toNat := ⟨_, rfl⟩
      have hz6 : z < 6 := by omega
      obtain ⟨ho1, ho2⟩ := off_ok (z := z) (n := n) hz6
      have htl : z < (offTable n).length := by show z < 6; omega
      have hsx : ((offTable n).map DS)[z]? = some (DS ((offTable n).getD z [])) := by rw [List.getElem?_map, getq [] htl]; rfl
      refine rn_dropR (C := a_BadSlides) (er_callS (as := [Dt K (DT [[1, 0], [2, 3]]), Dt K (DS ((offTable n).getD z []))]) (es_cons (ev_var rfl) (es_cons (ev_ixLD (ds := (offTable n).map DS) (i := x % 6) (el_w (ew_lstD (ed_cons ev_str (ed_cons ev_str (ed_cons ev_str (ed_cons ev_str (ed_cons ?_ (ed_cons ?_ ed_nil)))))) (sl _ (by simp [offTable])))) (ev_Ii (g := fun i j => i % j) (ev_var rfl) ev_int (by decide)) (at_nat hsx (by omega))) es_nil))
        (.inr (.inr ⟨_, 2, _, rfl, tray22, ho1, by omega, by rw [off_none hz6]⟩)) rfl) fun s => hW _ _ ⟨rfl, rfl⟩ s
      · exact ev_mulS (l := [100, 114, 117]) (m := 1 + n % 3) ev_str (ev_I0i (g := fun i j => i + j) ev_int (ev_Ii (g := fun i j => i % j) (ev_var rfl) ev_int (by decide))) (by omega) (by omega) (by simp)
      · exact (ev_addStr (x := SX.S [108]) (y := SX.S (List.replicate (2 + n % 5) [100]).flatten) ev_str (ev_mulS (l := [100]) (m := 2 + n % 5) ev_str (ev_I0i (g := fun i j => i + j) ev_int (ev_Ii (g := fun i j => i % j) (ev_var rfl) ev_int (by decide))) (by omega) (by omega) (by simp)) (by rw [SX.S_len, SX.S_len, rep_len, sizeLine_eq]; simp; omega)).is (by rw [SX.S_cat])
    have hk3 := of_decide_eq_false hb
    obtain rfl : k = 3 := by omega
    have z1 := Int.emod_lt_of_pos x (show (0 : Int) < 5 by decide)
    have z2 := Int.emod_nonneg x (show (5 : Int) ≠ 0 by decide)
    obtain ⟨z, hz⟩ : ∃ z : Nat, z = (x % 5).toNat := ⟨_, rfl⟩
    obtain ⟨Vw, hV, hne⟩ := other_ok (z := z) (by omega)
    have htl : z < ([[[0]], [[0, 1]], [[0], [1]], [[0, 1, 2], [3, 4, 5]], [[0, 1], [2, 3], [4, 5]]] : List (List (List Int))).length := by show z < 5; omega
    have hsx : (([[[0]], [[0, 1]], [[0], [1]], [[0, 1, 2], [3, 4, 5]], [[0, 1], [2, 3], [4, 5]]] : List (List (List Int))).map DT)[z]? = some (DT (otherT z)) := by rw [List.getElem?_map, getq [] htl]; rfl
    have i1 : ∀ {Γ : List Sl} (a : Int), EvA (tLst (tCons (tC (V.int a)) tNil)) Γ (Dt K (DI [a])) := fun a => ev_lst (ds := [.int a]) (es_cons ev_int es_nil) (sl _ (by simp))
    have i2 : ∀ {Γ : List Sl} (a b : Int), EvA (tLst (tCons (tC (V.int a)) (tCons (tC (V.int b)) tNil))) Γ (Dt K (DI [a, b])) := fun a b => ev_lst (ds := [.int a, .int b]) (es_cons ev_int (es_cons ev_int es_nil)) (sl _ (by simp))
    have i3 : ∀ {Γ : List Sl} (a b c : Int), EvA (tLst (tCons (tC (V.int a)) (tCons (tC (V.int b)) (tCons (tC (V.int c)) tNil)))) Γ (Dt K (DI [a, b, c])) := fun a b c => ev_lst (ds := [.int a, .int b, .int c]) (es_cons ev_int (es_cons ev_int (es_cons ev_int es_nil))) (sl _ (by simp))
    apply rn_seq
    refine rn_asg (a := Dt K (DT (otherT z))) (ev_ixLD (ds := ([[[0]], [[0, 1]], [[0], [1]], [[0, 1, 2], [3, 4, 5]], [[0, 1], [2, 3], [4, 5]]] : List (List (List Int))).map DT) (i := x % 5) (el_w (ew_lstD (ed_cons (ev_lst (ds := [DI [0]]) (es_cons (i1 0) es_nil) (sl _ (by simp))) (ed_cons (ev_lst (ds := [DI [0, 1]]) (es_cons (i2 0 1) es_nil) (sl _ (by simp))) (ed_cons (ev_lst (ds := [DI [0], DI [1]]) (es_cons (i1 0) (es_cons (i1 1) es_nil)) (sl _ (by simp)))
      (ed_cons (ev_lst (ds := [DI [0, 1, 2], DI [3, 4, 5]]) (es_cons (i3 0 1 2) (es_cons (i3 3 4 5) es_nil)) (sl _ (by simp))) (ed_cons (ev_lst (ds := [DI [0, 1], DI [2, 3], DI [4, 5]]) (es_cons (i2 0 1) (es_cons (i2 2 3) (es_cons (i2 4 5) es_nil))) (sl _ (by simp))) ed_nil))))) (sl _ (by simp)))) (ev_Ii (g := fun i j => i % j) (ev_var rfl) ev_int (by decide)) (at_nat hsx (by omega))) ?_
    dsimp only [List.set]
    refine rn_dropR (C := a_Unlike) (er_if (eb_test (K := K) (ev_eqI (ev_Ii (g := fun i j => i % j) (ev_Ii (g := fun i j => i / j) (ev_var rfl) ev_int ⟨by omega, by omega⟩) ev_int (by decide)) ev_int)) (fun _ => er_callS (as := [Dt K (DT [[1, 0], [2, 3]]), Dt K (DT (otherT z))]) (es_cons (ev_var rfl) (es_cons (ev_var rfl) es_nil)) (.inr (.inr ⟨_, 2, _, Vw, rfl, tray22, hV, hne, rfl⟩)) rfl)
      fun _ => er_callS (as := [Dt K (DT (otherT z)), Dt K (DT [[1, 0], [2, 3]])]) (es_cons (ev_var rfl) (es_cons (ev_var rfl) es_nil)) (.inr (.inr ⟨_, Vw, _, 2, rfl, hV, tray22, hne.imp Ne.symm Ne.symm, rfl⟩)) rfl) fun s => hW _ _ ⟨rfl, rfl⟩ s
  · rintro C Γ' ⟨rfl, hl⟩
    refine ⟨hX.m, fun a => ?_⟩
    have v7 : (Γ'.set 7 (.as (CtA (.ref a))))[7]? = some (.as (CtA (.ref a))) := List.getElem?_set_self (by omega)
    apply rn_seq
    refine rn_asgW (w := OL (([.bool (decide (k = 0)), .bool (decide (k = 1) || decide (k = 2)), .bool (decide (k = 3))] : List PyData).map (Dt K))) (ew_lstD (ed_cons (ev_isE1 hX.x (ev_var v7) ev_ct hX.e1) (ed_cons (ev_isE1 hX.x (ev_var v7) ev_ct hX.e2) (ed_cons (ev_isE1 hX.x (ev_var v7) ev_ct hX.e3) ed_nil))) (sl _ (by simp))) ?_
    have v8 : ((Γ'.set 7 (.as (CtA (.ref a)))).set 8 (.ow (OL (([.bool (decide (k = 0)), .bool (decide (k = 1) || decide (k = 2)), .bool (decide (k = 3))] : List PyData).map (Dt K)))))[8]? = some (.ow (OL (([.bool (decide (k = 0)), .bool (decide (k = 1) || decide (k = 2)), .bool (decide (k = 3))] : List PyData).map (Dt K)))) := List.getElem?_set_self (by rw [List.length_set]; omega)
    have v7' : ((Γ'.set 7 (.as (CtA (.ref a)))).set 8 (.ow (OL (([.bool (decide (k = 0)), .bool (decide (k = 1) || decide (k = 2)), .bool (decide (k = 3))] : List PyData).map (Dt K)))))[7]? = some (.as (CtA (.ref a))) := by rw [List.getElem?_set_ne (by decide)]; exact v7
    refine rn_ret (a := Dt K (dueD k)) (ev_fixD (ds := [.bool (decide (k = 0)), .bool (decide (k = 1) || decide (k = 2)), .bool (decide (k = 3)), .bool true]) ?_) (As.le_refl _)
    exact ew_cat (el_ow v8) (el_w (ew_lstD (ds := [.bool true]) (ed_cons (ev_isE1T (T := "ValueError") hX.x (ev_var v7') ev_ct hX.ve) ed_nil) (sl _ (by simp)))) (sl _ (by simp))
end
abbrev s_law : Stmt := topS 42
theorem sc_law : FnScope ["_law_script", "_law_cell", "_law_kind", "_law_due", "_law_great_here", "_law_row", "_law_column"] ["_law_script"] (defScope s_law) :=
  ⟨rfl, rfl, rfl, by decide +kernel, rfl, by decide +kernel, by decide +kernel⟩
section
variable {P : Program} {w : World} {K : PySem.W.Frag} {mg : Str → Option Value} {base : Heap} {Γ : List Sl} {c : Cb} {k : Kt}
def great6 : List (List Int) := (List.range 6).map fun i => (List.range 6).map fun j => ((i * 6 + j : Nat) : Int)
theorem great6_ok : TrayOk great6 6 := by
  refine ⟨by decide, by decide, fun x hx => ?_, ?_⟩
  · obtain ⟨i, _, rfl⟩ := List.mem_map.mp hx
    rw [List.length_map, List.length_range]
  · have e : great6.flatten = upto 36 := by decide
    rw [e]
    exact .refl _
def R_law (K : PySem.W.Frag) (as : List As) (o : Outc) : Prop := ∃ ns : List Int, as = [SqA K ns] ∧ ns.length ≤ 63 ∧ (∀ z ∈ ns, Builtin.Int.intBits z ≤ 1048576) ∧ o = .ret (Dt K (.bool true))
theorem ok_law {f : Addr} {fd : FuncData} {CB CS : Addr} (F : L2.Fun K "law" "law" s_law f fd) (c_law_told : Cl P w K mg base L2.CX0 6 "_law_told" (SpD 3 (R_law_told K)))
    (c_moved : Cl P w K mg base (L2.CX P w) 4 "moved" (SpD 2 (R_moved K CB CS))) (c_ways : Cl P w K mg base (L2.CX P w) 3 "ways" (SpD 1 (R_ways K CB))) (c_undone : Cl P w K mg base (L2.CX P w) 2 "undone" (SpD 1 (R_undone K CS)))
    (n_range : mg "range" = none) : FnOk P w K mg base L2.CX0 7 f fd ["_law_script"] (SpD 1 (R_law K)) := by
  refine def_ok F sc_law rfl fun cdv A outer s Hf H as o E hr hR => ?_
  obtain ⟨ns, rfl, hn, hb, rfl⟩ := hR
  refine ⟨_, (pss_cons (ps_for PassesOwn.never rfl (pi_listK K (pv 0)) (pg_name (i := 1) sc_law.nd rfl (by first | exact Or.inl rfl | exact Or.inr rfl)) (pss_cons (ps_set (i := 2) sc_law.nd rfl (by first | exact Or.inl rfl | exact Or.inr rfl) (pe_op op_mod (pv 1) pe_int))
      (pss_cons (ps_set (i := 3) sc_law.nd rfl (by first | exact Or.inl rfl | exact Or.inr rfl) (pe_lst (pa_cons (pe_cmpR op_eq (pv 2) pe_int (nomark _)) (pa_cons (pe_cmpR (op_inDK K hr) (pv 2) (pe_lst (pa_cons pe_int (pa_cons pe_int pa_nil))) (by rfl)) (pa_cons (pe_cmpR op_eq (pv 2) pe_int (nomark _)) (pa_cons pe_bl pa_nil))))))
      (pss_one (ps_if (pt_cmpR (op_neDK K hr) (by exact (pe_cl c_law_told hr (by decide) (by rfl) (pa_cons (pv 2) (pa_cons (pe_op op_mod (pe_op op_fdiv (pv 1) pe_int) pe_int) (pa_cons (pe_op op_mod (pe_op op_fdiv (pv 1) pe_int) pe_int) pa_nil))))) (pv 3) (nomark _)) (pss_one (ps_ret pe_bl)) pss_nil)))))
      (pss_cons (ps_setLc (i := 4) (own := [("_law_row", 5)]) (g := (gName 5)) (by rfl) sc_law.nd rfl rfl (sw_true rfl rfl rfl (by decide +kernel)) (pi_range1 (by rfl) n_range (pa_cons pe_int pa_nil)) (blkOk_by (N := ["_law_script", "_law_cell", "_law_kind", "_law_due", "_law_great_here", "_law_row", "_law_column"]) (sc := defScope s_law) (own := [("_law_row", 5)]) (by decide +kernel)) (fun _ _ _ _ _ => (pg_name (i := 5) sc_law.nd rfl (by first | exact Or.inl rfl | exact Or.inr rfl))) (fun _ _ _ _ _ => pts_nil) (fun _ _ _ _ _ => (pe_lc (own := [("_law_column", 6)]) (g := (gName 6)) (by rfl) sc_law.nd (pi_range1 (by rfl) n_range (pa_cons pe_int pa_nil)) (blkOk_by (N := ["_law_script", "_law_cell", "_law_kind", "_law_due", "_law_great_here", "_law_row", "_law_column"]) (sc := ⟨.function, [(".0", .local), ("_law_row", .cell), ("range", .globalImplicit)], false, false, []⟩) (own := [("_law_column", 6)]) (by decide +kernel)) (fun _ _ _ _ _ => (pg_name (i := 6) sc_law.nd rfl (by first | exact Or.inl rfl | exact Or.inr rfl))) (fun _ _ _ _ _ => pts_nil) (fun _ _ _ _ _ => (pe_op op_add (pe_op op_mulB (pv 5) pe_int) (pv 6))))))
      (pss_one (ps_ret (pe_and (pe_cmpR op_eq (by exact (pe_clN c_ways hr (by decide) (by rfl) (pa_cons (pv 4) pa_nil))) pe_str (nomark _)) (pe_and (pe_cmpR (op_eqDK K hr) (by exact (pe_clN c_moved hr (by decide) (by rfl) (pa_cons (pe_lst (pa_cons (pe_lst (pa_cons pe_int pa_nil)) pa_nil)) (pa_cons pe_str pa_nil)))) (pe_lst (pa_cons (pe_lst (pa_cons pe_int pa_nil)) pa_nil)) (nomark _)) (pe_one (pe_cmpR op_eq (by exact (pe_clN c_undone hr (by decide) (by rfl) (pa_cons pe_str pa_nil))) pe_str (nomark _))))))))), ?_⟩
  have sl : ∀ n : Nat, n ≤ 1000 → n ≤ sizeLine := fun n h => by rw [sizeLine_eq]; omega
  change Rn _ _ [.as (SqA K ns), .un, .un, .un, .un, .un, .un] _
  apply rn_seq
  refine rn_for (fun i Γ => Γ = [.as (SqA K ns), .un, .un, .un, .un, .un, .un]) (ei_sq (ev_var rfl)) rfl ?_ ?_
  · rintro c' sb i a Γ1 rfl ha
    rw [List.getElem?_map, List.getElem?_map] at ha
    cases hc : ns[i]? with
    | none => rw [hc] at ha; cases ha
    | some z =>
      rw [hc] at ha
      obtain rfl := Option.some.inj ha
      refine ⟨_, eg_name, ?_⟩
      dsimp only [List.set]
      apply rn_seq
      refine rn_asg (ev_Ii (g := fun i j => i % j) (ev_var rfl) ev_int (by decide)) ?_
      dsimp only [List.set]
      have k1 := Int.emod_lt_of_pos z (show (0 : Int) < 4 by decide)
      have k2 := Int.emod_nonneg z (show (4 : Int) ≠ 0 by decide)
      generalize z % 4 = kk at k1 k2
      apply rn_seq
      refine rn_asg (a := Dt K (dueD kk)) (ev_lst (ds := [.bool (decide (kk = 0)), .bool (decide (kk = 1) || decide (kk = 2)), .bool (decide (kk = 3)), .bool true]) (es_cons (ev_eqI (ev_var rfl) ev_int) (es_cons ((ev_in (xs := [(1 : Int), 2]) eq_int' sh_int (ev_var rfl) (ev_lst (ds := [.int 1, .int 2]) (es_cons ev_int (es_cons ev_int es_nil)) (sl _ (by simp)))).is ?_) (es_cons (ev_eqI (ev_var rfl) ev_int) (es_cons ev_bl es_nil)))) (sl _ (by simp))) ?_
      · obtain rfl | rfl | rfl | rfl : kk = 0 ∨ kk = 1 ∨ kk = 2 ∨ kk = 3 := by omega
        all_goals rfl
      dsimp only [List.set]
      have m1 := Int.emod_nonneg (z / 400000) (show (1000 : Int) ≠ 0 by decide)
      refine rn_if (b := false) (eb_test (K := K) ((ev_neD (d := dueD kk) (e := dueD kk) (ev_call (as := [Dt K (.int kk), Dt K (.int (z / 4 % 100000)), Dt K (.int (z / 400000 % 1000))]) (es_cons (ev_var rfl) (es_cons (ev_Ii (g := fun i j => i % j) (ev_Ii (g := fun i j => i / j) (ev_var rfl) ev_int ⟨by omega, by omega⟩) ev_int (by decide)) (es_cons (ev_Ii (g := fun i j => i % j) (ev_Ii (g := fun i j => i / j) (ev_var rfl) ev_int ⟨by omega, by omega⟩) ev_int (by decide)) es_nil)))
        ⟨kk, _, _, rfl, k2, k1, m1, rfl⟩ rfl) (ev_var rfl) ?_ ?_).is ?_)) (fun h => nomatch h) fun _ => ?_
      all_goals try (obtain rfl | rfl | rfl | rfl : kk = 0 ∨ kk = 1 ∨ kk = 2 ∨ kk = 3 := by omega)
      all_goals try rfl
      all_goals
        apply rn_next
        exact ⟨_, by walk_at "gle", rfl⟩
  rintro Γ1 rfl
  dsimp only
  apply rn_seq
  refine rn_asg (a := Dt K (DT great6)) ?_ ?_
  · refine ev_fixOT (ew_lcOO (g := gName 5) (vs := [5]) (xs := (List.range 6).map fun i => Dt K (.int ((i : Nat) : Int))) (great6.map fun q => q.map fun i => Dt K (.int i)) (gw_name (by decide)) (ei_rng1 (K := K) (n := 6) (es_cons ev_int es_nil) (by decide)) (by rfl) (by simp) fun i a ha => ⟨_, eg_name, fun q hq => ?_⟩)
    have hi : i < 6 := by
      have := (List.getElem?_eq_some_iff.mp ha).1
      simpa using this
    rw [List.getElem?_map, List.getElem?_range hi] at ha
    obtain rfl := Option.some.inj ha
    have e : (great6.map fun q => q.map fun i => Dt K (.int i))[i]? = some (((List.range 6).map fun j => PyData.int ((i * 6 + j : Nat) : Int)).map (Dt K)) := by
      rw [List.getElem?_map]
      unfold great6
      rw [List.getElem?_map, List.getElem?_range hi, List.map_map]; rfl
    rw [e] at hq
    obtain rfl := Option.some.inj hq
    refine ew_lcM (K := K) (g := gName 6) (vs := [6]) (List.range 6) (fun j => Dt K (.int ((j : Nat) : Int))) (fun j => PyData.int ((i * 6 + j : Nat) : Int)) (ei_rng1 (K := K) (n := 6) (es_cons ev_int es_nil) (by decide)) (gw_name (by decide)) (by simp) fun j hj => ⟨_, eg_name, ?_⟩
    exact (ev_I0i (g := fun i j => i + j) (ev_Ii (g := fun i j => i * j) (ev_var (a := Dt K (.int ((i : Nat) : Int))) rfl) ev_int (mulOk (a := 10) (b := 10) (by omega) (by decide) (by decide) (by decide) (by decide))) (ev_var (a := Dt K (.int ((j : Nat) : Int))) rfl)).is (by simp)
  dsimp only [List.set]
  have hw6 : waysM great6 = [100, 114] := by decide
  have hB : TrayOk [[0]] 1 := ⟨by decide, by decide, fun x hx => by simp at hx; subst hx; rfl, by decide⟩
  have e0 : ∀ {Γ : List Sl}, EvA (tLst (tCons (tLst (tCons (tC (V.int 0)) tNil)) tNil)) Γ (Dt K (DT [[0]])) := ev_lst (ds := [DI [0]]) (es_cons (ev_lst (ds := [.int 0]) (es_cons ev_int es_nil) (sl _ (by simp))) es_nil) (sl _ (by simp))
  refine rn_ret (a := Dt K (.bool (true && (true && true)))) (ev_andV ((ev_eqT (i := SX.S [100, 114]) (ev_call (as := [Dt K (DT great6)]) (es_cons (ev_var rfl) es_nil) (.inr ⟨great6, 6, rfl, great6_ok, by rw [hw6]⟩) rfl) ev_str).is (by rfl)) fun _ =>
    ev_andV ((ev_eqD (d := DT [[0]]) (e := DT [[0]]) (ev_fixOT (ew_call (as := [Dt K (DT [[0]]), Dt K (DS [])]) (es_cons e0 (es_cons ev_str es_nil)) (.inr (.inr ⟨_, 1, [], rfl, hB, by simp, by simp, rfl⟩)) rfl)) e0 (sh_DT.shaped _) (sh_DT.shaped _)).is (by rw [eq_DT]; rfl)) fun _ =>
    (ev_eqT (i := SX.S []) (ev_call (as := [Dt K (DS [])]) (es_cons ev_str es_nil) (.inr ⟨[], rfl, by simp, by simp, rfl⟩) rfl) ev_str).is (by rfl)) (As.le_refl _)
end
/-! ### what stands in the text behind the top -/
section
variable {w : World} {K : PySem.W.Frag}
def TupAt (K : PySem.W.Frag) (p : Addr) (xs : List V) : Prop := ∃ (o : Obj) (its : Array Value) (n : Nat), K.lookup p = some o ∧ o.cls = .type "tuple" ∧ o.data = .seq its n ∧ its.size ≤ sizeLine ∧ Vals xs its.toList
theorem TupAt.sq {p : Addr} {xs : List V} (h : TupAt K p xs) : ∀ H, SqT K H p xs := fun _ => .inr h
structure DictAt (w : World) (K : PySem.W.Frag) (d : Addr) : Prop where
  ex : ∃ es n, K.lookup d = some ⟨.type "dict", none, .dict es n, #[]⟩ ∧ PySem.W.KeysLit w.params es.toList
  lo : (d == sysModules) = false
theorem DictAt.kd {d : Addr} (h : DictAt w K d) : ∃ es n, KDict K w d es n := by
  obtain ⟨es, n, h1, h2⟩ := h.ex
  exact ⟨es, n, h1, h2, h.lo⟩
theorem DictAt.it {d : Addr} (h : DictAt w K d) {x : Str} {u : Value} {v : V} (e : PySem.W.nsIn K d x = some (some u)) (r : RelV v u) : KDct K w d x v := by
  obtain ⟨es, n, h1, h2⟩ := h.ex
  exact ⟨es, n, u, h1, h2, e, r⟩
theorem steps_mk {d p1 p2 p3 p4 : Addr} (h : DictAt w K d) (u1 : PySem.W.nsIn K d "u" = some (some (.ref p1))) (u2 : PySem.W.nsIn K d "d" = some (some (.ref p2))) (u3 : PySem.W.nsIn K d "l" = some (some (.ref p3))) (u4 : PySem.W.nsIn K d "r" = some (some (.ref p4)))
    (v1 : TupAt K p1 [.int (-1), .int 0]) (v2 : TupAt K p2 [.int 1, .int 0]) (v3 : TupAt K p3 [.int 0, .int (-1)]) (v4 : TupAt K p4 [.int 0, .int 1])
    (o1 : PySem.W.nsIn K d "x" = some none) (o2 : PySem.W.nsIn K d "U" = some none) (o3 : PySem.W.nsIn K d " " = some none) (o4 : PySem.W.nsIn K d "?" = some none) : StepsOk w K d where
  kd := h.kd
  it := fun c dr dc hc => by
    rcases step_cases hc with ⟨rfl, rfl, rfl⟩ | ⟨rfl, rfl, rfl⟩ | ⟨rfl, rfl, rfl⟩ | ⟨rfl, rfl, rfl⟩
    · exact ⟨p1, h.it u1 rfl, v1.sq⟩
    · exact ⟨p2, h.it u2 rfl, v2.sq⟩
    · exact ⟨p3, h.it u3 rfl, v3.sq⟩
    · exact ⟨p4, h.it u4 rfl, v4.sq⟩
  ins := fun c p hc => by
    obtain ⟨dr, dc⟩ := p
    rcases step_cases hc with ⟨rfl, rfl, rfl⟩ | ⟨rfl, rfl, rfl⟩ | ⟨rfl, rfl, rfl⟩ | ⟨rfl, rfl, rfl⟩
    · exact ⟨_, u1⟩
    · exact ⟨_, u2⟩
    · exact ⟨_, u3⟩
    · exact ⟨_, u4⟩
  out := fun c hc => by
    rcases hc with rfl | rfl | rfl | rfl
    · exact o1
    · exact o2
    · exact o3
    · exact o4
theorem back_mk {d : Addr} {i1 i2 i3 i4 : Tok} (h : DictAt w K d) (u1 : PySem.W.nsIn K d "u" = some (some (.str "d" i1))) (u2 : PySem.W.nsIn K d "d" = some (some (.str "u" i2))) (u3 : PySem.W.nsIn K d "l" = some (some (.str "r" i3))) (u4 : PySem.W.nsIn K d "r" = some (some (.str "l" i4))) : BackOk w K d where
  it := fun c hc => by
    cases hs : stepOf c with
    | none => rw [hs] at hc; cases hc
    | some p =>
      obtain ⟨dr, dc⟩ := p
      rcases step_cases hs with ⟨rfl, rfl, rfl⟩ | ⟨rfl, rfl, rfl⟩ | ⟨rfl, rfl, rfl⟩ | ⟨rfl, rfl, rfl⟩
      · exact h.it u1 ⟨_, rfl⟩
      · exact h.it u2 ⟨_, rfl⟩
      · exact h.it u3 ⟨_, rfl⟩
      · exact h.it u4 ⟨_, rfl⟩
theorem kit_ref {A C : Addr} {v : Bool} (h : (Value.ref A == Value.ref C) = false) (i : PySem.W.isClsIn K C = true) (t : PySem.W.typeIn K (.ref C) = some (.type "type")) (s : PySem.W.subIn K (.ref A) (.ref C) = some v) : PySem.W.kitOne K (.ref A) (.ref C) = some v := by
  unfold PySem.W.kitOne
  rw [if_neg (by rw [h]; exact Bool.false_ne_true)]
  have i' : (PySem.W.clsIn K C).isSome = true := i
  have e : ((PySem.W.clsIn K C).isSome && PySem.W.typeIn K (.ref C) == some (.type "type")) = true := by rw [i', t] <;> rfl
  show (if ((PySem.W.clsIn K C).isSome && PySem.W.typeIn K (.ref C) == some (.type "type")) = true then PySem.W.subIn K (.ref A) (.ref C) else none) = some v
  rw [if_pos e]
  exact s
theorem kit_type {A : Addr} {T : String} {v : Bool} (m : PySem.W.kitMeta T = true) (s : PySem.W.subIn K (.ref A) (.type T) = some v) : PySem.W.kitOne K (.ref A) (.type T) = some v := by
  unfold PySem.W.kitOne
  rw [if_neg (by exact Bool.false_ne_true)]
  show (if PySem.W.kitMeta T = true then PySem.W.subIn K (.ref A) (.type T) else none) = some v
  rw [if_pos m]
  exact s
theorem kit_self {C : Addr} : PySem.W.kitOne K (.ref C) (.ref C) = some true := by
  unfold PySem.W.kitOne
  rw [if_pos (by exact beq_self_eq_true _)]
end
section
theorem all_mk {P : Program} {w : World} {K : PySem.W.Frag} {h : Heap} {mg : Str → Option Value} {fa : Addr} (X : K.In h) (G : h.Ns PySem.mainGlobals mg) (hfa : mg "law" = some (.ref fa))
    {f_place_of a_STEPS pSu pSd pSl pSr f_slid f_slid_all f_is_number CB f_asked_tray CS f_moved f_ways f_asked_slides a_BACK f_undone f_thinned CU f_told f_law_with_tray f_law_great f_law_bad_tray CT f_law_told f_law : Addr} {od_place_of an_place_of od_slid an_slid od_slid_all an_slid_all od_is_number an_is_number od_asked_tray an_asked_tray od_moved an_moved od_ways an_ways od_asked_slides an_asked_slides od_undone an_undone od_thinned an_thinned od_told an_told od_law_with_tray an_law_with_tray od_law_great an_law_great od_law_bad_tray an_law_bad_tray od_law_told an_law_told od_law an_law : Option Addr} {sl_place_of sl_slid sl_slid_all sl_is_number sl_asked_tray sl_moved sl_ways sl_asked_slides sl_undone sl_thinned sl_told sl_law_with_tray sl_law_great sl_law_bad_tray sl_law_told sl_law : Array (Option Value)} {oc_place_of kV_place_of dc_place_of pm_place_of cd_place_of ct_place_of oc_slid kV_slid dc_slid pm_slid cd_slid ct_slid oc_slid_all kV_slid_all dc_slid_all pm_slid_all cd_slid_all ct_slid_all oc_is_number kV_is_number dc_is_number pm_is_number cd_is_number ct_is_number oc_asked_tray kV_asked_tray dc_asked_tray pm_asked_tray cd_asked_tray ct_asked_tray oc_moved kV_moved dc_moved pm_moved cd_moved ct_moved oc_ways kV_ways dc_ways pm_ways cd_ways ct_ways oc_asked_slides kV_asked_slides dc_asked_slides pm_asked_slides cd_asked_slides ct_asked_slides oc_undone kV_undone dc_undone pm_undone cd_undone ct_undone oc_thinned kV_thinned dc_thinned pm_thinned cd_thinned ct_thinned oc_told kV_told dc_told pm_told cd_told ct_told oc_law_with_tray kV_law_with_tray dc_law_with_tray pm_law_with_tray cd_law_with_tray ct_law_with_tray oc_law_great kV_law_great dc_law_great pm_law_great cd_law_great ct_law_great oc_law_bad_tray kV_law_bad_tray dc_law_bad_tray pm_law_bad_tray cd_law_bad_tray ct_law_bad_tray oc_law_told kV_law_told dc_law_told pm_law_told cd_law_told ct_law_told oc_law kV_law dc_law pm_law cd_law ct_law : Value} {es_STEPS es_BACK : Array DictEntry} {n_STEPS m_sv_u m_sv_d m_sv_l m_sv_r n_BACK : Nat} {o_sv_u o_sv_d o_sv_l o_sv_r : Obj} {its_sv_u its_sv_d its_sv_l its_sv_r : Array Value} {t6 iBu iBd iBl iBr : Tok}
    (b_enumerate : PySem.W.nsIn K PySem.mainGlobals "enumerate" = some none)
    (a_place_of : PySem.W.nsIn K PySem.mainGlobals "place_of" = some (some (.ref f_place_of)))
    (l_place_of : K.lookup f_place_of = some ⟨oc_place_of, od_place_of, .func (PySem.W.fnOf "place_of" "place_of" (defArgs s_place_of) (defBody s_place_of) (defScope s_place_of) .none kV_place_of dc_place_of pm_place_of an_place_of cd_place_of ct_place_of), sl_place_of⟩)
    (co_place_of : PySem.W.codeIn K cd_place_of "place_of" = true)
    (ke_place_of : PySem.W.keepIn K (.ref f_place_of) = true)
    (a_STEPS' : PySem.W.nsIn K PySem.mainGlobals "STEPS" = some (some (.ref a_STEPS)))
    (dl_STEPS : K.lookup a_STEPS = some ⟨.type "dict", none, .dict es_STEPS n_STEPS, #[]⟩)
    (dk_STEPS : PySem.W.KeysLit w.params es_STEPS.toList)
    (do_STEPS : (a_STEPS == sysModules) = false)
    (s_u : PySem.W.nsIn K a_STEPS "u" = some (some (.ref pSu)))
    (s_d : PySem.W.nsIn K a_STEPS "d" = some (some (.ref pSd)))
    (s_l : PySem.W.nsIn K a_STEPS "l" = some (some (.ref pSl)))
    (s_r : PySem.W.nsIn K a_STEPS "r" = some (some (.ref pSr)))
    (sv_u_l : K.lookup pSu = some o_sv_u)
    (sv_u_c : o_sv_u.cls = .type "tuple")
    (sv_u_d : o_sv_u.data = .seq its_sv_u m_sv_u)
    (sv_u_s : its_sv_u.size ≤ sizeLine)
    (sv_u_v : Vals [.int (-1), .int 0] its_sv_u.toList)
    (sv_d_l : K.lookup pSd = some o_sv_d)
    (sv_d_c : o_sv_d.cls = .type "tuple")
    (sv_d_d : o_sv_d.data = .seq its_sv_d m_sv_d)
    (sv_d_s : its_sv_d.size ≤ sizeLine)
    (sv_d_v : Vals [.int 1, .int 0] its_sv_d.toList)
    (sv_l_l : K.lookup pSl = some o_sv_l)
    (sv_l_c : o_sv_l.cls = .type "tuple")
    (sv_l_d : o_sv_l.data = .seq its_sv_l m_sv_l)
    (sv_l_s : its_sv_l.size ≤ sizeLine)
    (sv_l_v : Vals [.int 0, .int (-1)] its_sv_l.toList)
    (sv_r_l : K.lookup pSr = some o_sv_r)
    (sv_r_c : o_sv_r.cls = .type "tuple")
    (sv_r_d : o_sv_r.data = .seq its_sv_r m_sv_r)
    (sv_r_s : its_sv_r.size ≤ sizeLine)
    (sv_r_v : Vals [.int 0, .int 1] its_sv_r.toList)
    (so_0 : PySem.W.nsIn K a_STEPS "x" = some none)
    (so_1 : PySem.W.nsIn K a_STEPS "U" = some none)
    (so_2 : PySem.W.nsIn K a_STEPS " " = some none)
    (so_3 : PySem.W.nsIn K a_STEPS "?" = some none)
    (b_len : PySem.W.nsIn K PySem.mainGlobals "len" = some none)
    (b_list : PySem.W.nsIn K PySem.mainGlobals "list" = some none)
    (a_slid : PySem.W.nsIn K PySem.mainGlobals "slid" = some (some (.ref f_slid)))
    (l_slid : K.lookup f_slid = some ⟨oc_slid, od_slid, .func (PySem.W.fnOf "slid" "slid" (defArgs s_slid) (defBody s_slid) (defScope s_slid) .none kV_slid dc_slid pm_slid an_slid cd_slid ct_slid), sl_slid⟩)
    (co_slid : PySem.W.codeIn K cd_slid "slid" = true)
    (ke_slid : PySem.W.keepIn K (.ref f_slid) = true)
    (a_slid_all : PySem.W.nsIn K PySem.mainGlobals "slid_all" = some (some (.ref f_slid_all)))
    (l_slid_all : K.lookup f_slid_all = some ⟨oc_slid_all, od_slid_all, .func (PySem.W.fnOf "slid_all" "slid_all" (defArgs s_slid_all) (defBody s_slid_all) (defScope s_slid_all) .none kV_slid_all dc_slid_all pm_slid_all an_slid_all cd_slid_all ct_slid_all), sl_slid_all⟩)
    (co_slid_all : PySem.W.codeIn K cd_slid_all "slid_all" = true)
    (ke_slid_all : PySem.W.keepIn K (.ref f_slid_all) = true)
    (b_isinstance : PySem.W.nsIn K PySem.mainGlobals "isinstance" = some none)
    (b_int : PySem.W.nsIn K PySem.mainGlobals "int" = some none)
    (b_bool : PySem.W.nsIn K PySem.mainGlobals "bool" = some none)
    (a_is_number : PySem.W.nsIn K PySem.mainGlobals "is_number" = some (some (.ref f_is_number)))
    (l_is_number : K.lookup f_is_number = some ⟨oc_is_number, od_is_number, .func (PySem.W.fnOf "is_number" "is_number" (defArgs s_is_number) (defBody s_is_number) (defScope s_is_number) .none kV_is_number dc_is_number pm_is_number an_is_number cd_is_number ct_is_number), sl_is_number⟩)
    (co_is_number : PySem.W.codeIn K cd_is_number "is_number" = true)
    (ke_is_number : PySem.W.keepIn K (.ref f_is_number) = true)
    (a_MOST' : PySem.W.nsIn K PySem.mainGlobals "MOST" = some (some (.int 6 t6)))
    (a_BadTray' : PySem.W.nsIn K PySem.mainGlobals "BadTray" = some (some (.ref CB)))
    (q_BadTray : PySem.W.excIn K CB [.type "ValueError", .type "Exception", .type "BaseException", .type "object"] "ValueError.__new__" = true)
    (qk_BadTray : PySem.W.keepIn K (.ref CB) = true)
    (qb_BadTray : PySem.W.subIn K (.ref CB) (.type "BaseException") = some true)
    (qt_BadTray : PySem.W.typeIn K (.ref CB) = some (.type "type"))
    (b_all : PySem.W.nsIn K PySem.mainGlobals "all" = some none)
    (b_sorted : PySem.W.nsIn K PySem.mainGlobals "sorted" = some none)
    (b_range : PySem.W.nsIn K PySem.mainGlobals "range" = some none)
    (a_asked_tray : PySem.W.nsIn K PySem.mainGlobals "asked_tray" = some (some (.ref f_asked_tray)))
    (l_asked_tray : K.lookup f_asked_tray = some ⟨oc_asked_tray, od_asked_tray, .func (PySem.W.fnOf "asked_tray" "asked_tray" (defArgs s_asked_tray) (defBody s_asked_tray) (defScope s_asked_tray) .none kV_asked_tray dc_asked_tray pm_asked_tray an_asked_tray cd_asked_tray ct_asked_tray), sl_asked_tray⟩)
    (co_asked_tray : PySem.W.codeIn K cd_asked_tray "asked_tray" = true)
    (ke_asked_tray : PySem.W.keepIn K (.ref f_asked_tray) = true)
    (a_BadSlides' : PySem.W.nsIn K PySem.mainGlobals "BadSlides" = some (some (.ref CS)))
    (q_BadSlides : PySem.W.excIn K CS [.type "ValueError", .type "Exception", .type "BaseException", .type "object"] "ValueError.__new__" = true)
    (qk_BadSlides : PySem.W.keepIn K (.ref CS) = true)
    (qb_BadSlides : PySem.W.subIn K (.ref CS) (.type "BaseException") = some true)
    (qt_BadSlides : PySem.W.typeIn K (.ref CS) = some (.type "type"))
    (b_str : PySem.W.nsIn K PySem.mainGlobals "str" = some none)
    (a_moved : PySem.W.nsIn K PySem.mainGlobals "moved" = some (some (.ref f_moved)))
    (l_moved : K.lookup f_moved = some ⟨oc_moved, od_moved, .func (PySem.W.fnOf "moved" "moved" (defArgs s_moved) (defBody s_moved) (defScope s_moved) .none kV_moved dc_moved pm_moved an_moved cd_moved ct_moved), sl_moved⟩)
    (co_moved : PySem.W.codeIn K cd_moved "moved" = true)
    (ke_moved : PySem.W.keepIn K (.ref f_moved) = true)
    (a_ways : PySem.W.nsIn K PySem.mainGlobals "ways" = some (some (.ref f_ways)))
    (l_ways : K.lookup f_ways = some ⟨oc_ways, od_ways, .func (PySem.W.fnOf "ways" "ways" (defArgs s_ways) (defBody s_ways) (defScope s_ways) .none kV_ways dc_ways pm_ways an_ways cd_ways ct_ways), sl_ways⟩)
    (co_ways : PySem.W.codeIn K cd_ways "ways" = true)
    (ke_ways : PySem.W.keepIn K (.ref f_ways) = true)
    (a_asked_slides : PySem.W.nsIn K PySem.mainGlobals "asked_slides" = some (some (.ref f_asked_slides)))
    (l_asked_slides : K.lookup f_asked_slides = some ⟨oc_asked_slides, od_asked_slides, .func (PySem.W.fnOf "asked_slides" "asked_slides" (defArgs s_asked_slides) (defBody s_asked_slides) (defScope s_asked_slides) .none kV_asked_slides dc_asked_slides pm_asked_slides an_asked_slides cd_asked_slides ct_asked_slides), sl_asked_slides⟩)
    (co_asked_slides : PySem.W.codeIn K cd_asked_slides "asked_slides" = true)
    (ke_asked_slides : PySem.W.keepIn K (.ref f_asked_slides) = true)
    (a_BACK' : PySem.W.nsIn K PySem.mainGlobals "BACK" = some (some (.ref a_BACK)))
    (dl_BACK : K.lookup a_BACK = some ⟨.type "dict", none, .dict es_BACK n_BACK, #[]⟩)
    (dk_BACK : PySem.W.KeysLit w.params es_BACK.toList)
    (do_BACK : (a_BACK == sysModules) = false)
    (bk_u : PySem.W.nsIn K a_BACK "u" = some (some (.str "d" iBu)))
    (bk_d : PySem.W.nsIn K a_BACK "d" = some (some (.str "u" iBd)))
    (bk_l : PySem.W.nsIn K a_BACK "l" = some (some (.str "r" iBl)))
    (bk_r : PySem.W.nsIn K a_BACK "r" = some (some (.str "l" iBr)))
    (a_undone : PySem.W.nsIn K PySem.mainGlobals "undone" = some (some (.ref f_undone)))
    (l_undone : K.lookup f_undone = some ⟨oc_undone, od_undone, .func (PySem.W.fnOf "undone" "undone" (defArgs s_undone) (defBody s_undone) (defScope s_undone) .none kV_undone dc_undone pm_undone an_undone cd_undone ct_undone), sl_undone⟩)
    (co_undone : PySem.W.codeIn K cd_undone "undone" = true)
    (ke_undone : PySem.W.keepIn K (.ref f_undone) = true)
    (a_thinned : PySem.W.nsIn K PySem.mainGlobals "thinned" = some (some (.ref f_thinned)))
    (l_thinned : K.lookup f_thinned = some ⟨oc_thinned, od_thinned, .func (PySem.W.fnOf "thinned" "thinned" (defArgs s_thinned) (defBody s_thinned) (defScope s_thinned) .none kV_thinned dc_thinned pm_thinned an_thinned cd_thinned ct_thinned), sl_thinned⟩)
    (co_thinned : PySem.W.codeIn K cd_thinned "thinned" = true)
    (ke_thinned : PySem.W.keepIn K (.ref f_thinned) = true)
    (a_Unlike' : PySem.W.nsIn K PySem.mainGlobals "Unlike" = some (some (.ref CU)))
    (q_Unlike : PySem.W.excIn K CU [.type "ValueError", .type "Exception", .type "BaseException", .type "object"] "ValueError.__new__" = true)
    (qk_Unlike : PySem.W.keepIn K (.ref CU) = true)
    (qb_Unlike : PySem.W.subIn K (.ref CU) (.type "BaseException") = some true)
    (qt_Unlike : PySem.W.typeIn K (.ref CU) = some (.type "type"))
    (a_told : PySem.W.nsIn K PySem.mainGlobals "told" = some (some (.ref f_told)))
    (l_told : K.lookup f_told = some ⟨oc_told, od_told, .func (PySem.W.fnOf "told" "told" (defArgs s_told) (defBody s_told) (defScope s_told) .none kV_told dc_told pm_told an_told cd_told ct_told), sl_told⟩)
    (co_told : PySem.W.codeIn K cd_told "told" = true)
    (ke_told : PySem.W.keepIn K (.ref f_told) = true)
    (a_law_with_tray : PySem.W.nsIn K PySem.mainGlobals "_law_with_tray" = some (some (.ref f_law_with_tray)))
    (l_law_with_tray : K.lookup f_law_with_tray = some ⟨oc_law_with_tray, od_law_with_tray, .func (PySem.W.fnOf "_law_with_tray" "_law_with_tray" (defArgs s_law_with_tray) (defBody s_law_with_tray) (defScope s_law_with_tray) .none kV_law_with_tray dc_law_with_tray pm_law_with_tray an_law_with_tray cd_law_with_tray ct_law_with_tray), sl_law_with_tray⟩)
    (co_law_with_tray : PySem.W.codeIn K cd_law_with_tray "_law_with_tray" = true)
    (ke_law_with_tray : PySem.W.keepIn K (.ref f_law_with_tray) = true)
    (a_law_great : PySem.W.nsIn K PySem.mainGlobals "_law_great" = some (some (.ref f_law_great)))
    (l_law_great : K.lookup f_law_great = some ⟨oc_law_great, od_law_great, .func (PySem.W.fnOf "_law_great" "_law_great" (defArgs s_law_great) (defBody s_law_great) (defScope s_law_great) .none kV_law_great dc_law_great pm_law_great an_law_great cd_law_great ct_law_great), sl_law_great⟩)
    (co_law_great : PySem.W.codeIn K cd_law_great "_law_great" = true)
    (ke_law_great : PySem.W.keepIn K (.ref f_law_great) = true)
    (a_law_bad_tray : PySem.W.nsIn K PySem.mainGlobals "_law_bad_tray" = some (some (.ref f_law_bad_tray)))
    (l_law_bad_tray : K.lookup f_law_bad_tray = some ⟨oc_law_bad_tray, od_law_bad_tray, .func (PySem.W.fnOf "_law_bad_tray" "_law_bad_tray" (defArgs s_law_bad_tray) (defBody s_law_bad_tray) (defScope s_law_bad_tray) .none kV_law_bad_tray dc_law_bad_tray pm_law_bad_tray an_law_bad_tray cd_law_bad_tray ct_law_bad_tray), sl_law_bad_tray⟩)
    (co_law_bad_tray : PySem.W.codeIn K cd_law_bad_tray "_law_bad_tray" = true)
    (ke_law_bad_tray : PySem.W.keepIn K (.ref f_law_bad_tray) = true)
    (a_TrayError' : PySem.W.nsIn K PySem.mainGlobals "TrayError" = some (some (.ref CT)))
    (eCB_hg : PySem.W.findIn K (.ref CB) "__getattribute__" = some (some (.builtin "BaseException.__getattribute__")))
    (eCB_hk : PySem.W.findIn K (.ref CB) "__getattr__" = some none)
    (eCB_hs : PySem.W.subIn K (.ref CB) (.type "BaseException") = some true)
    (eCB_hd : PySem.W.hasDictIn K CB = true)
    (eCB_ha : PySem.W.findIn K (.ref CB) "__class__" = some (some (.builtin "object.__class__")))
    (eo_hn : PySem.W.specialIn K (.builtin "object.__class__") "__get__" = some (some (.builtin "getset_descriptor.__get__")))
    (eo_ht : PySem.W.takesIn K (.builtin "object.__class__") = some true)
    (eCB_hm : PySem.W.mroIn K CB (.type "object") = some true)
    (kc_CS : PySem.W.isClsIn K CS = true)
    (kt_CS : PySem.W.typeIn K (.ref CS) = some (.type "type"))
    (kit_CB_CS_n : (Value.ref CB == Value.ref CS) = false)
    (kit_CB_CS_s : PySem.W.subIn K (.ref CB) (.ref CS) = some false)
    (kc_CU : PySem.W.isClsIn K CU = true)
    (kt_CU : PySem.W.typeIn K (.ref CU) = some (.type "type"))
    (kit_CB_CU_n : (Value.ref CB == Value.ref CU) = false)
    (kit_CB_CU_s : PySem.W.subIn K (.ref CB) (.ref CU) = some false)
    (ksub_CB : PySem.W.subIn K (.ref CB) (.type "ValueError") = some true)
    (kc_CT : PySem.W.isClsIn K CT = true)
    (kt_CT : PySem.W.typeIn K (.ref CT) = some (.type "type"))
    (kb_CT : PySem.W.subIn K (.ref CT) (.type "BaseException") = some true)
    (kd_CT : PySem.W.hasDictIn K CT = true)
    (kit_CB_CT_s : PySem.W.subIn K (.ref CB) (.ref CT) = some true)
    (eCS_hg : PySem.W.findIn K (.ref CS) "__getattribute__" = some (some (.builtin "BaseException.__getattribute__")))
    (eCS_hk : PySem.W.findIn K (.ref CS) "__getattr__" = some none)
    (eCS_hs : PySem.W.subIn K (.ref CS) (.type "BaseException") = some true)
    (eCS_hd : PySem.W.hasDictIn K CS = true)
    (eCS_ha : PySem.W.findIn K (.ref CS) "__class__" = some (some (.builtin "object.__class__")))
    (eCS_hm : PySem.W.mroIn K CS (.type "object") = some true)
    (kc_CB : PySem.W.isClsIn K CB = true)
    (kt_CB : PySem.W.typeIn K (.ref CB) = some (.type "type"))
    (kit_CS_CB_n : (Value.ref CS == Value.ref CB) = false)
    (kit_CS_CB_s : PySem.W.subIn K (.ref CS) (.ref CB) = some false)
    (kit_CS_CU_n : (Value.ref CS == Value.ref CU) = false)
    (kit_CS_CU_s : PySem.W.subIn K (.ref CS) (.ref CU) = some false)
    (ksub_CS : PySem.W.subIn K (.ref CS) (.type "ValueError") = some true)
    (kit_CS_CT_s : PySem.W.subIn K (.ref CS) (.ref CT) = some true)
    (eCU_hg : PySem.W.findIn K (.ref CU) "__getattribute__" = some (some (.builtin "BaseException.__getattribute__")))
    (eCU_hk : PySem.W.findIn K (.ref CU) "__getattr__" = some none)
    (eCU_hs : PySem.W.subIn K (.ref CU) (.type "BaseException") = some true)
    (eCU_hd : PySem.W.hasDictIn K CU = true)
    (eCU_ha : PySem.W.findIn K (.ref CU) "__class__" = some (some (.builtin "object.__class__")))
    (eCU_hm : PySem.W.mroIn K CU (.type "object") = some true)
    (kit_CU_CB_n : (Value.ref CU == Value.ref CB) = false)
    (kit_CU_CB_s : PySem.W.subIn K (.ref CU) (.ref CB) = some false)
    (kit_CU_CS_n : (Value.ref CU == Value.ref CS) = false)
    (kit_CU_CS_s : PySem.W.subIn K (.ref CU) (.ref CS) = some false)
    (ksub_CU : PySem.W.subIn K (.ref CU) (.type "ValueError") = some true)
    (kit_CU_CT_s : PySem.W.subIn K (.ref CU) (.ref CT) = some true)
    (b_ValueError : PySem.W.nsIn K PySem.mainGlobals "ValueError" = some none)
    (a_law_told : PySem.W.nsIn K PySem.mainGlobals "_law_told" = some (some (.ref f_law_told)))
    (l_law_told : K.lookup f_law_told = some ⟨oc_law_told, od_law_told, .func (PySem.W.fnOf "_law_told" "_law_told" (defArgs s_law_told) (defBody s_law_told) (defScope s_law_told) .none kV_law_told dc_law_told pm_law_told an_law_told cd_law_told ct_law_told), sl_law_told⟩)
    (co_law_told : PySem.W.codeIn K cd_law_told "_law_told" = true)
    (ke_law_told : PySem.W.keepIn K (.ref f_law_told) = true)
    (a_law : PySem.W.nsIn K PySem.mainGlobals "law" = some (some (.ref f_law)))
    (l_law : K.lookup f_law = some ⟨oc_law, od_law, .func (PySem.W.fnOf "law" "law" (defArgs s_law) (defBody s_law) (defScope s_law) .none kV_law dc_law pm_law an_law cd_law ct_law), sl_law⟩)
    (co_law : PySem.W.codeIn K cd_law "law" = true)
    (ke_law : PySem.W.keepIn K (.ref f_law) = true)
    : ∃ fd : FuncData, (∀ (s : Shared) (u : Value), BindsTo s fd ⟨[u], []⟩ [("_law_script", u)]) ∧ ∀ base : Heap, K.In base → base.Ns PySem.mainGlobals mg → FnOk P w K mg base L2.CX0 7 fa fd ["_law_script"] (SpD 1 (R_law K)) := by
  have e := hfa.symm.trans (PySem.W.mg_of X G a_law)
  cases e
  refine ⟨PySem.W.fnOf "law" "law" (defArgs s_law) (defBody s_law) (defScope s_law) .none kV_law dc_law pm_law an_law cd_law ct_law, fun s u => .of_eq rfl, fun base _ _ => ?_⟩
  have F_place_of := fun_mk (st := s_place_of) l_place_of co_place_of ke_place_of
  have b_place_of := F_place_of.binds (ps := ["tray", "piece"]) fun _ _ _ _ _ _ us hl => match us, hl with | [_, _], _ => rfl
  have Cc_place_of : Cl P w K mg base L2.CX0 1 "place_of" (SpD 2 (R_place_of K)) := ⟨_, _, _, ok_place_of F_place_of (PySem.W.mg_none_of X G b_enumerate), PySem.W.mg_of X G a_place_of, ke_place_of, b_place_of⟩
  have F_slid := fun_mk (st := s_slid) l_slid co_slid ke_slid
  have b_slid := F_slid.binds (ps := ["tray", "letter"]) fun _ _ _ _ _ _ us hl => match us, hl with | [_, _], _ => rfl
  have Cc_slid : Cl P w K mg base L2.CX0 2 "slid" (SpD 2 (R_slid K)) := ⟨_, _, _, ok_slid F_slid Cc_place_of (PySem.W.mg_of X G a_STEPS') (steps_mk ⟨⟨_, _, dl_STEPS, dk_STEPS⟩, do_STEPS⟩ s_u s_d s_l s_r ⟨_, _, _, sv_u_l, sv_u_c, sv_u_d, sv_u_s, sv_u_v⟩ ⟨_, _, _, sv_d_l, sv_d_c, sv_d_d, sv_d_s, sv_d_v⟩ ⟨_, _, _, sv_l_l, sv_l_c, sv_l_d, sv_l_s, sv_l_v⟩ ⟨_, _, _, sv_r_l, sv_r_c, sv_r_d, sv_r_s, sv_r_v⟩ so_0 so_1 so_2 so_3) (PySem.W.mg_none_of X G b_len) (PySem.W.mg_none_of X G b_list), PySem.W.mg_of X G a_slid, ke_slid, b_slid⟩
  have F_slid_all := fun_mk (st := s_slid_all) l_slid_all co_slid_all ke_slid_all
  have b_slid_all := F_slid_all.binds (ps := ["tray", "slides"]) fun _ _ _ _ _ _ us hl => match us, hl with | [_, _], _ => rfl
  have Cc_slid_all : Cl P w K mg base L2.CX0 3 "slid_all" (SpD 2 (R_slid_all K)) := ⟨_, _, _, ok_slid_all F_slid_all Cc_slid (PySem.W.mg_of X G a_STEPS') (steps_mk ⟨⟨_, _, dl_STEPS, dk_STEPS⟩, do_STEPS⟩ s_u s_d s_l s_r ⟨_, _, _, sv_u_l, sv_u_c, sv_u_d, sv_u_s, sv_u_v⟩ ⟨_, _, _, sv_d_l, sv_d_c, sv_d_d, sv_d_s, sv_d_v⟩ ⟨_, _, _, sv_l_l, sv_l_c, sv_l_d, sv_l_s, sv_l_v⟩ ⟨_, _, _, sv_r_l, sv_r_c, sv_r_d, sv_r_s, sv_r_v⟩ so_0 so_1 so_2 so_3) (PySem.W.mg_none_of X G b_list), PySem.W.mg_of X G a_slid_all, ke_slid_all, b_slid_all⟩
  have F_is_number := fun_mk (st := s_is_number) l_is_number co_is_number ke_is_number
  have b_is_number := F_is_number.binds (ps := ["thing"]) fun _ _ _ _ _ _ us hl => match us, hl with | [_], _ => rfl
  have Cc_is_number : Cl P w K mg base L2.CX0 1 "is_number" (SpD 1 (R_is_number K)) := ⟨_, _, _, ok_is_number F_is_number (PySem.W.mg_none_of X G b_isinstance) (PySem.W.mg_none_of X G b_int) (PySem.W.mg_none_of X G b_bool), PySem.W.mg_of X G a_is_number, ke_is_number, b_is_number⟩
  have F_asked_tray := fun_mk (st := s_asked_tray) l_asked_tray co_asked_tray ke_asked_tray
  have b_asked_tray := F_asked_tray.binds (ps := ["tray"]) fun _ _ _ _ _ _ us hl => match us, hl with | [_], _ => rfl
  have Cc_asked_tray : Cl P w K mg base (L2.CX P w) 2 "asked_tray" (SpD 1 (R_asked_tray K CB)) := ⟨_, _, _, ok_asked_tray F_asked_tray Cc_is_number (PySem.W.mg_of X G a_MOST') ⟨(PySem.W.mg_of X G a_BadTray'), q_BadTray, qk_BadTray, qb_BadTray, qt_BadTray⟩ (PySem.W.mg_none_of X G b_len) (PySem.W.mg_none_of X G b_list) (PySem.W.mg_none_of X G b_isinstance) (PySem.W.mg_none_of X G b_all) (PySem.W.mg_none_of X G b_sorted) (PySem.W.mg_none_of X G b_range), PySem.W.mg_of X G a_asked_tray, ke_asked_tray, b_asked_tray⟩
  have F_moved := fun_mk (st := s_moved) l_moved co_moved ke_moved
  have b_moved := F_moved.binds (ps := ["tray", "slides"]) fun _ _ _ _ _ _ us hl => match us, hl with | [_, _], _ => rfl
  have Cc_moved : Cl P w K mg base (L2.CX P w) 4 "moved" (SpD 2 (R_moved K CB CS)) := ⟨_, _, _, ok_moved F_moved Cc_asked_tray Cc_slid_all ⟨(PySem.W.mg_of X G a_BadSlides'), q_BadSlides, qk_BadSlides, qb_BadSlides, qt_BadSlides⟩ (PySem.W.mg_none_of X G b_isinstance) (PySem.W.mg_none_of X G b_str), PySem.W.mg_of X G a_moved, ke_moved, b_moved⟩
  have F_ways := fun_mk (st := s_ways) l_ways co_ways ke_ways
  have b_ways := F_ways.binds (ps := ["tray"]) fun _ _ _ _ _ _ us hl => match us, hl with | [_], _ => rfl
  have Cc_ways : Cl P w K mg base (L2.CX P w) 3 "ways" (SpD 1 (R_ways K CB)) := ⟨_, _, _, ok_ways F_ways Cc_asked_tray Cc_slid, PySem.W.mg_of X G a_ways, ke_ways, b_ways⟩
  have F_asked_slides := fun_mk (st := s_asked_slides) l_asked_slides co_asked_slides ke_asked_slides
  have b_asked_slides := F_asked_slides.binds (ps := ["slides"]) fun _ _ _ _ _ _ us hl => match us, hl with | [_], _ => rfl
  have Cc_asked_slides : Cl P w K mg base (L2.CX P w) 1 "asked_slides" (SpD 1 (R_asked_slides K CS)) := ⟨_, _, _, ok_asked_slides F_asked_slides (PySem.W.mg_of X G a_STEPS') (steps_mk ⟨⟨_, _, dl_STEPS, dk_STEPS⟩, do_STEPS⟩ s_u s_d s_l s_r ⟨_, _, _, sv_u_l, sv_u_c, sv_u_d, sv_u_s, sv_u_v⟩ ⟨_, _, _, sv_d_l, sv_d_c, sv_d_d, sv_d_s, sv_d_v⟩ ⟨_, _, _, sv_l_l, sv_l_c, sv_l_d, sv_l_s, sv_l_v⟩ ⟨_, _, _, sv_r_l, sv_r_c, sv_r_d, sv_r_s, sv_r_v⟩ so_0 so_1 so_2 so_3) ⟨(PySem.W.mg_of X G a_BadSlides'), q_BadSlides, qk_BadSlides, qb_BadSlides, qt_BadSlides⟩ (PySem.W.mg_none_of X G b_isinstance) (PySem.W.mg_none_of X G b_str) (PySem.W.mg_none_of X G b_all), PySem.W.mg_of X G a_asked_slides, ke_asked_slides, b_asked_slides⟩
  have F_undone := fun_mk (st := s_undone) l_undone co_undone ke_undone
  have b_undone := F_undone.binds (ps := ["slides"]) fun _ _ _ _ _ _ us hl => match us, hl with | [_], _ => rfl
  have Cc_undone : Cl P w K mg base (L2.CX P w) 2 "undone" (SpD 1 (R_undone K CS)) := ⟨_, _, _, ok_undone F_undone Cc_asked_slides (PySem.W.mg_of X G a_BACK') (back_mk ⟨⟨_, _, dl_BACK, dk_BACK⟩, do_BACK⟩ bk_u bk_d bk_l bk_r), PySem.W.mg_of X G a_undone, ke_undone, b_undone⟩
  have F_thinned := fun_mk (st := s_thinned) l_thinned co_thinned ke_thinned
  have b_thinned := F_thinned.binds (ps := ["slides"]) fun _ _ _ _ _ _ us hl => match us, hl with | [_], _ => rfl
  have Cc_thinned : Cl P w K mg base (L2.CX P w) 2 "thinned" (SpD 1 (R_thinned K CS)) := ⟨_, _, _, ok_thinned F_thinned Cc_asked_slides (PySem.W.mg_of X G a_BACK') (back_mk ⟨⟨_, _, dl_BACK, dk_BACK⟩, do_BACK⟩ bk_u bk_d bk_l bk_r), PySem.W.mg_of X G a_thinned, ke_thinned, b_thinned⟩
  have F_told := fun_mk (st := s_told) l_told co_told ke_told
  have b_told := F_told.binds (ps := ["one", "other"]) fun _ _ _ _ _ _ us hl => match us, hl with | [_, _], _ => rfl
  have Cc_told : Cl P w K mg base (L2.CX P w) 3 "told" (SpD 2 (R_told K CB CU)) := ⟨_, _, _, ok_told F_told Cc_asked_tray ⟨(PySem.W.mg_of X G a_Unlike'), q_Unlike, qk_Unlike, qb_Unlike, qt_Unlike⟩ (PySem.W.mg_none_of X G b_len), PySem.W.mg_of X G a_told, ke_told, b_told⟩
  have F_law_with_tray := fun_mk (st := s_law_with_tray) l_law_with_tray co_law_with_tray ke_law_with_tray
  have b_law_with_tray := F_law_with_tray.binds (ps := ["_law_door", "_law_tray"]) fun _ _ _ _ _ _ us hl => match us, hl with | [_, _], _ => rfl
  have Cc_law_with_tray : Cl P w K mg base (L2.CX P w) 5 "_law_with_tray" (SpD 2 (R_law_with_tray K CB)) := ⟨_, _, _, ok_law_with_tray F_law_with_tray Cc_moved Cc_ways Cc_told, PySem.W.mg_of X G a_law_with_tray, ke_law_with_tray, b_law_with_tray⟩
  have F_law_great := fun_mk (st := s_law_great) l_law_great co_law_great ke_law_great
  have b_law_great := F_law_great.binds (ps := ["_law_which"]) fun _ _ _ _ _ _ us hl => match us, hl with | [_], _ => rfl
  have Cc_law_great : Cl P w K mg base L2.CX0 1 "_law_great" (SpD 1 (R_law_great K)) := ⟨_, _, _, ok_law_great F_law_great (PySem.W.mg_none_of X G b_range) (PySem.W.mg_none_of X G b_list), PySem.W.mg_of X G a_law_great, ke_law_great, b_law_great⟩
  have F_law_bad_tray := fun_mk (st := s_law_bad_tray) l_law_bad_tray co_law_bad_tray ke_law_bad_tray
  have b_law_bad_tray := F_law_bad_tray.binds (ps := ["_law_which", "_law_more"]) fun _ _ _ _ _ _ us hl => match us, hl with | [_, _], _ => rfl
  have Cc_law_bad_tray : Cl P w K mg base L2.CX0 1 "_law_bad_tray" (SpD 2 (R_law_bad_tray K)) := ⟨_, _, _, ok_law_bad_tray F_law_bad_tray (PySem.W.mg_none_of X G b_range), PySem.W.mg_of X G a_law_bad_tray, ke_law_bad_tray, b_law_bad_tray⟩
  have F_law_told := fun_mk (st := s_law_told) l_law_told co_law_told ke_law_told
  have b_law_told := F_law_told.binds (ps := ["_law_kind", "_law_which", "_law_more"]) fun _ _ _ _ _ _ us hl => match us, hl with | [_, _, _], _ => rfl
  have Cc_law_told : Cl P w K mg base L2.CX0 6 "_law_told" (SpD 3 (R_law_told K)) := ⟨_, _, _, ok_law_told F_law_told Cc_law_with_tray Cc_law_great Cc_law_bad_tray Cc_moved Cc_undone Cc_thinned Cc_told (PySem.W.mg_of X G a_TrayError') (PySem.W.mg_of X G a_BadTray') (PySem.W.mg_of X G a_BadSlides') (PySem.W.mg_of X G a_Unlike') ⟨⟨eCB_hg, eCB_hk, eCB_hs, eCB_hd, eCB_ha, eo_hn, eo_ht, eCB_hm⟩, (PySem.W.exm_ref kb_CT kd_CT kt_CT kit_CB_CT_s), kit_self, (kit_ref kit_CB_CS_n kc_CS kt_CS kit_CB_CS_s), (kit_ref kit_CB_CU_n kc_CU kt_CU kit_CB_CU_s), kit_type (by decide +kernel) ksub_CB⟩ ⟨⟨eCS_hg, eCS_hk, eCS_hs, eCS_hd, eCS_ha, eo_hn, eo_ht, eCS_hm⟩, (PySem.W.exm_ref kb_CT kd_CT kt_CT kit_CS_CT_s), (kit_ref kit_CS_CB_n kc_CB kt_CB kit_CS_CB_s), kit_self, (kit_ref kit_CS_CU_n kc_CU kt_CU kit_CS_CU_s), kit_type (by decide +kernel) ksub_CS⟩ ⟨⟨eCU_hg, eCU_hk, eCU_hs, eCU_hd, eCU_ha, eo_hn, eo_ht, eCU_hm⟩, (PySem.W.exm_ref kb_CT kd_CT kt_CT kit_CU_CT_s), (kit_ref kit_CU_CB_n kc_CB kt_CB kit_CU_CB_s), (kit_ref kit_CU_CS_n kc_CS kt_CS kit_CU_CS_s), kit_self, kit_type (by decide +kernel) ksub_CU⟩ (PySem.W.mg_none_of X G b_isinstance) (PySem.W.mg_none_of X G b_ValueError), PySem.W.mg_of X G a_law_told, ke_law_told, b_law_told⟩
  have F_law := fun_mk (st := s_law) l_law co_law ke_law
  exact ok_law F_law Cc_law_told Cc_moved Cc_ways Cc_undone (PySem.W.mg_none_of X G b_range)
theorem law_sp {K : PySem.W.Frag} {H : Hp} {a : Addr} {ns : List Int} (h1 : ns.length ≤ 63) (h2 : ∀ z ∈ ns, Builtin.Int.intBits z ≤ 1048576) (h3 : SqL K H a (ns.map V.int)) : SpD 1 (R_law K) [.ref a] H (fun v _ => v = .bl true) fun _ _ _ => False :=
  ⟨H, [SqA K ns], .ret (Dt K (.bool true)), rfl, Same.refl H, .cons ⟨a, rfl, h3⟩ .nil, ⟨ns, rfl, h1, h2, rfl⟩, fun v Hf1 H1 e1 pv => dt_bl pv⟩
theorem walk_SL {l : PySem.W.OpenLaw} {n k : Nat} {q : Program} {loose : List Str} {XP : (Str → Option Value) → Heap → Prop} {YP : World → Heap → Prop} {d : DefRec} {K : Params → PySem.W.Frag} {x : Str} (R : PySem.W.Frag → List As → Outc → Prop)
    (hn : l.most = some n) (hn2 : n ≤ sizeLine) (hdf : d.params.defaults = []) (hr : Room k callerA) (hY : ∀ (w : World) (h : Heap), YP w h → (K w.params).In h)
    (F : ∀ (w : World) (mg : Str → Option Value) (fa : Addr) (h : Heap), (K w.params).In h → h.Ns mainGlobals mg → mg d.name = some (.ref fa) →
      ∃ fd : FuncData, (∀ (s : Shared) (u : Value), BindsTo s fd ⟨[u], []⟩ [(x, u)]) ∧ ∀ base : Heap, (K w.params).In base → base.Ns mainGlobals mg → FnOk l.prog w (K w.params) mg base L2.CX0 k fa fd [x] (SpD 1 (R (K w.params))))
    (hsp : ∀ (w : World) (H : Hp) (a : Addr) (ns : List Int), ns.length ≤ n → (∀ z ∈ ns, Builtin.Int.intBits z ≤ 1048576) → Only H → SqL (K w.params) H a (ns.map V.int) → SpD 1 (R (K w.params)) [.ref a] H (fun v _ => v = .bl true) fun _ _ _ => False) :
    PySem.W.WalkO q loose XP YP l.row.toRowW d [] (fun f vs => PySem.call f vs) :=
  L2.walk_ofB (CX := fun _ => L2.CX0) (sp := fun w => SpD 1 (R (K w.params))) hn hn2 hdf hr hY F hsp (fun _ _ _ _ _ h => h)
end
end SL
open PySem PySem.W PyProof.Rows
set_option maxHeartbeats 0
open_top headK for PySem.Challenge.rw_slidetray_k05_refused
theorem PySem.Challenge.cw_slidetray_k05_refused_holds : PySem.Challenge.rw_slidetray_k05_refused.Holds := by
  refine headK ?_
  k_fill
  refine SL.walk_SL (l := PySem.Challenge.rw_slidetray_k05_refused) (n := 63) (k := 7) (x := "_law_script") SL.R_law rfl (by decide) rfl ⟨rfl, by decide, by decide⟩ (fun w h Y => PySem.W.kIn_of Y) ?F ?S
  case F =>
    intro w mg fa h KX G hmg
    refine' SL.all_mk KX G hmg ?b_enumerate ?a_place_of ?l_place_of ?co_place_of ?ke_place_of ?a_STEPS_p ?dl_STEPS ?dk_STEPS ?do_STEPS ?s_u ?s_d ?s_l ?s_r ?sv_u_l ?sv_u_c ?sv_u_d ?sv_u_s ?sv_u_v ?sv_d_l ?sv_d_c ?sv_d_d ?sv_d_s ?sv_d_v ?sv_l_l ?sv_l_c ?sv_l_d ?sv_l_s ?sv_l_v ?sv_r_l ?sv_r_c ?sv_r_d ?sv_r_s ?sv_r_v ?so_0 ?so_1 ?so_2 ?so_3 ?b_len ?b_list ?a_slid ?l_slid ?co_slid ?ke_slid ?a_slid_all ?l_slid_all ?co_slid_all ?ke_slid_all ?b_isinstance ?b_int ?b_bool ?a_is_number ?l_is_number ?co_is_number ?ke_is_number ?a_MOST_p ?a_BadTray_p ?q_BadTray ?qk_BadTray ?qb_BadTray ?qt_BadTray ?b_all ?b_sorted ?b_range ?a_asked_tray ?l_asked_tray ?co_asked_tray ?ke_asked_tray ?a_BadSlides_p ?q_BadSlides ?qk_BadSlides ?qb_BadSlides ?qt_BadSlides ?b_str ?a_moved ?l_moved ?co_moved ?ke_moved ?a_ways ?l_ways ?co_ways ?ke_ways ?a_asked_slides ?l_asked_slides ?co_asked_slides ?ke_asked_slides ?a_BACK_p ?dl_BACK ?dk_BACK ?do_BACK ?bk_u ?bk_d ?bk_l ?bk_r ?a_undone ?l_undone ?co_undone ?ke_undone ?a_thinned ?l_thinned ?co_thinned ?ke_thinned ?a_Unlike_p ?q_Unlike ?qk_Unlike ?qb_Unlike ?qt_Unlike ?a_told ?l_told ?co_told ?ke_told ?a_law_with_tray ?l_law_with_tray ?co_law_with_tray ?ke_law_with_tray ?a_law_great ?l_law_great ?co_law_great ?ke_law_great ?a_law_bad_tray ?l_law_bad_tray ?co_law_bad_tray ?ke_law_bad_tray ?a_TrayError_p ?eCB_hg ?eCB_hk ?eCB_hs ?eCB_hd ?eCB_ha ?eo_hn ?eo_ht ?eCB_hm ?kc_CS ?kt_CS ?kit_CB_CS_n ?kit_CB_CS_s ?kc_CU ?kt_CU ?kit_CB_CU_n ?kit_CB_CU_s ?ksub_CB ?kc_CT ?kt_CT ?kb_CT ?kd_CT ?kit_CB_CT_s ?eCS_hg ?eCS_hk ?eCS_hs ?eCS_hd ?eCS_ha ?eCS_hm ?kc_CB ?kt_CB ?kit_CS_CB_n ?kit_CS_CB_s ?kit_CS_CU_n ?kit_CS_CU_s ?ksub_CS ?kit_CS_CT_s ?eCU_hg ?eCU_hk ?eCU_hs ?eCU_hd ?eCU_ha ?eCU_hm ?kit_CU_CB_n ?kit_CU_CB_s ?kit_CU_CS_n ?kit_CU_CS_s ?ksub_CU ?kit_CU_CT_s ?b_ValueError ?a_law_told ?l_law_told ?co_law_told ?ke_law_told ?a_law ?l_law ?co_law ?ke_law
    (case b_enumerate => k_is)
    (case a_place_of => k_is)
    (case l_place_of => k_is)
    (case co_place_of => k_is)
    (case ke_place_of => k_is)
    (case a_STEPS_p => k_is)
    (case dl_STEPS => k_is)
    (case dk_STEPS => exact ⟨⟨_, _, rfl, rfl⟩, ⟨_, _, rfl, rfl⟩, ⟨_, _, rfl, rfl⟩, ⟨_, _, rfl, rfl⟩, trivial⟩)
    (case do_STEPS => rfl)
    (case s_u => k_is)
    (case s_d => k_is)
    (case s_l => k_is)
    (case s_r => k_is)
    (case sv_u_l => k_is)
    (case sv_u_c => rfl)
    (case sv_u_d => rfl)
    (case sv_u_s => decide)
    (case sv_u_v => exact .cons ⟨_, rfl⟩ (.cons ⟨_, rfl⟩ (.nil)))
    (case sv_d_l => k_is)
    (case sv_d_c => rfl)
    (case sv_d_d => rfl)
    (case sv_d_s => decide)
    (case sv_d_v => exact .cons ⟨_, rfl⟩ (.cons ⟨_, rfl⟩ (.nil)))
    (case sv_l_l => k_is)
    (case sv_l_c => rfl)
    (case sv_l_d => rfl)
    (case sv_l_s => decide)
    (case sv_l_v => exact .cons ⟨_, rfl⟩ (.cons ⟨_, rfl⟩ (.nil)))
    (case sv_r_l => k_is)
    (case sv_r_c => rfl)
    (case sv_r_d => rfl)
    (case sv_r_s => decide)
    (case sv_r_v => exact .cons ⟨_, rfl⟩ (.cons ⟨_, rfl⟩ (.nil)))
    (case so_0 => k_is)
    (case so_1 => k_is)
    (case so_2 => k_is)
    (case so_3 => k_is)
    (case b_len => k_is)
    (case b_list => k_is)
    (case a_slid => k_is)
    (case l_slid => k_is)
    (case co_slid => k_is)
    (case ke_slid => k_is)
    (case a_slid_all => k_is)
    (case l_slid_all => k_is)
    (case co_slid_all => k_is)
    (case ke_slid_all => k_is)
    (case b_isinstance => k_is)
    (case b_int => k_is)
    (case b_bool => k_is)
    (case a_is_number => k_is)
    (case l_is_number => k_is)
    (case co_is_number => k_is)
    (case ke_is_number => k_is)
    (case a_MOST_p => k_is)
    (case a_BadTray_p => k_is)
    (case q_BadTray => k_exc)
    (case qk_BadTray => k_is)
    (case qb_BadTray => k_is)
    (case qt_BadTray => k_is)
    (case b_all => k_is)
    (case b_sorted => k_is)
    (case b_range => k_is)
    (case a_asked_tray => k_is)
    (case l_asked_tray => k_is)
    (case co_asked_tray => k_is)
    (case ke_asked_tray => k_is)
    (case a_BadSlides_p => k_is)
    (case q_BadSlides => k_exc)
    (case qk_BadSlides => k_is)
    (case qb_BadSlides => k_is)
    (case qt_BadSlides => k_is)
    (case b_str => k_is)
    (case a_moved => k_is)
    (case l_moved => k_is)
    (case co_moved => k_is)
    (case ke_moved => k_is)
    (case a_ways => k_is)
    (case l_ways => k_is)
    (case co_ways => k_is)
    (case ke_ways => k_is)
    (case a_asked_slides => k_is)
    (case l_asked_slides => k_is)
    (case co_asked_slides => k_is)
    (case ke_asked_slides => k_is)
    (case a_BACK_p => k_is)
    (case dl_BACK => k_is)
    (case dk_BACK => exact ⟨⟨_, _, rfl, rfl⟩, ⟨_, _, rfl, rfl⟩, ⟨_, _, rfl, rfl⟩, ⟨_, _, rfl, rfl⟩, trivial⟩)
    (case do_BACK => rfl)
    (case bk_u => k_is)
    (case bk_d => k_is)
    (case bk_l => k_is)
    (case bk_r => k_is)
    (case a_undone => k_is)
    (case l_undone => k_is)
    (case co_undone => k_is)
    (case ke_undone => k_is)
    (case a_thinned => k_is)
    (case l_thinned => k_is)
    (case co_thinned => k_is)
    (case ke_thinned => k_is)
    (case a_Unlike_p => k_is)
    (case q_Unlike => k_exc)
    (case qk_Unlike => k_is)
    (case qb_Unlike => k_is)
    (case qt_Unlike => k_is)
    (case a_told => k_is)
    (case l_told => k_is)
    (case co_told => k_is)
    (case ke_told => k_is)
    (case a_law_with_tray => k_is)
    (case l_law_with_tray => k_is)
    (case co_law_with_tray => k_is)
    (case ke_law_with_tray => k_is)
    (case a_law_great => k_is)
    (case l_law_great => k_is)
    (case co_law_great => k_is)
    (case ke_law_great => k_is)
    (case a_law_bad_tray => k_is)
    (case l_law_bad_tray => k_is)
    (case co_law_bad_tray => k_is)
    (case ke_law_bad_tray => k_is)
    (case a_TrayError_p => k_is)
    (case eCB_hg => k_is)
    (case eCB_hk => k_is)
    (case eCB_hs => k_is)
    (case eCB_hd => k_is)
    (case eCB_ha => k_is)
    (case eo_hn => k_is)
    (case eo_ht => k_is)
    (case eCB_hm => k_is)
    (case kc_CS => k_is)
    (case kt_CS => k_is)
    (case kit_CB_CS_n => rfl)
    (case kit_CB_CS_s => k_is)
    (case kc_CU => k_is)
    (case kt_CU => k_is)
    (case kit_CB_CU_n => rfl)
    (case kit_CB_CU_s => k_is)
    (case ksub_CB => k_is)
    (case kc_CT => k_is)
    (case kt_CT => k_is)
    (case kb_CT => k_is)
    (case kd_CT => k_is)
    (case kit_CB_CT_s => k_is)
    (case eCS_hg => k_is)
    (case eCS_hk => k_is)
    (case eCS_hs => k_is)
    (case eCS_hd => k_is)
    (case eCS_ha => k_is)
    (case eCS_hm => k_is)
    (case kc_CB => k_is)
    (case kt_CB => k_is)
    (case kit_CS_CB_n => rfl)
    (case kit_CS_CB_s => k_is)
    (case kit_CS_CU_n => rfl)
    (case kit_CS_CU_s => k_is)
    (case ksub_CS => k_is)
    (case kit_CS_CT_s => k_is)
    (case eCU_hg => k_is)
    (case eCU_hk => k_is)
    (case eCU_hs => k_is)
    (case eCU_hd => k_is)
    (case eCU_ha => k_is)
    (case eCU_hm => k_is)
    (case kit_CU_CB_n => rfl)
    (case kit_CU_CB_s => k_is)
    (case kit_CU_CS_n => rfl)
    (case kit_CU_CS_s => k_is)
    (case ksub_CU => k_is)
    (case kit_CU_CT_s => k_is)
    (case b_ValueError => k_is)
    (case a_law_told => k_is)
    (case l_law_told => k_is)
    (case co_law_told => k_is)
    (case ke_law_told => k_is)
    (case a_law => k_is)
    (case l_law => k_is)
    (case co_law => k_is)
    (case ke_law => k_is)
  case S =>
    intro w H a ns h1 h2 _ h3
    exact SL.law_sp h1 h2 h3
