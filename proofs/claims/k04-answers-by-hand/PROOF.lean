import PyProof.Rows.All
import Wide.All
import OpenK.AllK
import Wide.FinOn
import HandS.ForMost
import HandS.ForExc
import HandS.Deep
import HandS.IsInst
import HandS.ExcIs
import HandS.More
import HandS.Style
import HandS.RaiseOp
import HandS.Conv
import HandS.Codes
import HandS.EndBits
import HandS.Wide
import HandS.TupMul
import PyProof.SumWalkG
import PySem.Challenge.RW_slidetray_k04_answers_by_hand
set_option Elab.async false
set_option linter.all false
set_option maxRecDepth 100000
set_option maxHeartbeats 4000000
namespace DL
open PySem PySem.Spec L2
open PyProof.Rows hiding St

/-! ### data stays data when more is known -/
section
variable {K : PySem.W.Frag} {H H' : Hp}
theorem rd_mono {a : Addr} {u : HO} (e : Same H H') (h : Rd H a u) : Rd H' a u := by
  rcases h with h | ⟨o, h⟩
  · exact .inl (e _ _ h)
  · exact .inr ⟨o, e _ _ h⟩
theorem sqt_mono {a : Addr} {xs : List V} (e : Same H H') (h : SqT K H a xs) : SqT K H' a xs := by
  rcases h with h | h
  · exact .inl (rd_mono e h)
  · exact .inr h
end
mutual
/-- data at a value: lists are tracked, tuples tracked or written -/
inductive Dq (K : PySem.W.Frag) (H : Hp) : V → PyData → Prop
  | non : Dq K H .non .none
  | bl (b : Bool) : Dq K H (.bl b) (.bool b)
  | int (i : Int) : Dq K H (.int i) (.int i)
  | str (x : Str) : Dq K H (.str x) (.str x)
  | lst {a : Addr} {xs : List V} {ds : List PyData} : H a = some (.lst xs) → DqAll K H xs ds → Dq K H (.ref a) (.list ds)
  | tup {a : Addr} {xs : List V} {ds : List PyData} : SqT K H a xs → DqAll K H xs ds → Dq K H (.ref a) (.tuple ds)
inductive DqAll (K : PySem.W.Frag) (H : Hp) : List V → List PyData → Prop
  | nil : DqAll K H [] []
  | cons {v : V} {vs : List V} {d : PyData} {ds : List PyData} : Dq K H v d → DqAll K H vs ds → DqAll K H (v :: vs) (d :: ds)
end
section
variable {K : PySem.W.Frag} {H H' : Hp}
mutual
theorem dp_mono (e : Same H H') : ∀ {v : V} {d : PyData}, Dq K H v d → Dq K H' v d
  | _, _, .non => .non
  | _, _, .bl b => .bl b
  | _, _, .int i => .int i
  | _, _, .str x => .str x
  | _, _, .lst h q => .lst (e _ _ h) (dpAll_mono e q)
  | _, _, .tup h q => .tup (sqt_mono e h) (dpAll_mono e q)
theorem dpAll_mono (e : Same H H') : ∀ {vs : List V} {ds : List PyData}, DqAll K H vs ds → DqAll K H' vs ds
  | _, _, .nil => .nil
  | _, _, .cons h q => .cons (dp_mono e h) (dpAll_mono e q)
end
mutual
theorem dq_dp : ∀ {v : V} {d : PyData}, Dq K H v d → Dp K H v d
  | _, _, .non => .non
  | _, _, .bl b => .bl b
  | _, _, .int i => .int i
  | _, _, .str x => .str x
  | _, _, .lst h q => .lst (.inl (.inl h)) (dqAll_dp q)
  | _, _, .tup h q => .tup h (dqAll_dp q)
theorem dqAll_dp : ∀ {vs : List V} {ds : List PyData}, DqAll K H vs ds → DpAll K H vs ds
  | _, _, .nil => .nil
  | _, _, .cons h q => .cons (dq_dp h) (dqAll_dp q)
end
end

/-! ### assertions on values that stay -/
structure As where
  p : Hp → V → Prop
  mono : ∀ {H H' : Hp} {v : V}, Same H H' → p H v → p H' v
def Dt (K : PySem.W.Frag) (d : PyData) : As := ⟨fun H v => Dq K H v d, fun e h => dp_mono e h⟩
abbrev Pa (H : Hp) : List V → List As → Prop := Paired fun v a => a.p H v
theorem pa_mono {H H' : Hp} (e : Same H H') : ∀ {vs : List V} {as : List As}, Pa H vs as → Pa H' vs as
  | _, _, .nil => .nil
  | _, _, .cons h q => .cons (As.mono _ e h) (pa_mono e q)
def LsA (as : List As) : As := ⟨fun H v => ∃ p vs, v = .ref p ∧ H p = some (.lst vs) ∧ Pa H vs as, fun e ⟨p, vs, a, b, c⟩ => ⟨p, vs, a, e _ _ b, pa_mono e c⟩⟩
def TpA (K : PySem.W.Frag) (as : List As) : As := ⟨fun H v => ∃ p vs, v = .ref p ∧ SqT K H p vs ∧ Pa H vs as, fun e ⟨p, vs, a, b, c⟩ => ⟨p, vs, a, sqt_mono e b, pa_mono e c⟩⟩
def As.le (a b : As) : Prop := ∀ H v, a.p H v → b.p H v
theorem As.le_refl (a : As) : a.le a := fun _ _ h => h
theorem dpAll_pa {K : PySem.W.Frag} {H : Hp} : ∀ {vs : List V} {ds : List PyData}, Pa H vs (ds.map (Dt K)) → DqAll K H vs ds
  | [], [], _ => .nil
  | _ :: _, _ :: _, .cons h q => .cons h (dpAll_pa q)
  | [], _ :: _, h => nomatch h
  | _ :: _, [], h => nomatch h
theorem pa_dpAll {K : PySem.W.Frag} {H : Hp} : ∀ {vs : List V} {ds : List PyData}, DqAll K H vs ds → Pa H vs (ds.map (Dt K))
  | _, _, .nil => .nil
  | _, _, .cons h q => .cons h (pa_dpAll q)
theorem lsA_le {K : PySem.W.Frag} {ds : List PyData} : (LsA (ds.map (Dt K))).le (Dt K (.list ds)) := fun _ _ ⟨_, _, e, h, q⟩ => by subst e; exact .lst h (dpAll_pa q)
theorem lsA_ge {K : PySem.W.Frag} {ds : List PyData} : (Dt K (.list ds)).le (LsA (ds.map (Dt K))) := fun _ _ h => by
  cases h with
  | lst h q => exact ⟨_, _, rfl, h, pa_dpAll q⟩
theorem tpA_le {K : PySem.W.Frag} {ds : List PyData} : (TpA K (ds.map (Dt K))).le (Dt K (.tuple ds)) := fun _ _ ⟨_, _, e, h, q⟩ => by subst e; exact .tup h (dpAll_pa q)
theorem tpA_ge {K : PySem.W.Frag} {ds : List PyData} : (Dt K (.tuple ds)).le (TpA K (ds.map (Dt K))) := fun _ _ h => by
  cases h with
  | tup h q => exact ⟨_, _, rfl, h, pa_dpAll q⟩
theorem dt_int {K : PySem.W.Frag} {H : Hp} {v : V} {i : Int} (h : (Dt K (.int i)).p H v) : v = .int i := by cases (show Dq K H v (.int i) from h); rfl
theorem dt_bl {K : PySem.W.Frag} {H : Hp} {v : V} {i : Bool} (h : (Dt K (.bool i)).p H v) : v = .bl i := by cases (show Dq K H v (.bool i) from h); rfl
theorem dt_str {K : PySem.W.Frag} {H : Hp} {v : V} {i : Str} (h : (Dt K (.str i)).p H v) : v = .str i := by cases (show Dq K H v (.str i) from h); rfl
theorem dt_non {K : PySem.W.Frag} {H : Hp} {v : V} (h : (Dt K .none).p H v) : v = .non := by cases (show Dq K H v .none from h); rfl

/-! ### things of one's own: they may still change -/
structure Ow where
  p : Hp → Hp → V → List Addr → Prop
  fr : ∀ {Hf H : Hp} {v : V} {A : List Addr}, p Hf H v A → ∀ a ∈ A, Hf a = none ∧ H a ≠ none
  mono : ∀ {Hf H Hf' H' : Hp} {v : V} {A : List Addr}, p Hf H v A → Same Hf Hf' → (∀ a ∈ A, Hf' a = none) → (∀ a ∈ A, H' a = H a) → p Hf' H' v A
/-- an own list of things that stay -/
def OL (as : List As) : Ow where
  p := fun Hf H v A => ∃ p vs, v = .ref p ∧ A = [p] ∧ Hf p = none ∧ H p = some (.lst vs) ∧ Pa Hf vs as
  fr := fun ⟨p, vs, _, eA, hf, hh, _⟩ a ha => by
    subst eA
    obtain rfl : a = p := by simpa using ha
    exact ⟨hf, by rw [hh]; exact fun z => nomatch z⟩
  mono := fun ⟨p, vs, e, eA, hf, hh, hp⟩ s n k => by
    subst eA
    exact ⟨p, vs, e, rfl, n p (by simp), (k p (by simp)).trans hh, pa_mono s hp⟩

inductive Sl where
  | un
  | as (a : As)
  | ow (o : Ow)

def SlOk (Hf H : Hp) (o : Option V) (A : List Addr) : Sl → Prop
  | .un => A = []
  | .as a => A = [] ∧ ∃ v, o = some v ∧ a.p Hf v
  | .ow w => ∃ v, o = some v ∧ w.p Hf H v A

structure Ext (Hf H Hf' H' : Hp) : Prop where
  f : Same Hf Hf'
  h : Same H H'
  z : Same Hf' H'
  n : ∀ a, H a ≠ none → Hf a = none → Hf' a = none
theorem Ext.refl {Hf H : Hp} (z : Same Hf H) : Ext Hf H Hf H := ⟨.refl _, .refl _, z, fun _ _ h => h⟩
theorem Ext.trans {Hf H Hf1 H1 Hf2 H2 : Hp} (a : Ext Hf H Hf1 H1) (b : Ext Hf1 H1 Hf2 H2) : Ext Hf H Hf2 H2 :=
  ⟨a.f.trans b.f, a.h.trans b.h, b.z, fun x hx hf => b.n x (by
    cases e : H x with
    | none => exact absurd e hx
    | some o => rw [a.h x o e]; exact fun z => nomatch z) (a.n x hx hf)⟩
/-- a new object, that stays -/
theorem Ext.new {Hf H : Hp} {p : Addr} {o : HO} (z : Same Hf H) (h : H p = none) : Ext Hf H (upd Hf p o) (upd H p o) where
  f := fun a u e => by rw [upd_ne (ne_of_none (z a u e) h)]; exact e
  h := fun a u e => by rw [upd_ne (ne_of_none e h)]; exact e
  z := fun a u e => by
    by_cases c : a = p
    · subst c; rw [upd_same] at e ⊢; exact e
    · rw [upd_ne c] at e ⊢; exact z a u e
  n := fun a ha hf => by
    have c : a ≠ p := fun e => ha (by rw [e]; exact h)
    rw [upd_ne c]; exact hf
/-- a new object that stays out of what is fixed -/
theorem Ext.loose {Hf H : Hp} {p : Addr} {o : HO} (z : Same Hf H) (h : H p = none) : Ext Hf H Hf (upd H p o) where
  f := .refl _
  h := fun a u e => by rw [upd_ne (ne_of_none e h)]; exact e
  z := fun a u e => by rw [upd_ne (ne_of_none (z a u e) h)]; exact z a u e
  n := fun a _ hf => hf

structure Env (Hf H : Hp) (σ : St) (Γ : List Sl) (A : Nat → List Addr) : Prop where
  z : Same Hf H
  len : σ.length = Γ.length
  ok : ∀ i s, Γ[i]? = some s → SlOk Hf H (σ.getD i none) (A i) s
  dj : ∀ i j, i ≠ j → ∀ a ∈ A i, a ∉ A j
  out : ∀ i, Γ.length ≤ i → A i = []

theorem SlOk.ext {Hf H Hf' H' : Hp} {o : Option V} {A : List Addr} {s : Sl} (e : Ext Hf H Hf' H') (h : SlOk Hf H o A s) : SlOk Hf' H' o A s := by
  cases s with
  | un => exact h
  | as a =>
    obtain ⟨hA, v, ev, q⟩ := h
    exact ⟨hA, v, ev, a.mono e.f q⟩
  | ow w =>
    obtain ⟨v, ev, q⟩ := h
    have fr := w.fr q
    refine ⟨v, ev, w.mono q e.f (fun a ha => e.n a (fr a ha).2 (fr a ha).1) fun a ha => ?_⟩
    cases x : H a with
    | none => exact absurd x (fr a ha).2
    | some u => exact e.h a u x
theorem Env.ext {Hf H Hf' H' : Hp} {σ : St} {Γ : List Sl} {A : Nat → List Addr} (h : Env Hf H σ Γ A) (e : Ext Hf H Hf' H') : Env Hf' H' σ Γ A :=
  ⟨e.z, h.len, fun i s q => (h.ok i s q).ext e, h.dj, h.out⟩
theorem Env.as {Hf H : Hp} {σ : St} {Γ : List Sl} {A : Nat → List Addr} (h : Env Hf H σ Γ A) {i : Nat} {a : As} (e : Γ[i]? = some (.as a)) : ∃ v, σ[i]? = some (some v) ∧ a.p Hf v := by
  obtain ⟨_, v, ev, q⟩ := h.ok i _ e
  refine ⟨v, ?_, q⟩
  have hl : i < σ.length := by rw [h.len]; exact (List.getElem?_eq_some_iff.mp e).1
  rw [List.getD_eq_getElem?_getD, List.getElem?_eq_getElem hl, Option.getD_some] at ev
  rw [List.getElem?_eq_getElem hl, ev]
theorem Env.ow {Hf H : Hp} {σ : St} {Γ : List Sl} {A : Nat → List Addr} (h : Env Hf H σ Γ A) {i : Nat} {w : Ow} (e : Γ[i]? = some (.ow w)) : ∃ v, σ[i]? = some (some v) ∧ w.p Hf H v (A i) := by
  obtain ⟨v, ev, q⟩ := h.ok i _ e
  refine ⟨v, ?_, q⟩
  have hl : i < σ.length := by rw [h.len]; exact (List.getElem?_eq_some_iff.mp e).1
  rw [List.getD_eq_getElem?_getD, List.getElem?_eq_getElem hl, Option.getD_some] at ev
  rw [List.getElem?_eq_getElem hl, ev]

/-- a slot is stored; its own addresses from then on -/
def atN {α : Type} (A : Nat → α) (i : Nat) (x : α) : Nat → α := fun j => if j = i then x else A j
theorem Env.put {Hf H : Hp} {σ : St} {Γ : List Sl} {A : Nat → List Addr} (h : Env Hf H σ Γ A) (i : Nat) (o : Option V) (s : Sl) (B : List Addr) (hs : SlOk Hf H o B s) (hd : ∀ j, j ≠ i → ∀ a ∈ B, a ∉ A j) (hi : i < Γ.length) :
    Env Hf H (σ.set i o) (Γ.set i s) (atN A i B) := by
  refine ⟨h.z, by rw [List.length_set, List.length_set, h.len], fun j t e => ?_, fun j k n a ha hk => ?_, fun j hj => ?_⟩
  · by_cases c : i = j
    · subst c
      have hl : i < Γ.length := by
        have := (List.getElem?_eq_some_iff.mp e).1
        rwa [List.length_set] at this
      rw [List.getElem?_set_self hl] at e
      obtain rfl := Option.some.inj e
      have hl2 : i < σ.length := by rw [h.len]; exact hl
      rw [List.getD_eq_getElem?_getD, List.getElem?_set_self hl2, Option.getD_some]
      show SlOk Hf H o (if i = i then B else A i) s
      rw [if_pos rfl]; exact hs
    · rw [List.getElem?_set_ne c] at e
      rw [List.getD_eq_getElem?_getD, List.getElem?_set_ne c, ← List.getD_eq_getElem?_getD]
      show SlOk Hf H _ (if j = i then B else A j) t
      rw [if_neg (fun z => c z.symm)]
      exact h.ok j t e
  · have ha' : a ∈ (if j = i then B else A j) := ha
    have hk' : a ∈ (if k = i then B else A k) := hk
    by_cases c : j = i
    · rw [if_pos c] at ha'
      have ck : k ≠ i := fun z => n (c.trans z.symm)
      rw [if_neg ck] at hk'
      exact hd k ck a ha' hk'
    · rw [if_neg c] at ha'
      by_cases d : k = i
      · rw [if_pos d] at hk'
        exact hd j c a hk' ha'
      · rw [if_neg d] at hk'
        exact h.dj j k n a ha' hk'
  · rw [List.length_set] at hj
    show (if j = i then B else A j) = []
    rw [if_neg (by omega)]
    exact h.out j hj

/-! ### where one started: what must stand at the end -/
structure Cb where
  f : Hp
  h : Hp
  W : List Addr
structure Bok (c : Cb) (Hf H : Hp) : Prop where
  f : Same c.f Hf
  h : ∀ a o, a ∉ c.W → c.h a = some o → H a = some o
  n : ∀ a, c.h a ≠ none → c.f a = none → Hf a = none
  k : ∀ a, c.h a ≠ none → H a ≠ none
  z : Same Hf H
theorem Bok.ext {c : Cb} {Hf H Hf' H' : Hp} (b : Bok c Hf H) (e : Ext Hf H Hf' H') : Bok c Hf' H' where
  f := b.f.trans e.f
  h := fun a o w q => e.h a o (b.h a o w q)
  n := fun a q x => e.n a (b.k a q) (b.n a q x)
  k := fun a q x => by
    cases y : H a with
    | none => exact b.k a q y
    | some o => rw [e.h a o y] at x; exact nomatch x
  z := e.z
structure StOk (c : Cb) (Hf H : Hp) (σ : St) (Γ : List Sl) : Prop where
  b : Bok c Hf H
  e : ∃ A, Env Hf H σ Γ A ∧ ∀ i, ∀ a ∈ A i, c.h a = none ∨ a ∈ c.W
theorem StOk.ext {c : Cb} {Hf H Hf' H' : Hp} {σ : St} {Γ : List Sl} (s : StOk c Hf H σ Γ) (e : Ext Hf H Hf' H') : StOk c Hf' H' σ Γ :=
  ⟨s.b.ext e, let ⟨A, h, q⟩ := s.e; ⟨A, h.ext e, q⟩⟩
theorem StOk.putAs {c : Cb} {Hf H : Hp} {σ : St} {Γ : List Sl} (s : StOk c Hf H σ Γ) (i : Nat) {v : V} {a : As} (h : a.p Hf v) : StOk c Hf H (σ.set i (some v)) (Γ.set i (.as a)) := by
  by_cases hi : i < Γ.length
  rotate_left
  · obtain ⟨A, he, hq⟩ := s.e
    have hl := he.len
    rw [List.set_eq_of_length_le (by omega), List.set_eq_of_length_le (by omega)]
    exact s
  obtain ⟨A, he, hq⟩ := s.e
  refine ⟨s.b, atN A i [], he.put i (some v) (.as a) [] ⟨rfl, v, rfl, h⟩ (fun _ _ _ z => nomatch z) hi, fun j x hx => ?_⟩
  by_cases c : j = i
  · have hx' : x ∈ (if j = i then [] else A j) := hx
    rw [if_pos c] at hx'; cases hx'
  · have hx' : x ∈ (if j = i then [] else A j) := hx
    rw [if_neg c] at hx'; exact hq j x hx'
theorem StOk.putUn {c : Cb} {Hf H : Hp} {σ : St} {Γ : List Sl} (s : StOk c Hf H σ Γ) (i : Nat) (o : Option V) : StOk c Hf H (σ.set i o) (Γ.set i .un) := by
  by_cases hi : i < Γ.length
  rotate_left
  · obtain ⟨A, he, hq⟩ := s.e
    have hl := he.len
    rw [List.set_eq_of_length_le (by omega), List.set_eq_of_length_le (by omega)]
    exact s
  obtain ⟨A, he, hq⟩ := s.e
  refine ⟨s.b, atN A i [], he.put i o .un [] rfl (fun _ _ _ z => nomatch z) hi, fun j x hx => ?_⟩
  by_cases c : j = i
  · have hx' : x ∈ (if j = i then [] else A j) := hx
    rw [if_pos c] at hx'; cases hx'
  · have hx' : x ∈ (if j = i then [] else A j) := hx
    rw [if_neg c] at hx'; exact hq j x hx'
/-- forgetting: each slot of Γ' is unknown, or as in Γ, or weaker -/
def Sl.le : Sl → Sl → Prop
  | _, .un => True
  | .as a, .as b => a.le b
  | .ow a, .ow b => ∀ Hf H v A, a.p Hf H v A → b.p Hf H v A
  | _, _ => False
theorem Sl.le_refl (s : Sl) : s.le s := by
  cases s with
  | un => trivial
  | as a => exact a.le_refl
  | ow w => exact fun _ _ _ _ h => h
inductive GLe : List Sl → List Sl → Prop
  | nil : GLe [] []
  | cons {s t : Sl} {a b : List Sl} : s.le t → GLe a b → GLe (s :: a) (t :: b)
theorem GLe.refl : ∀ {Γ : List Sl}, GLe Γ Γ
  | [] => .nil
  | s :: _ => .cons s.le_refl GLe.refl
theorem GLe.len {a b : List Sl} (h : GLe a b) : a.length = b.length := by
  induction h with
  | nil => rfl
  | cons _ _ ih => rw [List.length_cons, List.length_cons, ih]
theorem GLe.get {a b : List Sl} (h : GLe a b) : ∀ {i : Nat} {t : Sl}, b[i]? = some t → ∃ s, a[i]? = some s ∧ s.le t := by
  induction h with
  | nil => intro i t e; simp at e
  | cons h1 h2 ih =>
    intro i t e
    cases i with
    | zero => obtain rfl := Option.some.inj e; exact ⟨_, rfl, h1⟩
    | succ i => exact ih e
theorem StOk.weak {c : Cb} {Hf H : Hp} {σ : St} {Γ Γ' : List Sl} (s : StOk c Hf H σ Γ) (g : GLe Γ Γ') : StOk c Hf H σ Γ' := by
  obtain ⟨A, he, hq⟩ := s.e
  refine ⟨s.b, fun i => match Γ'[i]? with | some (.ow _) => A i | _ => [], ⟨he.z, by rw [he.len, g.len], fun i t e => ?_, fun i j n a ha hj => ?_, fun i hi => by simp only [List.getElem?_eq_none hi]⟩, fun i a ha => ?_⟩
  · obtain ⟨u, hu, le⟩ := g.get e
    have k := he.ok i u hu
    cases t with
    | un => simp only [e]; rfl
    | as b =>
      simp only [e]
      cases u with
      | as a => obtain ⟨_, v, ev, q⟩ := k; exact ⟨rfl, v, ev, le _ _ q⟩
      | un => exact le.elim
      | ow w => exact le.elim
    | ow b =>
      simp only [e]
      cases u with
      | ow w => obtain ⟨v, ev, q⟩ := k; exact ⟨v, ev, le _ _ _ _ q⟩
      | un => exact le.elim
      | as w => exact le.elim
  · have h1 : a ∈ A i := by
      revert ha
      split
      · exact id
      · exact fun z => nomatch z
    have h2 : a ∈ A j := by
      revert hj
      split
      · exact id
      · exact fun z => nomatch z
    exact he.dj i j n a h1 h2
  · refine hq i a ?_
    have ha2 : a ∈ (match Γ'[i]? with | some (.ow _) => A i | _ => []) := ha
    revert ha2
    split
    · exact id
    · exact fun z => nomatch z
/-- a new thing of one's own goes into a slot -/
theorem StOk.putOw {c : Cb} {Hf H : Hp} {σ : St} {Γ : List Sl} (s : StOk c Hf H σ Γ) (i : Nat) {v : V} {w : Ow} {B : List Addr} (h : w.p Hf H v B) (hB : ∀ a ∈ B, c.h a = none ∨ a ∈ c.W)
    (hn : ∀ A : Nat → List Addr, Env Hf H σ Γ A → ∀ j, j ≠ i → ∀ a ∈ B, a ∉ A j) : StOk c Hf H (σ.set i (some v)) (Γ.set i (.ow w)) := by
  by_cases hi : i < Γ.length
  rotate_left
  · obtain ⟨A, he, hq⟩ := s.e
    have hl := he.len
    rw [List.set_eq_of_length_le (by omega), List.set_eq_of_length_le (by omega)]
    exact s
  obtain ⟨A, he, hq⟩ := s.e
  refine ⟨s.b, atN A i B, he.put i (some v) (.ow w) B ⟨v, rfl, h⟩ (hn A he) hi, fun j x hx => ?_⟩
  by_cases c : j = i
  · have hx' : x ∈ (if j = i then B else A j) := hx
    rw [if_pos c] at hx'; exact hB x hx'
  · have hx' : x ∈ (if j = i then B else A j) := hx
    rw [if_neg c] at hx'; exact hq j x hx'
end DL

namespace DL
open PySem PySem.Spec L2
open PyProof.Rows hiding St

/-! ### what an expression gives -/
def EvA (te : TE) (Γ : List Sl) (a : As) : Prop := ∀ Hf H σ A, Env Hf H σ Γ A → ∀ Q : VK, (∀ v Hf' H', Ext Hf H Hf' H' → a.p Hf' v → Q v H') → te σ H Q
def EvB (tt : TT) (Γ : List Sl) (b : Bool) : Prop := ∀ Hf H σ A, Env Hf H σ Γ A → ∀ Q : Bool → Hp → Prop, (∀ Hf' H', Ext Hf H Hf' H' → Q b H') → tt σ H Q
def EvS (ta : TA) (Γ : List Sl) (as : List As) : Prop := ∀ Hf H σ A, Env Hf H σ Γ A → ∀ Q : List V → Hp → Prop, (∀ vs Hf' H', Ext Hf H Hf' H' → Pa Hf' vs as → Q vs H') → ta σ H Q
/-- a list that can be read, its items stay (it may be one's own) -/
def EvL (te : TE) (Γ : List Sl) (as : List As) : Prop := ∀ Hf H σ A, Env Hf H σ Γ A → ∀ Q : VK, (∀ p vs Hf' H', Ext Hf H Hf' H' → H' p = some (.lst vs) → Pa Hf' vs as → Q (.ref p) H') → te σ H Q
/-- a new thing of one's own -/
def EvW (te : TE) (Γ : List Sl) (w : Ow) : Prop := ∀ Hf H σ A, Env Hf H σ Γ A → ∀ Q : VK, (∀ v Hf' H' B, Ext Hf H Hf' H' → (∀ a ∈ B, H a = none) → w.p Hf' H' v B → Q v H') → te σ H Q
def EvO (to : TO) (Γ : List Sl) (o : Option Int) : Prop := ∀ Hf H σ A, Env Hf H σ Γ A → ∀ Q : Option Int → Hp → Prop, (∀ Hf' H', Ext Hf H Hf' H' → Q o H') → to σ H Q

section
variable {K : PySem.W.Frag} {Γ : List Sl} {ta tb te : TE} {tt tu : TT} {a b z : As}
theorem EvA.le (h : EvA te Γ a) (l : a.le b) : EvA te Γ b := fun Hf H σ A e Q q => h Hf H σ A e Q fun v Hf' H' x y => q v Hf' H' x (l _ _ y)
theorem EvA.is {d d' : PyData} (h : EvA te Γ (Dt K d)) (e : d = d') : EvA te Γ (Dt K d') := e ▸ h
theorem EvB.is {c d : Bool} (h : EvB tt Γ c) (e : c = d) : EvB tt Γ d := e ▸ h
theorem ev_var {i : Nat} (h : Γ[i]? = some (.as a)) : EvA (tVar i) Γ a := fun Hf H σ A e Q q => by
  obtain ⟨v, ev, p⟩ := e.as h
  exact ⟨v, ev, q v Hf H (.refl e.z) p⟩
theorem ev_int {i : Int} : EvA (tC (.int i)) Γ (Dt K (.int i)) := fun Hf H σ A e Q q => q _ Hf H (.refl e.z) (.int i)
theorem ev_bl {i : Bool} : EvA (tC (.bl i)) Γ (Dt K (.bool i)) := fun Hf H σ A e Q q => q _ Hf H (.refl e.z) (.bl i)
theorem ev_str {i : Str} : EvA (tC (.str i)) Γ (Dt K (.str i)) := fun Hf H σ A e Q q => q _ Hf H (.refl e.z) (.str i)
theorem ev_non : EvA (tC .non) Γ (Dt K .none) := fun Hf H σ A e Q q => q _ Hf H (.refl e.z) .non
/-- any constant -/
def CtA (v : V) : As := ⟨fun _ u => u = v, fun _ h => h⟩
theorem ev_ct {v : V} : EvA (tC v) Γ (CtA v) := fun Hf H σ A e Q q => q _ Hf H (.refl e.z) rfl

/-! two-place operations by values -/
def RvA (r : R2) (a b z : As) : Prop := ∀ Hf H x y, Same Hf H → a.p Hf x → b.p Hf y → ∀ Q : VK, (∀ v Hf' H', Ext Hf H Hf' H' → z.p Hf' v → Q v H') → r x y H Q
theorem ev_op {r : R2} (ha : EvA ta Γ a) (hb : EvA tb Γ b) (hr : RvA r a b z) : EvA (tOp r ta tb) Γ z := fun Hf H σ A e Q q =>
  ha Hf H σ A e _ fun x Hf1 H1 e1 px => hb Hf1 H1 σ A (e.ext e1) _ fun y Hf2 H2 e2 py => hr Hf2 H2 x y e2.z (a.mono e2.f px) py Q fun v Hf3 H3 e3 pv => q v Hf3 H3 ((e1.trans e2).trans e3) pv
theorem rv_I0 {g : Int → Int → V} {i j : Int} {d : PyData} (hd : ∀ H, Dq K H (g i j) d) : RvA (rI0 g) (Dt K (.int i)) (Dt K (.int j)) (Dt K d) := fun Hf H x y hz px py Q q => by
  cases dt_int px; cases dt_int py
  exact ⟨i, j, rfl, rfl, q _ Hf H (.refl hz) (hd _)⟩
theorem rv_I {C : Int → Int → Prop} {g : Int → Int → V} {i j : Int} {d : PyData} (hc : C i j) (hd : ∀ H, Dq K H (g i j) d) : RvA (rI C g) (Dt K (.int i)) (Dt K (.int j)) (Dt K d) := fun Hf H x y hz px py Q q => by
  cases dt_int px; cases dt_int py
  exact ⟨i, j, rfl, rfl, hc, q _ Hf H (.refl hz) (hd _)⟩
theorem ev_I0i {g : Int → Int → Int} {i j : Int} (ha : EvA ta Γ (Dt K (.int i))) (hb : EvA tb Γ (Dt K (.int j))) : EvA (tOp (rI0 fun i j => .int (g i j)) ta tb) Γ (Dt K (.int (g i j))) := ev_op ha hb (rv_I0 fun _ => .int _)
theorem ev_I0b {g : Int → Int → Bool} {i j : Int} (ha : EvA ta Γ (Dt K (.int i))) (hb : EvA tb Γ (Dt K (.int j))) : EvA (tOp (rI0 fun i j => .bl (g i j)) ta tb) Γ (Dt K (.bool (g i j))) := ev_op ha hb (rv_I0 fun _ => .bl _)
theorem ev_Ii {C : Int → Int → Prop} {g : Int → Int → Int} {i j : Int} (ha : EvA ta Γ (Dt K (.int i))) (hb : EvA tb Γ (Dt K (.int j))) (hc : C i j) : EvA (tOp (rI C fun i j => .int (g i j)) ta tb) Γ (Dt K (.int (g i j))) := ev_op ha hb (rv_I hc fun _ => .int _)
theorem ev_addS {x y : Str} {r : R2} (hr : r = (fun x y H Q => ∃ i j, x = .str i ∧ y = .str j ∧ i.length + j.length ≤ sizeLine ∧ Q (.str (i ++ j)) H) := by rfl) (ha : EvA ta Γ (Dt K (.str x))) (hb : EvA tb Γ (Dt K (.str y))) (hl : x.length + y.length ≤ sizeLine) : EvA (tOp r ta tb) Γ (Dt K (.str (x ++ y))) := by
  subst hr
  exact ev_op ha hb fun Hf H u v hz px py Q q => by
    cases dt_str px; cases dt_str py
    exact ⟨x, y, rfl, rfl, hl, q _ Hf H (.refl hz) (.str _)⟩
/-- == and != of data -/
theorem ev_eqD {d e : PyData} (ha : EvA ta Γ (Dt K d)) (hb : EvA tb Γ (Dt K e)) (sd : SeqAt.shaped d = true) (se : SeqAt.shaped e = true) : EvA (tOp (rEqD K) ta tb) Γ (Dt K (.bool (PyData.eqv d e))) :=
  ev_op ha hb fun Hf H x y hz px py Q q => ⟨d, e, dq_dp (dp_mono hz px), dq_dp (dp_mono hz py), sd, se, q _ Hf H (.refl hz) (.bl _)⟩
theorem ev_neD {d e : PyData} (ha : EvA ta Γ (Dt K d)) (hb : EvA tb Γ (Dt K e)) (sd : SeqAt.shaped d = true) (se : SeqAt.shaped e = true) : EvA (tOp (rNeD K) ta tb) Γ (Dt K (.bool (!PyData.eqv d e))) :=
  ev_op ha hb fun Hf H x y hz px py Q q => ⟨d, e, dq_dp (dp_mono hz px), dq_dp (dp_mono hz py), sd, se, q _ Hf H (.refl hz) (.bl _)⟩
/-- one side a list of one's own -/
theorem ev_neL {ds : List PyData} {e : PyData} (ha : EvL ta Γ (ds.map (Dt K))) (hb : EvA tb Γ (Dt K e)) (sd : SeqAt.shaped (.list ds) = true) (se : SeqAt.shaped e = true) : EvA (tOp (rNeD K) ta tb) Γ (Dt K (.bool (!PyData.eqv (.list ds) e))) := fun Hf H σ A en Q q =>
  ha Hf H σ A en _ fun p vs Hf1 H1 e1 hp px => hb Hf1 H1 σ A (en.ext e1) _ fun y Hf2 H2 e2 py =>
    ⟨.list ds, e, dq_dp (.lst (e2.h _ _ hp) (dpAll_mono (e2.f.trans e2.z) (dpAll_pa px))), dq_dp (dp_mono e2.z py), sd, se, q _ Hf2 H2 (e1.trans e2) (.bl _)⟩
/-- == of scalars: rEq -/
theorem ev_eqS {x y : V} {d e : PyData} (ha : EvA ta Γ (Dt K d)) (hb : EvA tb Γ (Dt K e)) (hx : ∀ H v, Dq K H v d → v = x) (hy : ∀ H v, Dq K H v e → v = y) (hs : scal x y = true) : EvA (tOp rEq ta tb) Γ (Dt K (.bool (decide (x = y)))) :=
  ev_op ha hb fun Hf H u v hz px py Q q => by
    cases hx _ _ px; cases hy _ _ py
    exact ⟨hs, q _ Hf H (.refl hz) (.bl _)⟩
theorem ev_neS {x y : V} {d e : PyData} (ha : EvA ta Γ (Dt K d)) (hb : EvA tb Γ (Dt K e)) (hx : ∀ H v, Dq K H v d → v = x) (hy : ∀ H v, Dq K H v e → v = y) (hs : scal x y = true) : EvA (tOp rNe ta tb) Γ (Dt K (.bool (!decide (x = y)))) :=
  ev_op ha hb fun Hf H u v hz px py Q q => by
    cases hx _ _ px; cases hy _ _ py
    exact ⟨hs, q _ Hf H (.refl hz) (.bl _)⟩
theorem ev_eqI {i j : Int} (ha : EvA ta Γ (Dt K (.int i))) (hb : EvA tb Γ (Dt K (.int j))) : EvA (tOp rEq ta tb) Γ (Dt K (.bool (decide (i = j)))) :=
  (ev_eqS (x := .int i) (y := .int j) ha hb (fun _ _ h => dt_int h) (fun _ _ h => dt_int h) rfl).is (by congr 1; exact decide_eq_decide.mpr ⟨fun h => V.int.inj h, fun h => by rw [h]⟩)
theorem ev_neI {i j : Int} (ha : EvA ta Γ (Dt K (.int i))) (hb : EvA tb Γ (Dt K (.int j))) : EvA (tOp rNe ta tb) Γ (Dt K (.bool (!decide (i = j)))) :=
  (ev_neS (x := .int i) (y := .int j) ha hb (fun _ _ h => dt_int h) (fun _ _ h => dt_int h) rfl).is (by congr 2; exact decide_eq_decide.mpr ⟨fun h => V.int.inj h, fun h => by rw [h]⟩)
theorem ev_eqT {i j : Str} (ha : EvA ta Γ (Dt K (.str i))) (hb : EvA tb Γ (Dt K (.str j))) : EvA (tOp rEq ta tb) Γ (Dt K (.bool (decide (i = j)))) :=
  (ev_eqS (x := .str i) (y := .str j) ha hb (fun _ _ h => dt_str h) (fun _ _ h => dt_str h) rfl).is (by congr 1; exact decide_eq_decide.mpr ⟨fun h => V.str.inj h, fun h => by rw [h]⟩)
theorem ev_neT {i j : Str} (ha : EvA ta Γ (Dt K (.str i))) (hb : EvA tb Γ (Dt K (.str j))) : EvA (tOp rNe ta tb) Γ (Dt K (.bool (!decide (i = j)))) :=
  (ev_neS (x := .str i) (y := .str j) ha hb (fun _ _ h => dt_str h) (fun _ _ h => dt_str h) rfl).is (by congr 2; exact decide_eq_decide.mpr ⟨fun h => V.str.inj h, fun h => by rw [h]⟩)
def isNone : PyData → Bool
  | .none => true
  | _ => false
theorem dq_non {H : Hp} {v : V} {d : PyData} (h : Dq K H v d) : decide (v = .non) = isNone d := by
  cases h <;> rfl
theorem ev_isN {d : PyData} {r : R2} (hr : r = (fun x y H Q => y = .non ∧ Q (.bl (decide (x = .non))) H) := by rfl) (ha : EvA ta Γ (Dt K d)) (hb : EvA tb Γ (Dt K .none)) : EvA (tOp r ta tb) Γ (Dt K (.bool (isNone d))) := by
  subst hr
  exact ev_op ha hb fun Hf H x y hz px py Q q => ⟨dt_non py, by rw [dq_non px]; exact q _ Hf H (.refl hz) (.bl _)⟩
theorem ev_notN {d : PyData} {r : R2} (hr : r = (fun x y H Q => y = .non ∧ Q (.bl (!decide (x = .non))) H) := by rfl) (ha : EvA ta Γ (Dt K d)) (hb : EvA tb Γ (Dt K .none)) : EvA (tOp r ta tb) Γ (Dt K (.bool (!isNone d))) := by
  subst hr
  exact ev_op ha hb fun Hf H x y hz px py Q q => ⟨dt_non py, by rw [dq_non px]; exact q _ Hf H (.refl hz) (.bl _)⟩
/-- x in xs, data of any depth -/
theorem ev_inD {d : PyData} {ds : List PyData} (ha : EvA ta Γ (Dt K d)) (hb : EvA tb Γ (Dt K (.list ds))) (sd : SeqAt.shaped d = true) (se : SeqAt.shaped (.list ds) = true) : EvA (tOp (rInD K) ta tb) Γ (Dt K (.bool (ds.any fun z => PyData.eqv z d))) :=
  ev_op ha hb fun Hf H x y hz px py Q q => ⟨d, ds, dq_dp (dp_mono hz px), dq_dp (dp_mono hz py), sd, se, q _ Hf H (.refl hz) (.bl _)⟩
theorem ev_notInD {d : PyData} {ds : List PyData} (ha : EvA ta Γ (Dt K d)) (hb : EvA tb Γ (Dt K (.list ds))) (sd : SeqAt.shaped d = true) (se : SeqAt.shaped (.list ds) = true) : EvA (tOp (rNotInD K) ta tb) Γ (Dt K (.bool (!ds.any fun z => PyData.eqv z d))) :=
  ev_op ha hb fun Hf H x y hz px py Q q => ⟨d, ds, dq_dp (dp_mono hz px), dq_dp (dp_mono hz py), sd, se, q _ Hf H (.refl hz) (.bl _)⟩
/-- a chain of two comparisons of whole numbers -/
theorem ev_chain {g g' : Int → Int → Bool} {i j k : Int} {tc : TE} (ha : EvA ta Γ (Dt K (.int i))) (hb : EvA tb Γ (Dt K (.int j))) (hc : EvA tc Γ (Dt K (.int k))) :
    EvA (tChain (rI0 fun i j => .bl (g i j)) (rI0 fun i j => .bl (g' i j)) ta tb tc) Γ (Dt K (.bool (g i j && g' j k))) := fun Hf H σ A e Q q =>
  ha Hf H σ A e _ fun x Hf1 H1 e1 px => hb Hf1 H1 σ A (e.ext e1) _ fun y Hf2 H2 e2 py => by
    cases dt_int px; cases dt_int py
    refine ⟨i, j, rfl, rfl, g i j, rfl, ?_⟩
    cases hg : g i j with
    | false => rw [hg] at q; exact iteF (q _ Hf2 H2 (e1.trans e2) (.bl _))
    | true =>
      rw [hg] at q
      refine iteT (hc Hf2 H2 σ A (e.ext (e1.trans e2)) _ fun w Hf3 H3 e3 pw => ?_)
      cases dt_int pw
      exact ⟨j, k, rfl, rfl, q _ Hf3 H3 ((e1.trans e2).trans e3) (.bl _)⟩
theorem ev_neg {i : Int} {r : V → Hp → VK → Prop} (hr : r = (rU fun i => .int (-i)) := by rfl) (ha : EvA ta Γ (Dt K (.int i))) : EvA (tUn r ta) Γ (Dt K (.int (-i))) := fun Hf H σ A e Q q => by
  subst hr
  exact ha Hf H σ A e _ fun x Hf1 H1 e1 px => by
    cases dt_int px
    exact ⟨i, rfl, q _ Hf1 H1 e1 (.int _)⟩

/-! items -/
theorem pa_get {H : Hp} : ∀ {vs : List V} {as : List As}, Pa H vs as → ∀ {j : Nat} {a : As}, as[j]? = some a → ∃ v, vs[j]? = some v ∧ a.p H v
  | _, _, .nil, j, a, h => by simp at h
  | _, _, .cons h q, 0, a, e => by obtain rfl := Option.some.inj e; exact ⟨_, rfl, h⟩
  | _, _, .cons h q, j + 1, a, e => pa_get q e
theorem pa_len {H : Hp} {vs : List V} {as : List As} (h : Pa H vs as) : vs.length = as.length := Paired.length h
theorem atI_map {α β : Type} {xs : List α} {ys : List β} {i : Int} {y : β} (hl : xs.length = ys.length) (h : atI ys i = some y) : ∃ j, ixN xs.length i = some j ∧ ys[j]? = some y := by
  unfold atI at h
  rw [hl]
  cases e : ixN ys.length i with
  | none => rw [e] at h; cases h
  | some j => rw [e] at h; exact ⟨j, rfl, h⟩
theorem ev_ixL {as : List As} {i : Int} (ha : EvL ta Γ as) (hb : EvA tb Γ (Dt K (.int i))) (h : atI as i = some a) : EvA (tOp (rIxL K) ta tb) Γ a := fun Hf H σ A e Q q =>
  ha Hf H σ A e _ fun p vs Hf1 H1 e1 hp pv => hb Hf1 H1 σ A (e.ext e1) _ fun y Hf2 H2 e2 py => by
    cases dt_int py
    have pv2 := pa_mono e2.f pv
    obtain ⟨j, hj, hy⟩ := atI_map (pa_len pv2) h
    obtain ⟨v, ev, av⟩ := pa_get pv2 hy
    refine ⟨p, vs, i, v, rfl, rfl, .inl (.inl (e2.h _ _ hp)), ?_, q v Hf2 H2 (e1.trans e2) av⟩
    unfold atI
    rw [hj]; exact ev
theorem ev_ixT {ds : List PyData} {i : Int} {d : PyData} (ha : EvA ta Γ (Dt K (.tuple ds))) (hb : EvA tb Γ (Dt K (.int i))) (h : atI ds i = some d) : EvA (tOp (rIxT K) ta tb) Γ (Dt K d) := fun Hf H σ A e Q q =>
  ha Hf H σ A e _ fun x Hf1 H1 e1 px => hb Hf1 H1 σ A (e.ext e1) _ fun y Hf2 H2 e2 py => by
    cases dt_int py
    obtain ⟨p, vs, rfl, hp, pv⟩ := tpA_ge _ _ px
    have pv2 := pa_mono e2.f pv
    obtain ⟨j, hj, hy⟩ := atI_map (xs := vs) (by rw [pa_len pv2, List.length_map]) h
    obtain ⟨v, ev, av⟩ := pa_get (a := Dt K d) pv2 (by rw [List.getElem?_map, hy]; rfl)
    refine ⟨p, vs, i, v, rfl, rfl, sqt_mono (e2.f.trans e2.z) hp, ?_, q v Hf2 H2 (e1.trans e2) av⟩
    unfold atI
    rw [hj]; exact ev
theorem ev_ixS {x : Str} {i : Int} {c : Nat} (ha : EvA ta Γ (Dt K (.str x))) (hb : EvA tb Γ (Dt K (.int i))) (hl : x.length ≤ sizeLine) (h : atI x.cps.toList i = some c) : EvA (tOp rIxS ta tb) Γ (Dt K (.str ⟨#[c]⟩)) :=
  ev_op ha hb fun Hf H u v hz px py Q q => by
    cases dt_str px; cases dt_int py
    exact ⟨x, i, c, rfl, rfl, hl, h, q _ Hf H (.refl hz) (.str _)⟩
/-- a list that stays may be read -/
theorem el_as {as : List As} (h : EvA te Γ (LsA as)) : EvL te Γ as := fun Hf H σ A e Q q => h Hf H σ A e _ fun v Hf1 H1 e1 ⟨p, vs, ev, hp, pv⟩ => by subst ev; exact q p vs Hf1 H1 e1 (e1.z _ _ hp) pv
theorem el_dt {ds : List PyData} (h : EvA te Γ (Dt K (.list ds))) : EvL te Γ (ds.map (Dt K)) := el_as (h.le lsA_ge)
theorem el_ow {i : Nat} {as : List As} (h : Γ[i]? = some (.ow (OL as))) : EvL (tVar i) Γ as := fun Hf H σ A e Q q => by
  obtain ⟨v, ev, p, vs, rfl, _, hf, hp, pv⟩ := e.ow h
  exact ⟨_, ev, q p vs Hf H (.refl e.z) hp pv⟩
theorem el_w {as : List As} (h : EvW te Γ (OL as)) : EvL te Γ as := fun Hf H σ A e Q q => h Hf H σ A e Q fun v Hf' H' B e1 hb ⟨p, vs, ev, _, _, hp, pv⟩ => by subst ev; exact q p vs Hf' H' e1 hp pv
/-- what is new may stay -/
theorem fix1 {Hf H : Hp} {p : Addr} {o : HO} (z : Same Hf H) (hf : Hf p = none) (hp : H p = some o) : Same Hf (upd Hf p o) ∧ Same (upd Hf p o) H := by
  refine ⟨fun a u e => ?_, fun a u e => ?_⟩
  · rw [upd_ne (ne_of_none e hf)]; exact e
  · by_cases c : a = p
    · subst c; rw [upd_same] at e; rw [hp]; exact e
    · rw [upd_ne c] at e; exact z a u e
theorem Ext.fix {Hf H Hf' H' : Hp} {p : Addr} {o : HO} (e : Ext Hf H Hf' H') (h : H p = none) (hf : Hf' p = none) (hp : H' p = some o) : Ext Hf H (upd Hf' p o) H' :=
  ⟨e.f.trans (fix1 e.z hf hp).1, e.h, (fix1 e.z hf hp).2, fun a ha hn => by
    have c : a ≠ p := fun x => ha (by rw [x]; exact h)
    rw [upd_ne c]; exact e.n a ha hn⟩
theorem ev_fix {as : List As} (h : EvW te Γ (OL as)) : EvA te Γ (LsA as) := fun Hf H σ A e Q q => h Hf H σ A e Q fun v Hf' H' B e1 hb ⟨p, vs, ev, eB, hf, hp, pv⟩ => by
  subst ev eB
  have hn := hb p (by simp)
  exact q _ _ H' (e1.fix hn hf hp) ⟨p, vs, rfl, upd_same, pa_mono (fix1 e1.z hf hp).1 pv⟩
theorem ev_fixD {ds : List PyData} (h : EvW te Γ (OL (ds.map (Dt K)))) : EvA te Γ (Dt K (.list ds)) := (ev_fix h).le lsA_le

/-! argument lists, displays -/
theorem es_nil : EvS tNil Γ [] := fun Hf H σ A e Q q => q [] Hf H (.refl e.z) .nil
theorem es_cons {tr : TA} {as : List As} (h : EvA te Γ a) (hr : EvS tr Γ as) : EvS (tCons te tr) Γ (a :: as) := fun Hf H σ A e Q q =>
  h Hf H σ A e _ fun v Hf1 H1 e1 pv => hr Hf1 H1 σ A (e.ext e1) _ fun vs Hf2 H2 e2 pvs => q _ Hf2 H2 (e1.trans e2) (.cons (a.mono e2.f pv) pvs)
theorem ew_lst {t : TA} {as : List As} (h : EvS t Γ as) (hl : as.length ≤ sizeLine) : EvW (tLst t) Γ (OL as) := fun Hf H σ A e Q q =>
  h Hf H σ A e _ fun vs Hf1 H1 e1 pvs => ⟨by rw [pa_len pvs]; exact hl, fun p hp =>
    q _ Hf1 (upd H1 p (.lst vs)) [p] (e1.trans (.loose e1.z hp)) (fun a ha => by
      obtain rfl : a = p := by simpa using ha
      exact e1.h.free hp) ⟨p, vs, rfl, rfl, e1.z.free hp, upd_same, pvs⟩⟩
theorem ev_lst {t : TA} {ds : List PyData} (h : EvS t Γ (ds.map (Dt K))) (hl : ds.length ≤ sizeLine) : EvA (tLst t) Γ (Dt K (.list ds)) := ev_fixD (ew_lst h (by rw [List.length_map]; exact hl))
theorem ev_tupA {t : TA} {as : List As} (h : EvS t Γ as) (hl : as.length ≤ sizeLine) : EvA (tTup t) Γ (TpA K as) := fun Hf H σ A e Q q =>
  h Hf H σ A e _ fun vs Hf1 H1 e1 pvs => ⟨by rw [pa_len pvs]; exact hl, fun p hp =>
    q _ _ _ (e1.trans (.new e1.z hp)) ⟨p, vs, rfl, .inl (.inl upd_same), pa_mono (Ext.new (o := .tup vs) e1.z hp).f pvs⟩⟩
theorem ev_tup {t : TA} {ds : List PyData} (h : EvS t Γ (ds.map (Dt K))) (hl : ds.length ≤ sizeLine) : EvA (tTup t) Γ (Dt K (.tuple ds)) := (ev_tupA (K := K) h (by rw [List.length_map]; exact hl)).le tpA_le
/-- argument lists of data -/
def EvDs (K : PySem.W.Frag) (ta : TA) (Γ : List Sl) (ds : List PyData) : Prop := EvS ta Γ (ds.map (Dt K))
theorem ed_nil : EvDs K tNil Γ [] := es_nil
theorem ed_cons {tr : TA} {d : PyData} {ds : List PyData} (h : EvA te Γ (Dt K d)) (hr : EvDs K tr Γ ds) : EvDs K (tCons te tr) Γ (d :: ds) := es_cons h hr

/-! tests -/
theorem eb_test {c : Bool} (h : EvA te Γ (Dt K (.bool c))) : EvB (tTest te) Γ c := fun Hf H σ A e Q q => h Hf H σ A e _ fun v Hf1 H1 e1 pv => by cases dt_bl pv; exact ⟨c, rfl, q Hf1 H1 e1⟩
theorem eb_B {c : Bool} (h : EvA te Γ (Dt K (.bool c))) : EvB (tB te) Γ c := fun Hf H σ A e Q q => h Hf H σ A e _ fun v Hf1 H1 e1 pv => by cases dt_bl pv; exact ⟨c, rfl, q Hf1 H1 e1⟩
theorem eb_yes : EvB tYes Γ true := fun Hf H σ A e Q q => q Hf H (.refl e.z)
theorem eb_not {c : Bool} (h : EvB tt Γ c) : EvB (tNot tt) Γ (!c) := fun Hf H σ A e Q q => h Hf H σ A e _ fun Hf1 H1 e1 => q Hf1 H1 e1
theorem eb_and {c d : Bool} (h : EvB tt Γ c) (h2 : c = true → EvB tu Γ d) : EvB (tAnd tt tu) Γ (c && d) := fun Hf H σ A e Q q => h Hf H σ A e _ fun Hf1 H1 e1 => by
  cases c with
  | true => exact iteT (h2 rfl Hf1 H1 σ A (e.ext e1) _ fun Hf2 H2 e2 => q Hf2 H2 (e1.trans e2))
  | false => exact iteF (q Hf1 H1 e1)
theorem eb_or {c d : Bool} (h : EvB tt Γ c) (h2 : c = false → EvB tu Γ d) : EvB (tOr tt tu) Γ (c || d) := fun Hf H σ A e Q q => h Hf H σ A e _ fun Hf1 H1 e1 => by
  cases c with
  | false => exact iteF (h2 rfl Hf1 H1 σ A (e.ext e1) _ fun Hf2 H2 e2 => q Hf2 H2 (e1.trans e2))
  | true => exact iteT (q Hf1 H1 e1)
/-- whichever way it goes -/
theorem eb_and' {c d : Bool} (h : EvB tt Γ c) (h2 : EvB tu Γ d) : EvB (tAnd tt tu) Γ (c && d) := eb_and h fun _ => h2
theorem eb_or' {c d : Bool} (h : EvB tt Γ c) (h2 : EvB tu Γ d) : EvB (tOr tt tu) Γ (c || d) := eb_or h fun _ => h2
theorem ev_andV {c d : Bool} (h : EvA ta Γ (Dt K (.bool c))) (h2 : c = true → EvA tb Γ (Dt K (.bool d))) : EvA (tAndV ta tb) Γ (Dt K (.bool (c && d))) := fun Hf H σ A e Q q => h Hf H σ A e _ fun v Hf1 H1 e1 pv => by
  cases dt_bl pv
  refine ⟨c, rfl, ?_⟩
  cases c with
  | true => exact iteT (h2 rfl Hf1 H1 σ A (e.ext e1) _ fun v2 Hf2 H2 e2 p2 => q v2 Hf2 H2 (e1.trans e2) p2)
  | false => exact iteF (q _ Hf1 H1 e1 (.bl _))
theorem ev_orV {c d : Bool} (h : EvA ta Γ (Dt K (.bool c))) (h2 : c = false → EvA tb Γ (Dt K (.bool d))) : EvA (tOrV ta tb) Γ (Dt K (.bool (c || d))) := fun Hf H σ A e Q q => h Hf H σ A e _ fun v Hf1 H1 e1 pv => by
  cases dt_bl pv
  refine ⟨c, rfl, ?_⟩
  cases c with
  | false => exact iteF (h2 rfl Hf1 H1 σ A (e.ext e1) _ fun v2 Hf2 H2 e2 p2 => q v2 Hf2 H2 (e1.trans e2) p2)
  | true => exact iteT (q _ Hf1 H1 e1 (.bl _))
theorem ev_notV {c : Bool} (h : EvA ta Γ (Dt K (.bool c))) : EvA (tNotV ta) Γ (Dt K (.bool (!c))) := fun Hf H σ A e Q q => h Hf H σ A e _ fun v Hf1 H1 e1 pv => by
  cases dt_bl pv
  exact ⟨c, rfl, q _ Hf1 H1 e1 (.bl _)⟩
theorem ev_if {c : Bool} (h : EvB tt Γ c) (h1 : c = true → EvA ta Γ z) (h2 : c = false → EvA tb Γ z) : EvA (tIf tt ta tb) Γ z := fun Hf H σ A e Q q => h Hf H σ A e _ fun Hf1 H1 e1 => by
  cases c with
  | true => exact iteT (h1 rfl Hf1 H1 σ A (e.ext e1) _ fun v2 Hf2 H2 e2 p2 => q v2 Hf2 H2 (e1.trans e2) p2)
  | false => exact iteF (h2 rfl Hf1 H1 σ A (e.ext e1) _ fun v2 Hf2 H2 e2 p2 => q v2 Hf2 H2 (e1.trans e2) p2)

/-! calls of built-ins by values -/
def RcA (r : List V → Hp → VK → Prop) (as : List As) (z : As) : Prop := ∀ Hf H vs, Same Hf H → Pa Hf vs as → ∀ Q : VK, (∀ v Hf' H', Ext Hf H Hf' H' → z.p Hf' v → Q v H') → r vs H Q
theorem ev_cb {r : List V → Hp → VK → Prop} {t : TA} {as : List As} (h : EvS t Γ as) (hr : RcA r as z) : EvA (tCB r t) Γ z := fun Hf H σ A e Q q =>
  h Hf H σ A e _ fun vs Hf1 H1 e1 pv => hr Hf1 H1 vs e1.z pv Q fun v Hf2 H2 e2 p => q v Hf2 H2 (e1.trans e2) p
theorem pa1 {H : Hp} {vs : List V} {a : As} (h : Pa H vs [a]) : ∃ v, vs = [v] ∧ a.p H v := by
  cases h with
  | cons h q => cases q; exact ⟨_, rfl, h⟩
theorem pa2 {H : Hp} {vs : List V} {a b : As} (h : Pa H vs [a, b]) : ∃ v w, vs = [v, w] ∧ a.p H v ∧ b.p H w := by
  cases h with
  | cons h q =>
    obtain ⟨w, rfl, hw⟩ := pa1 q
    exact ⟨_, w, rfl, h, hw⟩
def tyN : PyData → String
  | .none => "NoneType" | .bool _ => "bool" | .int _ => "int" | .str _ => "str" | .list _ => "list" | .tuple _ => "tuple" | .dict _ => "dict"
theorem dq_ty {H : Hp} {v : V} {d : PyData} (h : Dq K H v d) : TyX K H v (.type (tyN d)) := by
  cases h with
  | non => exact .base .non
  | bl b => exact .base (.bl b)
  | int i => exact .base (.int i)
  | str x => exact .base (.str x)
  | lst h q => exact .base (.lst h)
  | tup h q =>
    rcases h with (h | ⟨o, h⟩) | ⟨o, its, n, h, hc, _⟩
    · exact .base (.tup h)
    · exact .fTuple h
    · exact .kTuple h hc
theorem ev_isi {d : PyData} {T : String} {c : Bool} (ha : EvA ta Γ (Dt K d)) (hT : EvA tb Γ (CtA (.ty T))) (hk : kitB (tyN d) T = some c) : EvA (tCB (rIsi K) (tCons ta (tCons tb tNil))) Γ (Dt K (.bool c)) :=
  ev_cb (es_cons ha (es_cons hT es_nil)) fun Hf H vs hz pv Q q => by
    obtain ⟨v, w, rfl, hv, hw⟩ := pa2 pv
    obtain rfl : w = .ty T := hw
    exact ⟨v, .ty T, _, _, c, rfl, .ty T, dq_ty (dp_mono hz hv), kit_ty hk, q _ Hf H (.refl hz) (.bl c)⟩
theorem ev_lenL {r : List V → Hp → VK → Prop} {as : List As} (hr : r = (fun xs H Q => ∃ p ys, xs = [.ref p] ∧ (SqL K H p ys ∨ SqT K H p ys) ∧ Q (.int ys.length) H) := by rfl) (h : EvL te Γ as) : EvA (tCB r (tCons te tNil)) Γ (Dt K (.int as.length)) := fun Hf H σ A e Q q => by
  subst hr
  exact h Hf H σ A e _ fun p vs Hf1 H1 e1 hp pv => ⟨p, vs, rfl, .inl (.inl (.inl hp)), by rw [pa_len pv]; exact q _ Hf1 H1 e1 (.int _)⟩
theorem ev_lenT {r : List V → Hp → VK → Prop} {ds : List PyData} (hr : r = (fun xs H Q => ∃ p ys, xs = [.ref p] ∧ (SqL K H p ys ∨ SqT K H p ys) ∧ Q (.int ys.length) H) := by rfl) (h : EvA te Γ (Dt K (.tuple ds))) : EvA (tCB r (tCons te tNil)) Γ (Dt K (.int ds.length)) := fun Hf H σ A e Q q => by
  subst hr
  exact h Hf H σ A e _ fun v Hf1 H1 e1 pv => by
    obtain ⟨p, vs, rfl, hp, pp⟩ := tpA_ge _ _ pv
    have hl : vs.length = ds.length := by rw [pa_len pp, List.length_map]
    exact ⟨p, vs, rfl, .inr (sqt_mono e1.z hp), by rw [hl]; exact q _ Hf1 H1 e1 (.int _)⟩
theorem ev_lenS {r : List V → Hp → VK → Prop} {x : Str} (hr : r = (fun xs H Q => ∃ z, xs = [.str z] ∧ z.length ≤ sizeLine ∧ Q (.int z.length) H) := by rfl) (h : EvA te Γ (Dt K (.str x))) (hl : x.length ≤ sizeLine) : EvA (tCB r (tCons te tNil)) Γ (Dt K (.int x.length)) := fun Hf H σ A e Q q => by
  subst hr
  exact h Hf H σ A e _ fun v Hf1 H1 e1 pv => by
    cases dt_str pv
    exact ⟨x, rfl, hl, q _ Hf1 H1 e1 (.int _)⟩
/-- list(xs), of a list or a tuple of things that stay -/
theorem ew_list {r : List V → Hp → VK → Prop} {as : List As} (hr : r = (fun xs H Q => ∃ p ys, xs = [.ref p] ∧ (SqL K H p ys ∨ SqT K H p ys) ∧ ∀ l, H l = none → Q (.ref l) (upd H l (.lst ys))) := by rfl) (h : EvL te Γ as) : EvW (tCB r (tCons te tNil)) Γ (OL as) := fun Hf H σ A e Q q => by
  subst hr
  exact h Hf H σ A e _ fun p vs Hf1 H1 e1 hp pv => ⟨p, vs, rfl, .inl (.inl (.inl hp)), fun l hl =>
    q _ Hf1 (upd H1 l (.lst vs)) [l] (e1.trans (.loose e1.z hl)) (fun a ha => by
      obtain rfl : a = l := by simpa using ha
      exact e1.h.free hl) ⟨l, vs, rfl, rfl, e1.z.free hl, upd_same, pv⟩⟩

/-! slices -/
theorem eo_none : EvO tNoPart Γ none := fun Hf H σ A e Q q => q Hf H (.refl e.z)
theorem eo_some {i : Int} (h : EvA te Γ (Dt K (.int i))) : EvO (tPart te) Γ (some i) := fun Hf H σ A e Q q => h Hf H σ A e _ fun v Hf1 H1 e1 pv => by
  cases dt_int pv
  exact ⟨i, rfl, q Hf1 H1 e1⟩
theorem pa_drop {H : Hp} : ∀ {vs : List V} {as : List As} (n : Nat), Pa H vs as → Pa H (vs.drop n) (as.drop n)
  | _, _, 0, h => h
  | _, _, n + 1, .nil => by simpa using Paired.nil
  | _, _, n + 1, .cons h q => pa_drop n q
theorem pa_take {H : Hp} : ∀ {vs : List V} {as : List As} (n : Nat), Pa H vs as → Pa H (vs.take n) (as.take n)
  | _, _, 0, h => by simpa using Paired.nil
  | _, _, n + 1, .nil => by simpa using Paired.nil
  | _, _, n + 1, .cons h q => .cons h (pa_take n q)
def cutA (as : List α) (lo hi : Option Int) : List α := (as.drop (HT.sIx as.length 0 lo)).take (HT.sIx as.length as.length hi - HT.sIx as.length 0 lo)
theorem ew_sl {tl th : TO} {as : List As} {lo hi : Option Int} (h : EvL te Γ as) (h1 : EvO tl Γ lo) (h2 : EvO th Γ hi) : EvW (tSl (rSlL K) te tl th) Γ (OL (cutA as lo hi)) := fun Hf H σ A e Q q =>
  h Hf H σ A e _ fun p vs Hf1 H1 e1 hp pv => h1 Hf1 H1 σ A (e.ext e1) _ fun Hf2 H2 e2 => h2 Hf2 H2 σ A (e.ext (e1.trans e2)) _ fun Hf3 H3 e3 => ⟨p, vs, rfl, .inl (.inl ((e2.trans e3).h _ _ hp)), fun l hl => by
    have E := (e1.trans e2).trans e3
    refine q _ Hf3 (upd H3 l (.lst (cutV vs lo hi))) [l] (E.trans (.loose e3.z hl)) (fun a ha => by
      obtain rfl : a = l := by simpa using ha
      exact E.h.free hl) ⟨l, _, rfl, rfl, e3.z.free hl, upd_same, ?_⟩
    have hv := pa_len pv
    unfold cutV cutA
    rw [hv]
    exact pa_take _ (pa_drop _ (pa_mono (e2.trans e3).f pv))⟩
theorem cutA_map {α β : Type} (f : α → β) (xs : List α) (lo hi : Option Int) : cutA (xs.map f) lo hi = (cutA xs lo hi).map f := by
  unfold cutA
  rw [List.length_map, List.map_take, List.map_drop]
theorem ev_slS {tl th : TO} {x : Str} {lo hi : Option Int} (h : EvA te Γ (Dt K (.str x))) (h1 : EvO tl Γ lo) (h2 : EvO th Γ hi) (hl : x.length ≤ sizeLine) : EvA (tSl rSlS te tl th) Γ (Dt K (.str (cutS x lo hi))) := fun Hf H σ A e Q q =>
  h Hf H σ A e _ fun v Hf1 H1 e1 pv => by
    cases dt_str pv
    exact h1 Hf1 H1 σ A (e.ext e1) _ fun Hf2 H2 e2 => h2 Hf2 H2 σ A (e.ext (e1.trans e2)) _ fun Hf3 H3 e3 => ⟨x, rfl, hl, q _ Hf3 H3 ((e1.trans e2).trans e3) (.str _)⟩
/-! xs + ys -/
theorem pa_app {H : Hp} : ∀ {vs ws : List V} {as bs : List As}, Pa H vs as → Pa H ws bs → Pa H (vs ++ ws) (as ++ bs)
  | _, _, _, _, .nil, h => h
  | _, _, _, _, .cons x y, h => .cons x (pa_app y h)
theorem ew_cat {as bs : List As} (ha : EvL ta Γ as) (hb : EvL tb Γ bs) (hl : as.length + bs.length ≤ sizeLine) : EvW (tOp rCat ta tb) Γ (OL (as ++ bs)) := fun Hf H σ A e Q q =>
  ha Hf H σ A e _ fun p vs Hf1 H1 e1 hp pv => hb Hf1 H1 σ A (e.ext e1) _ fun p2 ws Hf2 H2 e2 hp2 pw => ⟨p, p2, vs, ws, rfl, rfl, e2.h _ _ hp, hp2, by rw [pa_len pv, pa_len pw]; exact hl, fun l hl => by
    have E := e1.trans e2
    exact q _ Hf2 (upd H2 l (.lst (vs ++ ws))) [l] (E.trans (.loose e2.z hl)) (fun a ha => by
      obtain rfl : a = l := by simpa using ha
      exact E.h.free hl) ⟨l, _, rfl, rfl, e2.z.free hl, upd_same, pa_app (pa_mono e2.f pv) pw⟩⟩
end

/-! ### what is walked -/
def EvI (wi : TI) (Γ : List Sl) (xs : List As) : Prop := ∀ Hf H σ A, Env Hf H σ Γ A → ∀ R : It → Hp → Prop, (∀ J Hf' H', Ext Hf H Hf' H' →
    (∀ Hf2 H2, Same Hf' Hf2 → Same Hf2 H2 → ∀ i, (i < xs.length → J.go i H2 ∧ ∀ x H3, J.yld i H2 x H3 → ∃ Hf3, Ext Hf2 H2 Hf3 H3 ∧ ∀ a, xs[i]? = some a → a.p Hf3 x) ∧ (xs.length ≤ i → J.stop i H2)) → R J H') → wi σ H R
section
variable {K : PySem.W.Frag} {Γ : List Sl} {ta tb te : TE}
theorem ei_list {xs : List As} (h : EvA te Γ (LsA xs)) : EvI (iList K te) Γ xs := fun Hf H σ A e R q =>
  h Hf H σ A e _ fun v Hf1 H1 e1 ⟨p, vs, ev, hp, pv⟩ => by
    subst ev
    have hl := pa_len pv
    refine ⟨p, rfl, ⟨vs, .inl (.inl (e1.z _ _ hp))⟩, q _ Hf1 H1 e1 fun Hf2 H2 s1 s2 i => ⟨fun hi => ?_, fun hi => ?_⟩⟩
    · have hs : SqL K H2 p vs := .inl (.inl (s2 _ _ (s1 _ _ hp)))
      have hv : i < vs.length := by omega
      refine ⟨⟨vs, vs[i], hs, List.getElem?_eq_getElem hv⟩, fun x H3 hy => ?_⟩
      obtain ⟨rfl, hx⟩ := hy
      refine ⟨Hf2, .refl s2, fun a ha => ?_⟩
      obtain ⟨w, hw, pw⟩ := pa_get pv ha
      have := hx vs hs
      rw [hw] at this
      obtain rfl := Option.some.inj this
      exact a.mono s1 pw
    · exact ⟨vs, .inl (.inl (s2 _ _ (s1 _ _ hp))), by omega⟩
theorem ei_listD {ds : List PyData} (h : EvA te Γ (Dt K (.list ds))) : EvI (iList K te) Γ (ds.map (Dt K)) := ei_list (h.le lsA_ge)
theorem ei_tup {ds : List PyData} (h : EvA te Γ (Dt K (.tuple ds))) : EvI (iTup K te) Γ (ds.map (Dt K)) := fun Hf H σ A e R q =>
  h Hf H σ A e _ fun v Hf1 H1 e1 pv => by
    obtain ⟨p, vs, rfl, hp, pv⟩ := tpA_ge _ _ pv
    have hl := pa_len pv
    refine ⟨p, rfl, ⟨vs, sqt_mono e1.z hp⟩, q _ Hf1 H1 e1 fun Hf2 H2 s1 s2 i => ⟨fun hi => ?_, fun hi => ?_⟩⟩
    · have hs : SqT K H2 p vs := sqt_mono (s1.trans s2) hp
      have hv : i < vs.length := by omega
      refine ⟨⟨vs, vs[i], hs, List.getElem?_eq_getElem hv⟩, fun x H3 hy => ?_⟩
      obtain ⟨rfl, hx⟩ := hy
      refine ⟨Hf2, .refl s2, fun a ha => ?_⟩
      obtain ⟨w, hw, pw⟩ := pa_get pv ha
      have := hx vs hs
      rw [hw] at this
      obtain rfl := Option.some.inj this
      exact a.mono s1 pw
    · exact ⟨vs, sqt_mono (s1.trans s2) hp, by omega⟩
/-- the signs of a text -/
def chs (K : PySem.W.Frag) (x : Str) : List As := x.cps.toList.map fun c => Dt K (.str ⟨#[c]⟩)
theorem ei_str {x : Str} (h : EvA te Γ (Dt K (.str x))) : EvI (iStr te) Γ (chs K x) := fun Hf H σ A e R q =>
  h Hf H σ A e _ fun v Hf1 H1 e1 pv => by
    cases dt_str pv
    have hl : (chs K x).length = x.cps.size := by unfold chs; rw [List.length_map, Array.length_toList]
    refine ⟨x, rfl, q _ Hf1 H1 e1 fun Hf2 H2 s1 s2 i => ⟨fun hi => ⟨by show i < x.cps.size; omega, fun y H3 hy => ?_⟩, fun hi => by show x.cps.size ≤ i; omega⟩⟩
    obtain ⟨rfl, c, hc, rfl⟩ := hy
    refine ⟨Hf2, .refl s2, fun a ha => ?_⟩
    unfold chs at ha
    rw [List.getElem?_map, Array.getElem?_toList, hc] at ha
    obtain rfl := Option.some.inj ha
    exact .str _
theorem ei_rng1 {t : TA} {n : Int} (h : EvS t Γ [Dt K (.int n)]) (hb : -(2 ^ 62) ≤ n ∧ n < 2 ^ 62) : EvI (iRng1 t) Γ ((List.range n.toNat).map fun i => Dt K (.int ((i : Nat) : Int))) := fun Hf H σ A e R q =>
  h Hf H σ A e _ fun vs Hf1 H1 e1 pv => by
    obtain ⟨v, rfl, hv⟩ := pa1 pv
    cases dt_int hv
    refine ⟨n, rfl, hb.1, hb.2, q _ Hf1 H1 e1 fun Hf2 H2 s1 s2 i => ⟨fun hi => ?_, fun hi => ?_⟩⟩
    · rw [List.length_map, List.length_range] at hi
      refine ⟨hi, fun y H3 hy => ?_⟩
      obtain ⟨rfl, rfl⟩ := hy
      refine ⟨Hf2, .refl s2, fun a ha => ?_⟩
      rw [List.getElem?_map, List.getElem?_range hi] at ha
      obtain rfl := Option.some.inj ha
      rw [Int.zero_add]
      exact .int _
    · rw [List.length_map, List.length_range] at hi
      exact hi
theorem ei_enum {t : TA} {xs : List As} (h : EvS t Γ [LsA xs]) : EvI (iEnum K t) Γ ((List.range xs.length).map fun i => TpA K [Dt K (.int ((i : Nat) : Int)), xs.getD i (Dt K .none)]) := fun Hf H σ A e R q =>
  h Hf H σ A e _ fun vs Hf1 H1 e1 pv => by
    obtain ⟨v, rfl, p, ws, rfl, hp, pw⟩ := pa1 pv
    have hl := pa_len pw
    refine ⟨p, ws, rfl, .inl (.inl (e1.z _ _ hp)), q _ Hf1 H1 e1 fun Hf2 H2 s1 s2 i => ⟨fun hi => ?_, fun hi => ?_⟩⟩
    · rw [List.length_map, List.length_range] at hi
      have hs : SqL K H2 p ws := .inl (.inl (s2 _ _ (s1 _ _ hp)))
      have hv : i < ws.length := by omega
      refine ⟨⟨ws, ws[i], hs, List.getElem?_eq_getElem hv⟩, fun y H3 hy => ?_⟩
      obtain ⟨T, x, rfl, hT, rfl, hx⟩ := hy
      refine ⟨_, .new s2 hT, fun a ha => ?_⟩
      rw [List.getElem?_map, List.getElem?_range hi] at ha
      obtain rfl := Option.some.inj ha
      refine ⟨T, _, rfl, .inl (.inl upd_same), .cons (.int _) (.cons ?_ .nil)⟩
      have hxs : xs[i]? = some (xs.getD i (Dt K .none)) := by rw [List.getD_eq_getElem?_getD, List.getElem?_eq_getElem hi]; rfl
      obtain ⟨w, hw, pw'⟩ := pa_get pw hxs
      have := hx ws hs
      rw [hw] at this
      obtain rfl := Option.some.inj this
      exact (xs.getD i (Dt K .none)).mono (s1.trans (Ext.new (o := .tup _) s2 hT).f) pw'
    · rw [List.length_map, List.length_range] at hi
      exact ⟨ws, .inl (.inl (s2 _ _ (s1 _ _ hp))), by omega⟩
end

/-! ### targets -/
def EvG (g : TG) (a : As) (Γ Γ' : List Sl) : Prop := ∀ Hf H σ A, Env Hf H σ Γ A → ∀ v, a.p Hf v → ∀ Q : L2.St → Hp → Prop, (∀ σ' A', Env Hf H σ' Γ' A' → (∀ i x, x ∈ A' i → x ∈ A i) → Q σ' H) → g v σ H Q
def EvGs (g : TGs) (as : List As) (Γ Γ' : List Sl) : Prop := ∀ Hf H σ A, Env Hf H σ Γ A → ∀ vs, Pa Hf vs as → ∀ Q : L2.St → Hp → Prop, (∀ σ' A', Env Hf H σ' Γ' A' → (∀ i x, x ∈ A' i → x ∈ A i) → Q σ' H) → g vs σ H Q
section
variable {K : PySem.W.Frag} {Γ Γ' Γ1 : List Sl} {a : As}
theorem Env.putAs {Hf H : Hp} {σ : L2.St} {A : Nat → List Addr} (h : Env Hf H σ Γ A) (i : Nat) {v : V} (p : a.p Hf v) : ∃ A', Env Hf H (σ.set i (some v)) (Γ.set i (.as a)) A' ∧ ∀ j x, x ∈ A' j → x ∈ A j := by
  by_cases hi : i < Γ.length
  · refine ⟨_, h.put i (some v) (.as a) [] ⟨rfl, v, rfl, p⟩ (fun _ _ _ z => nomatch z) hi, fun j x hx => ?_⟩
    have hx' : x ∈ (if j = i then [] else A j) := hx
    by_cases c : j = i
    · rw [if_pos c] at hx'; cases hx'
    · rw [if_neg c] at hx'; exact hx'
  · have hl := h.len
    rw [List.set_eq_of_length_le (by omega), List.set_eq_of_length_le (by omega)]
    exact ⟨A, h, fun _ _ x => x⟩
theorem Env.putUn {Hf H : Hp} {σ : L2.St} {A : Nat → List Addr} (h : Env Hf H σ Γ A) (i : Nat) (o : Option V) : ∃ A', Env Hf H (σ.set i o) (Γ.set i .un) A' ∧ ∀ j x, x ∈ A' j → x ∈ A j := by
  by_cases hi : i < Γ.length
  · refine ⟨_, h.put i o .un [] rfl (fun _ _ _ z => nomatch z) hi, fun j x hx => ?_⟩
    have hx' : x ∈ (if j = i then [] else A j) := hx
    by_cases c : j = i
    · rw [if_pos c] at hx'; cases hx'
    · rw [if_neg c] at hx'; exact hx'
  · have hl := h.len
    rw [List.set_eq_of_length_le (by omega), List.set_eq_of_length_le (by omega)]
    exact ⟨A, h, fun _ _ x => x⟩
theorem eg_name {i : Nat} : EvG (gName i) a Γ (Γ.set i (.as a)) := fun Hf H σ A e v p Q q => let ⟨A', h, s⟩ := e.putAs i p; q _ A' h s
theorem eg_nil : EvGs gNil [] Γ Γ := fun Hf H σ A e vs p Q q => by cases p; exact ⟨rfl, q σ A e fun _ _ x => x⟩
theorem eg_cons {t : TG} {u : TGs} {as : List As} (h : EvG t a Γ Γ1) (hr : EvGs u as Γ1 Γ') : EvGs (gCons t u) (a :: as) Γ Γ' := fun Hf H σ A e vs p Q q => by
  cases p with
  | cons p ps => exact ⟨_, _, rfl, h Hf H σ A e _ p _ fun σ1 A1 e1 s1 => hr Hf H σ1 A1 e1 _ ps _ fun σ2 A2 e2 s2 => q σ2 A2 e2 fun i x hx => s1 i x (s2 i x hx)⟩
theorem eg_tupA {n : Nat} {t : TGs} {as : List As} (h : EvGs t as Γ Γ') (hn : as.length = n) : EvG (gTup K n t) (TpA K as) Γ Γ' := fun Hf H σ A e v p Q q => by
  obtain ⟨b, vs, rfl, hp, pv⟩ := p
  exact ⟨b, vs, rfl, sqt_mono e.z hp, by rw [pa_len pv]; exact hn, h Hf H σ A e vs pv Q q⟩
theorem EvG.le {g : TG} {b : As} (h : EvG g a Γ Γ') (l : b.le a) : EvG g b Γ Γ' := fun Hf H σ A e v p Q q => h Hf H σ A e v (l _ _ p) Q q
theorem eg_tup {n : Nat} {t : TGs} {ds : List PyData} (h : EvGs t (ds.map (Dt K)) Γ Γ') (hn : ds.length = n) : EvG (gTup K n t) (Dt K (.tuple ds)) Γ Γ' := (eg_tupA h (by rw [List.length_map]; exact hn)).le tpA_ge
/-- a comprehension's own slots -/
def wipeG (Γ : List Sl) : List Nat → List Sl
  | [] => Γ
  | v :: vs => (wipeG Γ vs).set v .un
theorem Env.wipe {Hf H : Hp} {σ : L2.St} {A : Nat → List Addr} (h : Env Hf H σ Γ A) : ∀ vs : List Nat, ∃ A', Env Hf H (L2.wipe σ vs) (wipeG Γ vs) A' ∧ ∀ j x, x ∈ A' j → x ∈ A j
  | [] => ⟨A, h, fun _ _ x => x⟩
  | v :: vs => by
    obtain ⟨A1, h1, s1⟩ := h.wipe vs
    obtain ⟨A2, h2, s2⟩ := h1.putUn v none
    exact ⟨A2, h2, fun j x hx => s1 j x (s2 j x hx)⟩
/-- a target keeps to the comprehension's own slots -/
def GW (g : TG) (vs : List Nat) : Prop := ∀ v σ0 σ H Q, L2.wipe σ vs = L2.wipe σ0 vs → g v σ H Q → g v σ H fun σ2 H2 => L2.wipe σ2 vs = L2.wipe σ0 vs ∧ Q σ2 H2
def GWs (g : TGs) (vs : List Nat) : Prop := ∀ ws σ0 σ H Q, L2.wipe σ vs = L2.wipe σ0 vs → g ws σ H Q → g ws σ H fun σ2 H2 => L2.wipe σ2 vs = L2.wipe σ0 vs ∧ Q σ2 H2
theorem wipe_get (σ : L2.St) : ∀ (vs : List Nat) (i : Nat), (L2.wipe σ vs)[i]? = if i ∈ vs ∧ i < σ.length then some none else σ[i]?
  | [], i => by simp [L2.wipe]
  | v :: vs, i => by
    show ((L2.wipe σ vs).set v none)[i]? = _
    rw [List.getElem?_set, wipe_get σ vs i, wipe_length]
    by_cases c : v = i
    · subst c
      by_cases d : v < σ.length
      · simp [d]
      · simp [d]
    · have : i ∈ v :: vs ↔ i ∈ vs := by simp [Ne.symm c]
      simp only [if_neg c, this]
theorem wipe_set {σ : L2.St} {vs : List Nat} {i : Nat} {o : Option V} (h : i ∈ vs) : L2.wipe (σ.set i o) vs = L2.wipe σ vs := by
  apply List.ext_getElem?
  intro j
  rw [wipe_get, wipe_get, List.length_set]
  by_cases c : i = j
  · subst c
    by_cases d : i < σ.length
    · simp [h, d]
    · rw [List.set_eq_of_length_le (by omega)]
  · rw [List.getElem?_set_ne c]
theorem gw_name {i : Nat} {vs : List Nat} (h : i ∈ vs) : GW (gName i) vs := fun v σ0 σ H Q e q => ⟨(wipe_set h).trans e, q⟩
theorem gw_nil {vs : List Nat} : GWs gNil vs := fun ws σ0 σ H Q e q => ⟨q.1, e, q.2⟩
theorem gw_cons {t : TG} {u : TGs} {vs : List Nat} (hm : ∀ v σ H (Q Q' : L2.St → Hp → Prop), (∀ s h, Q s h → Q' s h) → t v σ H Q → t v σ H Q') (h : GW t vs) (hr : GWs u vs) : GWs (gCons t u) vs := fun ws σ0 σ H Q e q => by
  obtain ⟨v, r, rfl, q⟩ := q
  exact ⟨v, r, rfl, hm _ _ _ _ _ (fun s h' p => hr r σ0 s h' Q p.1 p.2) (h v σ0 σ H _ e q)⟩
theorem gw_tup {n : Nat} {t : TGs} {vs : List Nat} (h : GWs t vs) : GW (gTup K n t) vs := fun v σ0 σ H Q e q => by
  obtain ⟨a, xs, rfl, h1, h2, q⟩ := q
  exact ⟨a, xs, rfl, h1, h2, h xs σ0 σ H Q e q⟩
theorem gm_name {i : Nat} : ∀ v σ H (Q Q' : L2.St → Hp → Prop), (∀ s h, Q s h → Q' s h) → gName i v σ H Q → gName i v σ H Q' := fun v σ H Q Q' m q => m _ _ q
theorem gms_nil : ∀ v σ H (Q Q' : L2.St → Hp → Prop), (∀ s h, Q s h → Q' s h) → gNil v σ H Q → gNil v σ H Q' := fun v σ H Q Q' m q => ⟨q.1, m _ _ q.2⟩
theorem gms_cons {t : TG} {u : TGs} (hm : ∀ v σ H (Q Q' : L2.St → Hp → Prop), (∀ s h, Q s h → Q' s h) → t v σ H Q → t v σ H Q') (hr : ∀ v σ H (Q Q' : L2.St → Hp → Prop), (∀ s h, Q s h → Q' s h) → u v σ H Q → u v σ H Q') :
    ∀ v σ H (Q Q' : L2.St → Hp → Prop), (∀ s h, Q s h → Q' s h) → gCons t u v σ H Q → gCons t u v σ H Q' := fun v σ H Q Q' m q => by
  obtain ⟨x, r, rfl, q⟩ := q
  exact ⟨x, r, rfl, hm _ _ _ _ _ (fun s h' p => hr _ _ _ _ _ m p) q⟩
theorem gm_tup {n : Nat} {t : TGs} (hr : ∀ v σ H (Q Q' : L2.St → Hp → Prop), (∀ s h, Q s h → Q' s h) → t v σ H Q → t v σ H Q') :
    ∀ v σ H (Q Q' : L2.St → Hp → Prop), (∀ s h, Q s h → Q' s h) → gTup K n t v σ H Q → gTup K n t v σ H Q' := fun v σ H Q Q' m q => by
  obtain ⟨a, xs, rfl, h1, h2, q⟩ := q
  exact ⟨a, xs, rfl, h1, h2, hr _ _ _ _ _ m q⟩
end

/-! ### comprehensions: zs tells of each turn what it gives (none: left out) -/
section
variable {K : PySem.W.Frag} {Γ : List Sl}
theorem ew_lc {wi : TI} {g : TG} {tt : TT} {te : TE} {vs : List Nat} {xs : List As} (zs : List (Option As)) (hw : GW g vs) (hi : EvI wi Γ xs) (hl : zs.length = xs.length) (hz : xs.length ≤ 10000000)
    (h : ∀ (i : Nat) (a : As), xs[i]? = some a → ∃ Γ1, EvG g a (wipeG Γ vs) Γ1 ∧ ∀ z, zs[i]? = some z → match z with | none => EvB tt Γ1 false | some y => EvB tt Γ1 true ∧ EvA te Γ1 y) :
    EvW (tLc wi g tt te vs) Γ (OL (zs.filterMap id)) := fun Hf H σ A e Q q =>
  hi Hf H σ A e _ fun J Hf1 H1 e1 hJ D hD => by
    have hD1 : Hf1 D = none := e1.z.free hD
    have hDH : H D = none := e1.h.free hD
    refine ⟨fun i m H' => i + m = xs.length ∧ ∃ Hf' acc, Ext Hf1 H1 Hf' H' ∧ Hf' D = none ∧ H' D = some (.lst acc) ∧ Pa Hf' acc ((zs.take i).filterMap id), ⟨xs.length, ?_⟩, fun i m H' hW => ?_⟩
    · exact ⟨by omega, Hf1, [], .loose e1.z hD, hD1, upd_same, .nil⟩
    · obtain ⟨him, Hf', acc, E, hfD, hHD, pacc⟩ := hW
      have hJi := hJ Hf' H' E.f E.z i
      by_cases c : i < xs.length
      · right
        refine ⟨(hJi.1 c).1, fun H'' => ∃ Hf' acc, Ext Hf1 H1 Hf' H'' ∧ Hf' D = none ∧ H'' D = some (.lst acc) ∧ Pa Hf' acc ((zs.take (i + 1)).filterMap id), fun H'' hN => ⟨m - 1, by omega, by omega, hN⟩, fun x H2 hy => ?_⟩
        obtain ⟨Hf2, E2, hx⟩ := (hJi.1 c).2 x H2 hy
        have ha := List.getElem?_eq_getElem c
        have px := hx _ ha
        obtain ⟨Γ1, hg, ht⟩ := h i _ ha
        have hzi : zs[i]? = some zs[i] := List.getElem?_eq_getElem (by omega)
        have ht := ht _ hzi
        have e2 := e.ext ((e1.trans E).trans E2)
        obtain ⟨A1, ew, s1⟩ := e2.wipe vs
        have hDne : H' D ≠ none := by rw [hHD]; exact fun z => nomatch z
        have hfD2 := E2.n D hDne hfD
        have hHD2 := E2.h _ _ hHD
        have hww : L2.wipe (L2.wipe σ vs) vs = L2.wipe σ vs := by
          apply List.ext_getElem?
          intro j
          rw [wipe_get, wipe_length, wipe_get]
          by_cases d : j ∈ vs ∧ j < σ.length
          · rw [if_pos d, if_pos d]
          · rw [if_neg d, if_neg d]
        refine hw x σ _ H2 _ hww (hg Hf2 H2 _ A1 ew x px _ fun σ2 A2 e3 s2 => ?_)
        · have tk : (zs.take (i + 1)).filterMap id = (zs.take i).filterMap id ++ (match zs[i] with | none => [] | some y => [y]) := by
            rw [List.take_add_one, hzi, List.filterMap_append]
            cases zs[i] <;> rfl
          cases hzv : zs[i] with
          | none =>
            rw [hzv] at ht tk
            refine ht Hf2 H2 σ2 A2 e3 _ fun Hf3 H3 e4 => iteF ⟨Hf3, acc, (E.trans E2).trans e4, e4.n D (by rw [hHD2]; exact fun z => nomatch z) hfD2, e4.h _ _ hHD2, ?_⟩
            rw [tk, List.append_nil]
            exact pa_mono (E2.f.trans e4.f) pacc
          | some y =>
            rw [hzv] at ht tk
            refine ht.1 Hf2 H2 σ2 A2 e3 _ fun Hf3 H3 e4 => iteT (ht.2 Hf3 H3 σ2 A2 (e3.ext e4) _ fun v Hf4 H4 e5 pv => ?_)
            have E5 := E2.trans (e4.trans e5)
            have hfD4 := E5.n D hDne hfD
            have hHD4 := E5.h _ _ hHD
            have hal : acc.length ≤ i := by
              rw [pa_len pacc]
              exact Nat.le_trans (List.length_filterMap_le _ _) (by rw [List.length_take]; omega)
            refine ⟨acc, hHD4, Nat.lt_of_le_of_lt hal (by rw [sizeLine_eq]; omega), Hf4, acc ++ [v], ⟨(E.trans E5).f, fun a o ha => ?_, fun a o ha => ?_, (E.trans E5).n⟩, hfD4, upd_same, ?_⟩
            · rw [upd_ne (ne_of_none ha hD)]
              exact (E.trans E5).h a o ha
            · rw [upd_ne (ne_of_none ha hfD4)]
              exact e5.z a o ha
            · rw [tk]
              exact pa_app (pa_mono E5.f pacc) (.cons pv .nil)
      · left
        refine ⟨hJi.2 (by omega), ?_⟩
        rw [List.take_of_length_le (by omega)] at pacc
        exact q _ Hf' H' [D] (e1.trans E) (fun a ha => by
          obtain rfl : a = D := by simpa using ha
          exact hDH) ⟨D, acc, rfl, rfl, hfD, hHD, pacc⟩
/-- no test: each turn gives -/
theorem ew_lcA {wi : TI} {g : TG} {te : TE} {vs : List Nat} {xs : List As} (ys : List As) (hw : GW g vs) (hi : EvI wi Γ xs) (hl : ys.length = xs.length) (hz : xs.length ≤ 10000000)
    (h : ∀ (i : Nat) (a : As), xs[i]? = some a → ∃ Γ1, EvG g a (wipeG Γ vs) Γ1 ∧ ∀ y, ys[i]? = some y → EvA te Γ1 y) : EvW (tLc wi g tYes te vs) Γ (OL ys) := by
  have k := ew_lc (tt := tYes) (te := te) (ys.map some) hw hi (by rw [List.length_map]; exact hl) hz (fun i a ha => by
    obtain ⟨Γ1, hg, hy⟩ := h i a ha
    refine ⟨Γ1, hg, fun z hz' => ?_⟩
    rw [List.getElem?_map] at hz'
    cases hc : ys[i]? with
    | none => rw [hc] at hz'; cases hz'
    | some y =>
      rw [hc] at hz'
      obtain rfl := Option.some.inj hz'
      exact ⟨eb_yes, hy y hc⟩)
  rwa [show (ys.map some).filterMap id = ys by simp] at k
end
end DL

namespace DL
open PySem PySem.Spec L2
open PyProof.Rows hiding St

/-! ### statements -/
/-- what is wanted behind a statement -/
structure Kt where
  nx : List Sl → Prop
  rt : As → Prop
  ro : Ow → Prop
  bk : List Sl → Prop
  ct : List Sl → Prop
structure KOk (c : Cb) (k : Kt) (D : Ends) : Prop where
  nx : ∀ Γ, k.nx Γ → ∀ σ H Hf, StOk c Hf H σ Γ → D.nx σ H
  rt : ∀ a, k.rt a → ∀ v H Hf, Bok c Hf H → a.p Hf v → D.rt v H
  ro : ∀ o, k.ro o → ∀ v H Hf B, Bok c Hf H → (∀ a ∈ B, c.h a = none ∨ a ∈ c.W) → o.p Hf H v B → D.rt v H
  bk : ∀ Γ, k.bk Γ → ∀ σ H Hf, StOk c Hf H σ Γ → D.bk σ H
  ct : ∀ Γ, k.ct Γ → ∀ σ H Hf, StOk c Hf H σ Γ → D.ct σ H
def Rn (c : Cb) (ts : TS) (Γ : List Sl) (k : Kt) : Prop := ∀ D σ H Hf, StOk c Hf H σ Γ → KOk c k D → ts D σ H

section
variable {c : Cb} {K : PySem.W.Frag} {Γ Γ' : List Sl} {k : Kt} {te : TE} {tt : TT} {t u : TS} {a : As} {w : Ow} {g : TG}
theorem StOk.env {Hf H : Hp} {σ : L2.St} (s : StOk c Hf H σ Γ) : ∃ A, Env Hf H σ Γ A ∧ ∀ i, ∀ a ∈ A i, c.h a = none ∨ a ∈ c.W := s.e
theorem rn_weak (h : Rn c t Γ' k) (g : GLe Γ Γ') : Rn c t Γ k := fun D σ H Hf s q => h D σ H Hf (s.weak g) q
theorem rn_seq (h : Rn c t Γ { k with nx := fun Γ' => Rn c u Γ' k }) : Rn c (tSeq t u) Γ k := fun D σ H Hf s q =>
  h _ σ H Hf s ⟨fun Γ' r σ' H' Hf' s' => r D σ' H' Hf' s' q, q.rt, q.ro, q.bk, q.ct⟩
theorem rn_next (h : k.nx Γ) : Rn c tNext Γ k := fun D σ H Hf s q => q.nx Γ h σ H Hf s
theorem rn_asg {i : Nat} (h : EvA te Γ a) (n : k.nx (Γ.set i (.as a))) : Rn c (tAsg te (gName i)) Γ k := fun D σ H Hf s q => by
  obtain ⟨A, e, _⟩ := s.env
  exact h Hf H σ A e _ fun v Hf1 H1 e1 pv => q.nx _ n _ _ Hf1 ((s.ext e1).putAs i pv)
/-- any target of names -/
theorem rn_asgG (h : EvA te Γ a) (hg : EvG g a Γ Γ') (n : k.nx Γ') : Rn c (tAsg te g) Γ k := fun D σ H Hf s q => by
  obtain ⟨A, e, ha⟩ := s.env
  exact h Hf H σ A e _ fun v Hf1 H1 e1 pv => hg Hf1 H1 σ A (e.ext e1) v pv _ fun σ' A' e' sub => q.nx _ n _ _ Hf1 ⟨s.b.ext e1, A', e', fun i x hx => ha i x (sub i x hx)⟩
theorem owned_live {Hf H : Hp} {σ : L2.St} {A : Nat → List Addr} (e : Env Hf H σ Γ A) {j : Nat} {x : Addr} (hx : x ∈ A j) : H x ≠ none ∧ Hf x = none := by
  by_cases hj : j < Γ.length
  · have hk := e.ok j _ (List.getElem?_eq_getElem hj)
    cases hs : Γ[j] with
    | un => rw [hs] at hk; rw [show A j = [] from hk] at hx; cases hx
    | as a => rw [hs] at hk; rw [show A j = [] from hk.1] at hx; cases hx
    | ow w =>
      rw [hs] at hk
      obtain ⟨v, _, p⟩ := hk
      exact ⟨(w.fr p x hx).2, (w.fr p x hx).1⟩
  · rw [e.out j (by omega)] at hx; cases hx
theorem st_putOw {Hf H : Hp} {σ : L2.St} {A : Nat → List Addr} {B : List Addr} {i : Nat} {v : V} (b : Bok c Hf H) (e : Env Hf H σ Γ A) (ha : ∀ i, ∀ a ∈ A i, c.h a = none ∨ a ∈ c.W) (p : w.p Hf H v B) (hB : ∀ a ∈ B, c.h a = none ∨ a ∈ c.W)
    (hd : ∀ j, j ≠ i → ∀ a ∈ B, a ∉ A j) : StOk c Hf H (σ.set i (some v)) (Γ.set i (.ow w)) := by
  by_cases hi : i < Γ.length
  · refine ⟨b, atN A i B, e.put i (some v) (.ow w) B ⟨v, rfl, p⟩ hd hi, fun j x hx => ?_⟩
    have hx' : x ∈ (if j = i then B else A j) := hx
    by_cases c : j = i
    · rw [if_pos c] at hx'; exact hB x hx'
    · rw [if_neg c] at hx'; exact ha j x hx'
  · have hl := e.len
    rw [List.set_eq_of_length_le (by omega), List.set_eq_of_length_le (by omega)]
    exact ⟨b, A, e, ha⟩
theorem fresh_c {Hf H : Hp} {x : Addr} (b : Bok c Hf H) (h : H x = none) : c.h x = none := by
  cases y : c.h x with
  | none => rfl
  | some o => exact absurd h (b.k x (by rw [y]; exact fun z => nomatch z))
/-- a new thing of one's own -/
theorem rn_asgW {i : Nat} (h : EvW te Γ w) (n : k.nx (Γ.set i (.ow w))) : Rn c (tAsg te (gName i)) Γ k := fun D σ H Hf s q => by
  obtain ⟨A, e, ha⟩ := s.env
  exact h Hf H σ A e _ fun v Hf1 H1 B e1 hB pv => q.nx _ n _ _ Hf1 (st_putOw (s.b.ext e1) (e.ext e1) ha pv (fun x hx => .inl (fresh_c s.b (hB x hx))) fun j _ x hx hj => (owned_live e hj).1 (hB x hx))
theorem rn_drop (h : EvA te Γ a) (n : k.nx Γ) : Rn c (tDrop te) Γ k := fun D σ H Hf s q => by
  obtain ⟨A, e, _⟩ := s.env
  exact h Hf H σ A e _ fun v Hf1 H1 e1 pv => q.nx _ n _ _ Hf1 (s.ext e1)
theorem rn_ret (h : EvA te Γ a) (n : k.rt a) : Rn c (tRet te) Γ k := fun D σ H Hf s q => by
  obtain ⟨A, e, _⟩ := s.env
  exact h Hf H σ A e _ fun v Hf1 H1 e1 pv => q.rt a n v _ Hf1 (s.b.ext e1) pv
theorem rn_retN (n : k.rt (Dt K .none)) : Rn c tRetN Γ k := fun D σ H Hf s q => q.rt _ n _ H Hf s.b .non
theorem rn_retW (h : EvW te Γ w) (n : k.ro w) : Rn c (tRet te) Γ k := fun D σ H Hf s q => by
  obtain ⟨A, e, _⟩ := s.env
  exact h Hf H σ A e _ fun v Hf1 H1 B e1 hB pv => q.ro w n v _ Hf1 B (s.b.ext e1) (fun x hx => .inl (fresh_c s.b (hB x hx))) pv
theorem rn_retO {i : Nat} (h : Γ[i]? = some (.ow w)) (n : k.ro w) : Rn c (tRet (tVar i)) Γ k := fun D σ H Hf s q => by
  obtain ⟨A, e, ha⟩ := s.env
  obtain ⟨v, ev, p⟩ := e.ow h
  exact ⟨v, ev, q.ro w n v H Hf (A i) s.b (ha i) p⟩
theorem rn_if {b : Bool} (h : EvB tt Γ b) (h1 : b = true → Rn c t Γ k) (h2 : b = false → Rn c u Γ k) : Rn c (tIfS tt t u) Γ k := fun D σ H Hf s q => by
  obtain ⟨A, e, _⟩ := s.env
  refine h Hf H σ A e _ fun Hf1 H1 e1 => ?_
  cases b with
  | true => exact iteT (h1 rfl D σ H1 Hf1 (s.ext e1) q)
  | false => exact iteF (h2 rfl D σ H1 Hf1 (s.ext e1) q)
theorem rn_break (h : k.bk Γ) : Rn c tBreak Γ k := fun D σ H Hf s q => q.bk Γ h σ H Hf s
theorem rn_cont (h : k.ct Γ) : Rn c tCont Γ k := fun D σ H Hf s q => q.ct Γ h σ H Hf s
theorem rn_par {i j : Nat} {ta : TA} {b : As} (h : EvS ta Γ [a, b]) (n : k.nx ((Γ.set i (.as a)).set j (.as b))) : Rn c (tPar i j ta) Γ k := fun D σ H Hf s q => by
  obtain ⟨A, e, _⟩ := s.env
  refine h Hf H σ A e _ fun vs Hf1 H1 e1 pv => ?_
  obtain ⟨v, u, rfl, p1, p2⟩ := pa2 pv
  exact ⟨v, u, rfl, q.nx _ n _ _ Hf1 (((s.ext e1).putAs i p1).putAs j p2)⟩

/-- a thing of one's own, in slot i, turns: w to w2, at the addresses it has -/
def Turns (w w2 : Ow) (f : Hp → Hp → V → List Addr → Hp → Prop) : Prop := ∀ Hf H v A, w.p Hf H v A → ∀ H', f Hf H v A H' → w2.p Hf H' v A
theorem st_turn {Hf H H' : Hp} {σ : L2.St} {A : Nat → List Addr} {i : Nat} {v : V} {w2 : Ow} (b : Bok c Hf H) (e : Env Hf H σ Γ A) (ha : ∀ i, ∀ a ∈ A i, c.h a = none ∨ a ∈ c.W) (hi : Γ[i]? = some (.ow w)) (hv : σ[i]? = some (some v))
    (hk : ∀ a, a ∉ A i → H' a = H a) (hn : ∀ a ∈ A i, H' a ≠ none) (p : w2.p Hf H' v (A i)) : StOk c Hf H' σ (Γ.set i (.ow w2)) := by
  have hil : i < Γ.length := (List.getElem?_eq_some_iff.mp hi).1
  have hfr : ∀ a ∈ A i, Hf a = none := fun a h => (owned_live e h).2
  have z' : Same Hf H' := fun a o h => by
    have : a ∉ A i := fun hm => by rw [hfr a hm] at h; cases h
    rw [hk a this]; exact e.z a o h
  refine ⟨⟨b.f, fun a o hw h => ?_, b.n, fun a h => ?_, z'⟩, A, ⟨z', by rw [e.len, List.length_set], fun j s hs => ?_, e.dj, fun j hj => e.out j (by rw [List.length_set] at hj; exact hj)⟩, ha⟩
  · have : a ∉ A i := fun hm => by
      rcases ha i a hm with x | x
      · rw [x] at h; cases h
      · exact hw x
    rw [hk a this]; exact b.h a o hw h
  · by_cases hm : a ∈ A i
    · exact hn a hm
    · rw [hk a hm]; exact b.k a h
  · by_cases cj : i = j
    · subst cj
      rw [List.getElem?_set_self hil] at hs
      obtain rfl := Option.some.inj hs
      refine ⟨v, ?_, p⟩
      rw [List.getD_eq_getElem?_getD, hv]; rfl
    · rw [List.getElem?_set_ne cj] at hs
      have k := e.ok j s hs
      cases s with
      | un => exact k
      | as a => exact k
      | ow w3 =>
        obtain ⟨v3, ev3, p3⟩ := k
        have fr3 := w3.fr p3
        exact ⟨v3, ev3, w3.mono p3 (.refl _) (fun a ha => (fr3 a ha).1) fun a h3 => hk a fun hm => e.dj i j cj a hm h3⟩
/-- a thing of one's own stays from now on as it is -/
theorem st_fixL {Hf H : Hp} {σ : L2.St} {i : Nat} {as : List As} (s : StOk c Hf H σ Γ) (h : Γ[i]? = some (.ow (OL as))) (hW : c.W = []) : ∃ Hf', StOk c Hf' H σ (Γ.set i (.as (LsA as))) := by
  obtain ⟨A, e, ha⟩ := s.e
  have hil : i < Γ.length := (List.getElem?_eq_some_iff.mp h).1
  obtain ⟨v, ev, p, vs, rfl, eA, hf, hp, pv⟩ := e.ow h
  obtain ⟨f1, f2⟩ := fix1 e.z hf hp
  have hcp : c.h p = none := (ha i p (by rw [eA]; simp)).elim id fun z => by rw [hW] at z; cases z
  refine ⟨upd Hf p (.lst vs), ⟨s.b.f.trans f1, s.b.h, fun a h1 h2 => ?_, s.b.k, f2⟩, atN A i [], ⟨f2, by rw [e.len, List.length_set], fun j t ht => ?_, fun j k n a hj hk => ?_, fun j hj => ?_⟩, fun j a hj => ?_⟩
  · have hne : a ≠ p := fun z => h1 (by rw [z]; exact hcp)
    rw [upd_ne hne]; exact s.b.n a h1 h2
  · by_cases cj : i = j
    · subst cj
      rw [List.getElem?_set_self hil] at ht
      obtain rfl := Option.some.inj ht
      show SlOk _ _ _ (if i = i then [] else A i) _
      rw [if_pos rfl]
      refine ⟨rfl, .ref p, ?_, p, vs, rfl, upd_same, pa_mono f1 pv⟩
      rw [List.getD_eq_getElem?_getD, ev]; rfl
    · rw [List.getElem?_set_ne cj] at ht
      show SlOk _ _ _ (if j = i then [] else A j) _
      rw [if_neg (fun z => cj z.symm)]
      have k := e.ok j t ht
      cases t with
      | un => exact k
      | as a => obtain ⟨h1, v, h2, h3⟩ := k; exact ⟨h1, v, h2, a.mono f1 h3⟩
      | ow w3 =>
        obtain ⟨v3, ev3, p3⟩ := k
        have fr3 := w3.fr p3
        refine ⟨v3, ev3, w3.mono p3 f1 (fun a ha => ?_) fun _ _ => rfl⟩
        have hne : a ≠ p := fun z => e.dj i j cj a (by rw [eA, z]; simp) ha
        rw [upd_ne hne]; exact (fr3 a ha).1
  · have hj' : a ∈ (if j = i then [] else A j) := hj
    have hk' : a ∈ (if k = i then [] else A k) := hk
    by_cases c1 : j = i
    · rw [if_pos c1] at hj'; cases hj'
    · rw [if_neg c1] at hj'
      by_cases c2 : k = i
      · rw [if_pos c2] at hk'; cases hk'
      · rw [if_neg c2] at hk'; exact e.dj j k n a hj' hk'
  · rw [List.length_set] at hj
    show (if j = i then [] else A j) = []
    rw [if_neg (by omega)]; exact e.out j hj
  · have hj' : a ∈ (if j = i then [] else A j) := hj
    by_cases c1 : j = i
    · rw [if_pos c1] at hj'; cases hj'
    · rw [if_neg c1] at hj'; exact ha j a hj'
theorem rn_fixL {i : Nat} {as : List As} (h : Γ[i]? = some (.ow (OL as))) (n : Rn c t (Γ.set i (.as (LsA as))) k) (hW : c.W = [] := by rfl) : Rn c t Γ k := fun D σ H Hf s q => by
  obtain ⟨Hf', s'⟩ := st_fixL s h hW
  exact n D σ H Hf' s' q
/-- .. of data -/
theorem set_le {s t : Sl} (h : s.le t) : ∀ {Γ : List Sl} {i : Nat}, GLe (Γ.set i s) (Γ.set i t)
  | [], _ => .nil
  | _ :: _, 0 => .cons h GLe.refl
  | x :: _, _ + 1 => .cons x.le_refl (set_le h)
theorem rn_fixD {i : Nat} {ds : List PyData} (h : Γ[i]? = some (.ow (OL (ds.map (Dt K))))) (n : Rn c t (Γ.set i (.as (Dt K (.list ds)))) k) (hW : c.W = [] := by rfl) : Rn c t Γ k :=
  rn_fixL h (rn_weak n (set_le (s := .as (LsA (ds.map (Dt K)))) (t := .as (Dt K (.list ds))) lsA_le)) hW
/-- xs.append(e) -/
theorem turn_list {Hf H : Hp} {p : Addr} {vs ws : List V} {as : List As} (hf : Hf p = none) (pw : Pa Hf ws as) : (OL as).p Hf (upd H p (.lst ws)) (.ref p) [p] := ⟨p, ws, rfl, rfl, hf, upd_same, pw⟩
theorem st_list {Hf H : Hp} {σ : L2.St} {A : Nat → List Addr} {i : Nat} {p : Addr} {ws : List V} {as bs : List As} (b : Bok c Hf H) (e : Env Hf H σ Γ A) (ha : ∀ i, ∀ a ∈ A i, c.h a = none ∨ a ∈ c.W) (hi : Γ[i]? = some (.ow (OL as))) (hv : σ[i]? = some (some (.ref p))) (pw : Pa Hf ws bs) :
    StOk c Hf (upd H p (.lst ws)) σ (Γ.set i (.ow (OL bs))) := by
  obtain ⟨v, ev, p', vs, rfl, eA, hf, hp, pv⟩ := e.ow hi
  rw [hv] at ev
  obtain rfl : p = p' := by injection ev with ev; injection ev with ev; injection ev
  refine st_turn b e ha hi hv (fun a h => upd_ne fun z => h (by rw [eA, z]; simp)) (fun a h => ?_) (by rw [eA]; exact turn_list (vs := vs) hf pw)
  rw [eA] at h
  obtain rfl : a = p := by simpa using h
  rw [upd_same]; exact fun z => nomatch z
theorem rn_append {i : Nat} {as : List As} (hi : Γ[i]? = some (.ow (OL as))) (h : EvA te Γ a) (hl : as.length < sizeLine) (n : k.nx (Γ.set i (.ow (OL (as ++ [a]))))) : Rn c (tDrop (tBM K "list" rAppend (tVar i) (tCons te tNil))) Γ k := fun D σ H Hf s q => by
  obtain ⟨A, e, ha⟩ := s.e
  obtain ⟨v, ev, p, vs, rfl, eA, hf, hp, pv⟩ := e.ow hi
  refine ⟨.ref p, ev, .inl ⟨rfl, vs, .inl (.inl hp)⟩, h Hf H σ A e _ fun y Hf1 H1 e1 py => ?_⟩
  exact ⟨p, vs, y, rfl, rfl, e1.h _ _ hp, by rw [pa_len pv]; exact hl, q.nx _ n _ _ Hf1 (st_list (s.b.ext e1) (e.ext e1) ha hi ev (pa_app (pa_mono e1.f pv) (.cons py .nil)))⟩
theorem rn_extend {i : Nat} {as bs : List As} (hi : Γ[i]? = some (.ow (OL as))) (h : EvL te Γ bs) (hl : as.length + bs.length ≤ sizeLine) (n : k.nx (Γ.set i (.ow (OL (as ++ bs))))) : Rn c (tDrop (tBM K "list" rExtend (tVar i) (tCons te tNil))) Γ k := fun D σ H Hf s q => by
  obtain ⟨A, e, ha⟩ := s.e
  obtain ⟨v, ev, p, vs, rfl, eA, hf, hp, pv⟩ := e.ow hi
  refine ⟨.ref p, ev, .inl ⟨rfl, vs, .inl (.inl hp)⟩, h Hf H σ A e _ fun p2 ws Hf1 H1 e1 hp2 pw => ?_⟩
  exact ⟨p, p2, vs, ws, rfl, rfl, e1.h _ _ hp, hp2, by rw [pa_len pv, pa_len pw]; exact hl, q.nx _ n _ _ Hf1 (st_list (s.b.ext e1) (e.ext e1) ha hi ev (pa_app (pa_mono e1.f pv) pw))⟩
theorem pa_dropLast {H : Hp} : ∀ {vs : List V} {as : List As}, Pa H vs as → Pa H vs.dropLast as.dropLast
  | _, _, .nil => .nil
  | _, _, .cons h .nil => .nil
  | _, _, .cons h (.cons h2 q) => .cons h (pa_dropLast (.cons h2 q))
/-- xs.pop(), what it gives dropped -/
theorem rn_pop {i : Nat} {as : List As} (hi : Γ[i]? = some (.ow (OL as))) (hl : as ≠ []) (n : k.nx (Γ.set i (.ow (OL as.dropLast)))) : Rn c (tDrop (tBM0 K "list" rPop (tVar i))) Γ k := fun D σ H Hf s q => by
  obtain ⟨A, e, ha⟩ := s.e
  obtain ⟨v, ev, p, vs, rfl, eA, hf, hp, pv⟩ := e.ow hi
  have hlen := pa_len pv
  have hpos : 0 < vs.length := by rw [hlen]; exact List.length_pos_iff.mpr hl
  refine ⟨.ref p, ev, .inl ⟨rfl, vs, .inl (.inl hp)⟩, p, vs, vs[vs.length - 1], rfl, rfl, hp, List.getElem?_eq_getElem (by omega), q.nx _ n _ _ Hf (st_list s.b e ha hi ev (pa_dropLast pv))⟩
theorem pa_eraseIdx {H : Hp} : ∀ {vs : List V} {as : List As} (j : Nat), Pa H vs as → Pa H (vs.eraseIdx j) (as.eraseIdx j)
  | _, _, _, .nil => .nil
  | _, _, 0, .cons h q => q
  | _, _, j + 1, .cons h q => .cons h (pa_eraseIdx j q)
/-- ys.append(xs.pop(e)) -/
theorem rn_appendPop {i j : Nat} {as bs : List As} {x : As} {z : Int} {m : Nat} (hij : i ≠ j) (hi : Γ[i]? = some (.ow (OL as))) (hj : Γ[j]? = some (.ow (OL bs))) (h : EvA te Γ (Dt K (.int z))) (hz : z = (m : Int)) (hx : bs[m]? = some x) (hb : bs.length ≤ 1000000) (hl : as.length < sizeLine)
    (n : k.nx ((Γ.set j (.ow (OL (bs.eraseIdx m)))).set i (.ow (OL (as ++ [x]))))) : Rn c (tDrop (tBM K "list" rAppend (tVar i) (tCons (tBM K "list" rPopAt (tVar j) (tCons te tNil)) tNil))) Γ k := fun D σ H Hf s q => by
  obtain ⟨A, e, ha⟩ := s.e
  obtain ⟨v, ev, p, vs, rfl, eA, hf, hp, pv⟩ := e.ow hi
  obtain ⟨v2, ev2, p2, ws, rfl, eA2, hf2, hp2, pw⟩ := e.ow hj
  refine ⟨.ref p, ev, .inl ⟨rfl, vs, .inl (.inl hp)⟩, .ref p2, ev2, .inl ⟨rfl, ws, .inl (.inl hp2)⟩, h Hf H σ A e _ fun y Hf1 H1 e1 py => ?_⟩
  cases dt_int py
  subst hz
  obtain ⟨hm, _⟩ := List.getElem?_eq_some_iff.mp hx
  have hlw := pa_len pw
  obtain ⟨w, hw, pwx⟩ := pa_get (pa_mono e1.f pw) hx
  have hne : p ≠ p2 := fun z => e.dj i j hij p (by rw [eA]; simp) (by rw [eA2, z]; simp)
  have s1 := st_list (s.b.ext e1) (e.ext e1) ha hj ev2 (pa_eraseIdx m (pa_mono e1.f pw))
  have hsi : seqIndex? ((m : Nat) : Int) ws.length = some m := by
    have := (ixN_seq (n := ws.length) (i := (m : Int)) (j := m) (by unfold ixN; rw [if_pos (by omega), if_pos (by omega)]; simp)).1
    exact this
  refine ⟨p2, ws, ((m : Nat) : Int), m, w, rfl, rfl, e1.h _ _ hp2, by omega, by omega, hsi, hw, p, vs, w, rfl, rfl, by rw [upd_ne hne]; exact e1.h _ _ hp, by rw [pa_len pv]; exact hl, ?_⟩
  obtain ⟨A', e', ha'⟩ := s1.e
  exact q.nx _ n _ _ Hf1 (st_list s1.b e' ha' (by rw [List.getElem?_set_ne (Ne.symm hij)]; exact hi) ev (pa_app (pa_mono e1.f pv) (.cons pwx .nil)))

/-! loops -/
/-- a later start: more is fixed -/
structure Sub (c c' : Cb) : Prop where
  w : c'.W = c.W
  h : c'.h = c.h
  b : ∀ {Hf H : Hp}, Bok c' Hf H → Bok c Hf H
theorem Sub.refl (c : Cb) : Sub c c := ⟨rfl, rfl, fun h => h⟩
theorem Sub.trans {c c1 c2 : Cb} (a : Sub c c1) (b : Sub c1 c2) : Sub c c2 := ⟨b.w.trans a.w, b.h.trans a.h, fun h => a.b (b.b h)⟩
theorem Sub.st {c c' : Cb} (s : Sub c c') {Hf H : Hp} {σ : L2.St} {Γ : List Sl} (h : StOk c' Hf H σ Γ) : StOk c Hf H σ Γ :=
  ⟨s.b h.b, let ⟨A, e, ha⟩ := h.e; ⟨A, e, fun i a hm => by rw [← s.w, ← s.h]; exact ha i a hm⟩⟩
theorem KOk.sub {c c' : Cb} (s : Sub c c') {k : Kt} {D : Ends} (h : KOk c k D) : KOk c' k D where
  nx := fun Γ g σ H Hf x => h.nx Γ g σ H Hf (s.st x)
  rt := fun a g v H Hf x => h.rt a g v H Hf (s.b x)
  ro := fun o g v H Hf B x y => h.ro o g v H Hf B (s.b x) (by rw [← s.w, ← s.h]; exact y)
  bk := fun Γ g σ H Hf x => h.bk Γ g σ H Hf (s.st x)
  ct := fun Γ g σ H Hf x => h.ct Γ g σ H Hf (s.st x)
/-- W: what holds between turns (turn, slots) -/
theorem rn_for {wi : TI} {xs : List As} (W : Nat → List Sl → Prop) (hi : EvI wi Γ xs) (h0 : W 0 Γ)
    (hs : ∀ (c' : Cb) (_ : Sub c c') (i : Nat) (a : As) (Γ1 : List Sl), W i Γ1 → xs[i]? = some a → ∃ Γ2, EvG g a Γ1 Γ2 ∧ Rn c' t Γ2 { k with nx := fun Γ3 => ∃ Γ4, GLe Γ3 Γ4 ∧ W (i + 1) Γ4, ct := fun Γ3 => ∃ Γ4, GLe Γ3 Γ4 ∧ W (i + 1) Γ4, bk := k.nx })
    (hd : ∀ Γ1, W xs.length Γ1 → k.nx Γ1) : Rn c (tFor wi g t) Γ k := fun D σ H Hf s q => by
  obtain ⟨A, e, ha⟩ := s.e
  refine hi Hf H σ A e _ fun J Hf1 H1 e1 hJ => ?_
  have s1 := s.ext e1
  have sb : Sub c ⟨Hf1, c.h, c.W⟩ := ⟨rfl, rfl, fun {Hf2 H2} b => ⟨s1.b.f.trans b.f, b.h, fun a h1 h2 => b.n a h1 (s1.b.n a h1 h2), b.k, b.z⟩⟩
  have s1' : StOk ⟨Hf1, c.h, c.W⟩ Hf1 H1 σ Γ := ⟨⟨.refl _, s1.b.h, fun a _ h => h, s1.b.k, s1.b.z⟩, s1.e⟩
  refine ⟨fun i m σ' H' => i + m = xs.length ∧ ∃ Γ1 Hf', W i Γ1 ∧ StOk ⟨Hf1, c.h, c.W⟩ Hf' H' σ' Γ1, ⟨xs.length, by omega, Γ, Hf1, h0, s1'⟩, fun i m σ' H' hW => ?_⟩
  obtain ⟨him, Γ1, Hf', w1, s2⟩ := hW
  have hJi := hJ Hf' H' s2.b.f s2.b.z i
  by_cases ci : i < xs.length
  · right
    have hx := List.getElem?_eq_getElem ci
    obtain ⟨Γ2, hg, hr⟩ := hs _ sb i _ Γ1 w1 hx
    refine ⟨(hJi.1 ci).1, fun σ2 H2 => ∃ Γ3 Hf2, W (i + 1) Γ3 ∧ StOk ⟨Hf1, c.h, c.W⟩ Hf2 H2 σ2 Γ3, fun σ2 H2 ⟨Γ3, Hf2, w3, s3⟩ => ⟨m - 1, by omega, by omega, Γ3, Hf2, w3, s3⟩, fun x H2 hy => ?_⟩
    obtain ⟨Hf2, E2, px⟩ := (hJi.1 ci).2 x H2 hy
    have s3 := s2.ext E2
    obtain ⟨A1, e1', ha1⟩ := s3.e
    refine hg Hf2 H2 σ' A1 e1' x (px _ hx) _ fun σ3 A3 e3 sub => hr _ σ3 H2 Hf2 ⟨s3.b, A3, e3, fun i x hx => ha1 i x (sub i x hx)⟩ ?_
    have q' := q.sub sb
    exact ⟨fun Γ3 ⟨Γ4, le, w4⟩ σ4 H4 Hf4 s4 => ⟨Γ4, Hf4, w4, s4.weak le⟩, q'.rt, q'.ro, fun Γ3 n σ4 H4 Hf4 s4 => q'.nx Γ3 n σ4 H4 Hf4 s4, fun Γ3 ⟨Γ4, le, w4⟩ σ4 H4 Hf4 s4 => ⟨Γ4, Hf4, w4, s4.weak le⟩⟩
  · left
    refine ⟨hJi.2 (by omega), ?_⟩
    obtain rfl : i = xs.length := by omega
    exact q.nx _ (hd Γ1 w1) _ _ Hf' (sb.st s2)
/-- W: what holds at each test, with a number that falls -/
theorem rn_while (W : Nat → List Sl → Prop) (m0 : Nat) (h0 : W m0 Γ)
    (hs : ∀ (m : Nat) (Γ1 : List Sl), W m Γ1 → ∃ b, EvB tt Γ1 b ∧ (b = true → Rn c t Γ1 { k with nx := fun Γ3 => ∃ Γ4 m', m' < m ∧ GLe Γ3 Γ4 ∧ W m' Γ4, ct := fun Γ3 => ∃ Γ4 m', m' < m ∧ GLe Γ3 Γ4 ∧ W m' Γ4, bk := k.nx }) ∧ (b = false → k.nx Γ1)) :
    Rn c (tWhile tt t) Γ k := fun D σ H Hf s q => by
  refine ⟨fun m σ' H' => ∃ Γ1 Hf', W m Γ1 ∧ StOk c Hf' H' σ' Γ1, ⟨m0, Γ, Hf, h0, s⟩, fun m σ' H' ⟨Γ1, Hf', w1, s1⟩ => ?_⟩
  obtain ⟨b, hb, ht, hf⟩ := hs m Γ1 w1
  obtain ⟨A, e, ha⟩ := s1.e
  refine hb Hf' H' σ' A e _ fun Hf2 H2 e2 => ?_
  have s2 := s1.ext e2
  cases b with
  | true =>
    refine iteT ⟨fun σ3 H3 => ∃ m', m' < m ∧ ∃ Γ3 Hf3, W m' Γ3 ∧ StOk c Hf3 H3 σ3 Γ3, fun σ3 H3 ⟨m', hm, h⟩ => ⟨m', hm, h⟩, ht rfl _ σ' H2 Hf2 s2 ?_⟩
    exact ⟨fun Γ3 ⟨Γ4, m', hm, le, w4⟩ σ4 H4 Hf4 s4 => ⟨m', hm, Γ4, Hf4, w4, s4.weak le⟩, q.rt, q.ro, fun Γ3 n σ4 H4 Hf4 s4 => q.nx Γ3 n σ4 H4 Hf4 s4, fun Γ3 ⟨Γ4, m', hm, le, w4⟩ σ4 H4 Hf4 s4 => ⟨m', hm, Γ4, Hf4, w4, s4.weak le⟩⟩
  | false => exact iteF (q.nx _ (hf rfl) _ _ Hf2 s2)
end

/-! ### defs -/
inductive Outc where
  | ret (a : As)
  | own (w : Ow)
  | exc (C : Addr)
def SpD (n : Nat) (R : List As → Outc → Prop) : Sp := fun vs H Q E => ∃ Hf as o, as.length = n ∧ Same Hf H ∧ Pa Hf vs as ∧ R as o ∧ match o with
  | .ret a => ∀ v Hf' H', Ext Hf H Hf' H' → a.p Hf' v → Q v H'
  | .own w => ∀ v Hf' H' B, Ext Hf H Hf' H' → (∀ a ∈ B, H a = none) → w.p Hf' H' v B → Q v H'
  | .exc C => ∀ Hf' H', Ext Hf H Hf' H' → E (.ref C) none H'
def Kof : Outc → Kt
  | .ret a => ⟨fun _ => ∀ (H : Hp), a.p H .non, fun b => b.le a, fun _ => False, fun _ => False, fun _ => False⟩
  | .own w => ⟨fun _ => False, fun _ => False, fun u => ∀ Hf H v A, u.p Hf H v A → w.p Hf H v A, fun _ => False, fun _ => False⟩
  | .exc _ => ⟨fun _ => False, fun _ => False, fun _ => False, fun _ => False, fun _ => False⟩
/-- the slots at the start -/
def G0 (m : Nat) (as : List As) : List Sl := as.map Sl.as ++ List.replicate (m - as.length) .un
theorem bok_start {Hf H : Hp} (z : Same Hf H) : Bok ⟨Hf, H, []⟩ Hf H := ⟨.refl _, fun _ _ _ h => h, fun _ _ h => h, fun _ h => h, z⟩
theorem Bok.toExt {Hf H Hf' H' : Hp} (b : Bok ⟨Hf, H, []⟩ Hf' H') : Ext Hf H Hf' H' := ⟨b.f, fun a o h => b.h a o (fun z => nomatch z) h, b.z, b.n⟩
theorem env_start {Hf H : Hp} {N : List Str} {vs : List V} {as : List As} (z : Same Hf H) (p : Pa Hf vs as) : Env Hf H (L2.start N vs) (G0 N.length as) (fun _ => []) where
  z := z
  len := by
    have := pa_len p
    unfold L2.start G0
    rw [List.length_append, List.length_append, List.length_map, List.length_map, List.length_replicate, List.length_replicate, this]
  ok := fun i s h => by
    have hl := pa_len p
    unfold G0 at h
    by_cases c : i < as.length
    · rw [List.getElem?_append_left (by rw [List.length_map]; exact c), List.getElem?_map, List.getElem?_eq_getElem c] at h
      obtain rfl := Option.some.inj h
      obtain ⟨v, hv, pv⟩ := pa_get p (List.getElem?_eq_getElem c)
      refine ⟨rfl, v, ?_, pv⟩
      unfold L2.start
      rw [List.getD_eq_getElem?_getD, List.getElem?_append_left (by rw [List.length_map]; omega), List.getElem?_map, hv]; rfl
    · rw [List.getElem?_append_right (by rw [List.length_map]; omega)] at h
      have := List.mem_of_getElem? h
      obtain rfl := List.eq_of_mem_replicate this
      rfl
  dj := fun _ _ _ _ h => nomatch h
  out := fun _ _ => rfl
def EOk (c : Cb) (E : XK) : Outc → Prop
  | .exc C => ∀ {Hf H : Hp}, Bok c Hf H → E (.ref C) none H
  | _ => True
theorem start_run {N : List Str} {vs : List V} {as : List As} {Hf H : Hp} {t : TS} {o : Outc} {Q : VK} {E : XK} (z : Same Hf H) (p : Pa Hf vs as)
    (ho : match o with
      | .ret a => ∀ v Hf' H', Ext Hf H Hf' H' → a.p Hf' v → Q v H'
      | .own w => ∀ v Hf' H' B, Ext Hf H Hf' H' → (∀ a ∈ B, H a = none) → w.p Hf' H' v B → Q v H'
      | .exc C => ∀ Hf' H', Ext Hf H Hf' H' → E (.ref C) none H')
    (h : Rn ⟨Hf, H, []⟩ t (G0 N.length as) (Kof o)) : t { nx := fun _ H' => Q .non H', rt := Q } (L2.start N vs) H := by
  refine h _ _ H Hf ⟨bok_start z, _, env_start z p, fun _ _ h => nomatch h⟩ ?_
  cases o with
  | ret a => exact ⟨fun Γ g σ' H' Hf' s => ho _ Hf' H' s.b.toExt (g Hf'), fun b g v H' Hf' s pv => ho v Hf' H' s.toExt (g _ _ pv), fun _ z => z.elim, fun _ z => z.elim, fun _ z => z.elim⟩
  | own w => exact ⟨fun _ z => z.elim, fun _ z => z.elim, fun u g v H' Hf' B s hB pv => ho v Hf' H' B s.toExt (fun a ha => (hB a ha).elim id fun z => nomatch z) (g _ _ _ _ pv), fun _ z => z.elim, fun _ z => z.elim⟩
  | exc C => exact ⟨fun _ z => z.elim, fun _ z => z.elim, fun _ z => z.elim, fun _ z => z.elim, fun _ z => z.elim⟩
section
variable {P : Program} {w : World} {K : PySem.W.Frag} {mg : Str → Option Value} {base : Heap}
/-- a def that raises nothing, by its body -/
theorem def_ok {x qual : Str} {st : Stmt} {f : Addr} {fd : FuncData} {N ps : List Str} {k n : Nat} {R : List As → Outc → Prop} (F : L2.Fun K x qual st f fd) (S : FnScope N ps (defScope st)) (hn : ps.length = n)
    (hb : ∀ (cdv : Value) (A : Around) (outer : List PySem.Env) (s : Shared) (Hf H : Hp) (as : List As) (o : Outc) (E : XK), Room k (A.deeper (envOfC qual (defScope st) s.heap.objs.size f cdv)) → R as o →
      ∃ t, PSs (cxOf L2.CX0 P w K mg base N qual (defScope st) f cdv A outer s H E).nox (defBody st) t ∧ Rn ⟨Hf, H, []⟩ t (G0 N.length as) (Kof o)) : FnOk P w K mg base L2.CX0 (k + 1) f fd ps (SpD n R) := by
  refine F.ok S (fun vs H Q E ⟨Hf, as, o, hl, _, p, _⟩ => by rw [pa_len p, hl, hn]) fun cdv A outer s H vs Q E hr ⟨Hf, as, o, hl, z, p, r, ho⟩ => ?_
  obtain ⟨t, h1, h2⟩ := hb cdv A outer s Hf H as o E hr r
  exact ⟨t, h1, start_run z p ho h2⟩
/-- a def that may raise -/
theorem def_okX {x qual : Str} {st : Stmt} {f : Addr} {fd : FuncData} {N ps : List Str} {k n : Nat} {R : List As → Outc → Prop} (F : L2.Fun K x qual st f fd) (S : FnScope N ps (defScope st)) (hn : ps.length = n)
    (hb : ∀ (cdv : Value) (A : Around) (outer : List PySem.Env) (s : Shared) (Hf H : Hp) (as : List As) (o : Outc) (E : XK), Room k (A.deeper (envOfC qual (defScope st) s.heap.objs.size f cdv)) → R as o → EOk ⟨Hf, H, []⟩ E o →
      ∃ t, PSs (cxOf (L2.CX P w) P w K mg base N qual (defScope st) f cdv A outer s H E) (defBody st) t ∧ Rn ⟨Hf, H, []⟩ t (G0 N.length as) (Kof o)) : FnOk P w K mg base (L2.CX P w) (k + 1) f fd ps (SpD n R) := by
  refine F.okX S (fun vs H Q E ⟨Hf, as, o, hl, _, p, _⟩ => by rw [pa_len p, hl, hn]) fun cdv A outer s H vs Q E hr ⟨Hf, as, o, hl, z, p, r, ho⟩ => ?_
  obtain ⟨t, h1, h2⟩ := hb cdv A outer s Hf H as o E hr r (by
    cases o with
    | ret a => trivial
    | own w => trivial
    | exc C => exact fun {Hf' H'} b => ho Hf' H' b.toExt)
  exact ⟨t, h1, start_run z p ho h2⟩
/-- a def of the module that may be called -/
structure Cl (P : Program) (w : World) (K : PySem.W.Frag) (mg : Str → Option Value) (base : Heap) (CX : CXT) (k : Nat) (x : Str) (sp : Sp) : Prop where
  ex : ∃ (f : Addr) (fd : FuncData) (ps : List Str), FnOk P w K mg base CX k f fd ps sp ∧ mg x = some (.ref f) ∧ PySem.W.keepIn K (.ref f) = true ∧ Binds K fd ps []
end
section
variable {X : Cx} {k j : Nat} {x : Str} {sp : Sp} {p pos : Pos} {e : Expr} {es : List Expr} {t : TA}
theorem pe_cl (c : Cl X.prog X.w X.K X.mg X.base L2.CX0 k x sp) (hr : Room j X.A) (hk : k ≤ j) (hg : Gl X x) (ha : PA X (e :: es) t)
    (hdb : (x == ("__debug__" : Str)) = false := by decide) (he : starEach (e :: es) X.env = (false, eval e X.env) :: starEach es X.env := by rfl) (hpl : (backTo pos (starEach es X.env)).any (·.1) = false := by rfl) :
    PE X (.Call (.Name x p) (e :: es) [] pos) (tCall sp [] L2.E0 t) := by
  obtain ⟨f, fd, ps, F, hm, kp, b⟩ := c.ex
  exact pe_call F (hr.mono hk) hg hm kp b .nil L2.pass0 ha hdb he hpl
/-- of a def that may raise, where it does not -/
theorem pe_clN (c : Cl X.prog X.w X.K X.mg X.base (L2.CX X.prog X.w) k x sp) (hr : Room j X.A) (hk : k ≤ j) (hg : Gl X x) (ha : PA X (e :: es) t)
    (hdb : (x == ("__debug__" : Str)) = false := by decide) (he : starEach (e :: es) X.env = (false, eval e X.env) :: starEach es X.env := by rfl) (hpl : (backTo pos (starEach es X.env)).any (·.1) = false := by rfl) :
    PE X (.Call (.Name x p) (e :: es) [] pos) (tCall sp [] L2.E0 t) := by
  obtain ⟨f, fd, ps, F, hm, kp, b⟩ := c.ex
  exact pe_call F (hr.mono hk) hg hm kp b .nil L2.passL ha hdb he hpl
/-- .. where it may: what is raised goes where W says -/
theorem pe_clX {W : WX} (c : Cl X.prog X.w X.K X.mg X.base (L2.CX X.prog X.w) k x sp) (hr : Room j X.A) (hk : k ≤ j) (hg : Gl X x) (tk : Takes X W) (ha : PA X (e :: es) t)
    (hdb : (x == ("__debug__" : Str)) = false := by decide) (he : starEach (e :: es) X.env = (false, eval e X.env) :: starEach es X.env := by rfl) (hpl : (backTo pos (starEach es X.env)).any (·.1) = false := by rfl) :
    PE X (.Call (.Name x p) (e :: es) [] pos) (tCallS sp (WE W) t) := by
  obtain ⟨f, fd, ps, F, hm, kp, b⟩ := c.ex
  exact pe_callS F (hr.mono hk) hg hm kp b (fun σ => passAt tk σ) ha hdb he hpl
theorem pe_cl0 (c : Cl X.prog X.w X.K X.mg X.base L2.CX0 k x sp) (hr : Room j X.A) (hk : k ≤ j) (hg : Gl X x) (hdb : (x == ("__debug__" : Str)) = false := by decide) :
    PE X (.Call (.Name x p) [] [] pos) (tCall sp [] L2.E0 tNil) := by
  obtain ⟨f, fd, ps, F, hm, kp, b⟩ := c.ex
  exact pe_call0 F (hr.mono hk) hg hm kp b .nil L2.pass0 hdb
end
section
variable {K : PySem.W.Frag} {Γ : List Sl} {c : Cb} {k : Kt} {n : Nat} {R : List As → Outc → Prop} {ta : TA} {as : List As} {E : XK}
theorem ev_call {a : As} (h : EvS ta Γ as) (r : R as (.ret a)) (hn : as.length = n) : EvA (tCall (SpD n R) [] E ta) Γ a := fun Hf H σ A e Q q =>
  h Hf H σ A e _ fun vs Hf1 H1 e1 pv => ⟨Hf1, as, _, hn, e1.z, by rw [List.append_nil]; exact pv, r, fun v Hf2 H2 e2 p2 => q v Hf2 H2 (e1.trans e2) p2⟩
theorem ew_call {w : Ow} (h : EvS ta Γ as) (r : R as (.own w)) (hn : as.length = n) : EvW (tCall (SpD n R) [] E ta) Γ w := fun Hf H σ A e Q q =>
  h Hf H σ A e _ fun vs Hf1 H1 e1 pv => ⟨Hf1, as, _, hn, e1.z, by rw [List.append_nil]; exact pv, r, fun v Hf2 H2 B e2 hB p2 => q v Hf2 H2 B (e1.trans e2) (fun a ha => e1.h.free (hB a ha)) p2⟩
theorem ev_callS {W : WX} {a : As} (h : EvS ta Γ as) (r : R as (.ret a)) (hn : as.length = n) : EvA (tCallS (SpD n R) (WE W) ta) Γ a := fun Hf H σ A e Q q =>
  h Hf H σ A e _ fun vs Hf1 H1 e1 pv => ⟨Hf1, as, _, hn, e1.z, pv, r, fun v Hf2 H2 e2 p2 => q v Hf2 H2 (e1.trans e2) p2⟩
theorem ew_callS {W : WX} {w : Ow} (h : EvS ta Γ as) (r : R as (.own w)) (hn : as.length = n) : EvW (tCallS (SpD n R) (WE W) ta) Γ w := fun Hf H σ A e Q q =>
  h Hf H σ A e _ fun vs Hf1 H1 e1 pv => ⟨Hf1, as, _, hn, e1.z, pv, r, fun v Hf2 H2 B e2 hB p2 => q v Hf2 H2 B (e1.trans e2) (fun a ha => e1.h.free (hB a ha)) p2⟩
/-- an expression that raises -/
def EvR (te : TE) (Γ : List Sl) (W : WX) (C : Addr) : Prop := ∀ Hf H σ A, Env Hf H σ Γ A → (∀ Hf' H', Ext Hf H Hf' H' → W (.ref C) none σ H') → ∀ Q : VK, te σ H Q
theorem er_callS {W : WX} {C : Addr} (h : EvS ta Γ as) (r : R as (.exc C)) (hn : as.length = n) : EvR (tCallS (SpD n R) (WE W) ta) Γ W C := fun Hf H σ A e hw Q =>
  h Hf H σ A e _ fun vs Hf1 H1 e1 pv => ⟨Hf1, as, _, hn, e1.z, pv, r, fun Hf2 H2 e2 => hw Hf2 H2 (e1.trans e2)⟩
theorem rn_dropR {te : TE} {W : WX} {C : Addr} (h : EvR te Γ W C) (hw : ∀ {σ : L2.St} {H Hf : Hp}, StOk c Hf H σ Γ → W (.ref C) none σ H) : Rn c (tDrop te) Γ k := fun D σ H Hf s q => by
  obtain ⟨A, e, _⟩ := s.e
  exact h Hf H σ A e (fun Hf' H' e' => hw (s.ext e')) _
theorem rn_asgR {te : TE} {g : TG} {W : WX} {C : Addr} (h : EvR te Γ W C) (hw : ∀ {σ : L2.St} {H Hf : Hp}, StOk c Hf H σ Γ → W (.ref C) none σ H) : Rn c (tAsg te g) Γ k := fun D σ H Hf s q => by
  obtain ⟨A, e, _⟩ := s.e
  exact h Hf H σ A e (fun Hf' H' e' => hw (s.ext e')) _
theorem rn_retR {te : TE} {W : WX} {C : Addr} (h : EvR te Γ W C) (hw : ∀ {σ : L2.St} {H Hf : Hp}, StOk c Hf H σ Γ → W (.ref C) none σ H) : Rn c (tRet te) Γ k := fun D σ H Hf s q => by
  obtain ⟨A, e, _⟩ := s.e
  exact h Hf H σ A e (fun Hf' H' e' => hw (s.ext e')) _
theorem rn_raise {W : WX} {C : Addr} (hw : ∀ {σ : L2.St} {H Hf : Hp}, StOk c Hf H σ Γ → W (.ref C) none σ H) : Rn c (fun _ σ H => (fun (_ : L2.St) (H : Hp) (Q : Value → Option Addr → Hp → Prop) => Q (.ref C) none H) σ H fun cls d H' => W cls d σ H') Γ k := fun D σ H Hf s q => hw s
end
end DL

namespace DL
open PySem PySem.Spec L2
open PyProof.Rows hiding St

/-! ### data of a kind: told apart by ==, of small depth -/
def EqD {α : Type} [DecidableEq α] (f : α → PyData) : Prop := ∀ a b, PyData.eqv (f a) (f b) = decide (a = b)
def ShD {α : Type} (f : α → PyData) (n : Nat) : Prop := ∀ a, (f a).canLay0 = true ∧ (f a).depth ≤ n
theorem ShD.shaped {α : Type} {f : α → PyData} {n : Nat} (h : ShD f n) (a : α) (hn : n ≤ 64 := by decide) : SeqAt.shaped (f a) = true := by
  unfold SeqAt.shaped
  rw [(h a).1, Bool.true_and, decide_eq_true_eq]
  exact Nat.le_trans (h a).2 hn
def ListD {α : Type} (f : α → PyData) (xs : List α) : PyData := .list (xs.map f)
def PairD {α β : Type} (f : α → PyData) (g : β → PyData) (p : α × β) : PyData := .tuple [f p.1, g p.2]
theorem eqvAll_map {α : Type} [DecidableEq α] {f : α → PyData} (h : EqD f) : ∀ xs ys : List α, PyData.eqvAll (xs.map f) (ys.map f) = decide (xs = ys)
  | [], [] => by simp [PyData.eqvAll]
  | [], y :: ys => by simp [PyData.eqvAll]
  | x :: xs, [] => by simp [PyData.eqvAll]
  | x :: xs, y :: ys => by
    rw [List.map_cons, List.map_cons, PyData.eqvAll, h x y, eqvAll_map h xs ys]
    simp [Bool.decide_and]
theorem EqD.list {α : Type} [DecidableEq α] {f : α → PyData} (h : EqD f) : EqD (ListD f) := fun xs ys => by
  show PyData.eqv (.list _) (.list _) = _
  rw [PyData.eqv, eqvAll_map h]
theorem EqD.pair {α β : Type} [DecidableEq α] [DecidableEq β] {f : α → PyData} {g : β → PyData} (hf : EqD f) (hg : EqD g) : EqD (PairD f g) := fun p q => by
  show PyData.eqv (.tuple _) (.tuple _) = _
  rw [PyData.eqv, PyData.eqvAll, PyData.eqvAll, PyData.eqvAll, hf, hg, Bool.and_true, ← Bool.decide_and]
  exact decide_eq_decide.mpr ⟨fun h => Prod.ext h.1 h.2, fun h => by rw [h]; exact ⟨rfl, rfl⟩⟩
theorem canAll_map {α : Type} {f : α → PyData} {n : Nat} (h : ShD f n) : ∀ xs : List α, PyData.canLayAll0 (xs.map f) = true ∧ PyData.depthAll (xs.map f) ≤ n
  | [] => by simp [PyData.canLayAll0, PyData.depthAll]
  | x :: xs => by
    have ih := canAll_map h xs
    have hx := h x
    rw [List.map_cons, PyData.canLayAll0, PyData.depthAll, hx.1, ih.1]
    refine ⟨rfl, ?_⟩
    have h1 := hx.2; have h2 := ih.2
    omega
theorem ShD.list {α : Type} {f : α → PyData} {n : Nat} (h : ShD f n) : ShD (ListD f) (n + 1) := fun xs => by
  have k := canAll_map h xs
  refine ⟨by show PyData.canLay0 (.list _) = true; rw [PyData.canLay0]; exact k.1, ?_⟩
  show PyData.depth (.list _) ≤ _
  rw [PyData.depth]
  have := k.2
  omega
theorem ShD.pair {α β : Type} {f : α → PyData} {g : β → PyData} {n : Nat} (hf : ShD f n) (hg : ShD g n) : ShD (PairD f g) (n + 1) := fun p => by
  have h1 := hf p.1; have h2 := hg p.2
  refine ⟨by show PyData.canLay0 (.tuple _) = true; rw [PyData.canLay0, PyData.canLayAll0, PyData.canLayAll0, PyData.canLayAll0, h1.1, h2.1]; rfl, ?_⟩
  show PyData.depth (.tuple _) ≤ _
  rw [PyData.depth, PyData.depthAll, PyData.depthAll, PyData.depthAll]
  have a := h1.2; have b := h2.2
  omega
theorem eq_int' : EqD PyData.int := fun a b => by rw [PyData.eqv]; exact Bool.beq_eq_decide_eq _ _
theorem sh_int : ShD PyData.int 0 := fun a => ⟨by rw [PyData.canLay0], by rw [PyData.depth]; exact Nat.le_refl 0⟩
theorem eq_str' : EqD PyData.str := fun a b => by rw [PyData.eqv]; exact Bool.beq_eq_decide_eq _ _
theorem ShD.mono {α : Type} {f : α → PyData} {n m : Nat} (h : ShD f n) (e : n ≤ m) : ShD f m := fun a => ⟨(h a).1, Nat.le_trans (h a).2 e⟩
theorem any_eqv {α : Type} [DecidableEq α] {f : α → PyData} (h : EqD f) (xs : List α) (a : α) : ((xs.map f).any fun z => PyData.eqv z (f a)) = decide (a ∈ xs) := by
  induction xs with
  | nil => rfl
  | cons x xs ih =>
    rw [List.map_cons, List.any_cons, ih, h]
    by_cases c : x = a
    · simp [c]
    · simp [c, Ne.symm c]

/-- rows of whole numbers; trays; places; texts by their signs -/
abbrev DI (xs : List Int) : PyData := ListD PyData.int xs
abbrev DT (t : List (List Int)) : PyData := ListD DI t
abbrev DP (p : Int × Int) : PyData := PairD PyData.int PyData.int p
abbrev DS (l : List Nat) : PyData := PyData.str (SX.S l)
theorem eq_DI : EqD DI := eq_int'.list
theorem sh_DI : ShD DI 1 := sh_int.list
theorem eq_DT : EqD DT := eq_DI.list
theorem sh_DT : ShD DT 2 := sh_DI.list
theorem eq_DP : EqD DP := eq_int'.pair eq_int'
theorem sh_DP : ShD DP 1 := sh_int.pair sh_int
theorem eq_DS : EqD DS := fun a b => by
  show PyData.eqv (.str _) (.str _) = _
  rw [PyData.eqv, SX.S_beq_eq]

theorem hu2_of {A : Around} {k : Nat} (hr : Room k A) : A.units + 65 < cLine := by
  have h1 := hr.un
  omega

section
variable {K : PySem.W.Frag} {Γ : List Sl} {ta tb te to : TE}
/-- xs.index(x), data of any depth -/
theorem ev_indexD {ds : List PyData} {d z : PyData} {j : Nat} (ho : EvA to Γ (Dt K (.list ds))) (hx : EvA te Γ (Dt K d)) (sl : SeqAt.shaped (.list ds) = true) (sd : SeqAt.shaped d = true) (hz : ds[j]? = some z) (he : PyData.eqv z d = true)
    (hno : ∀ (m : Nat) (z' : PyData), m < j → ds[m]? = some z' → PyData.eqv z' d = false) : EvA (tBM K "list" (rIndexD K) to (tCons te tNil)) Γ (Dt K (.int ((j : Nat) : Int))) := fun Hf H σ A e Q q =>
  ho Hf H σ A e _ fun v Hf1 H1 e1 pv => by
    obtain ⟨p, vs, rfl, hp, pvs⟩ := lsA_ge _ _ pv
    refine ⟨.inl ⟨rfl, vs, .inl (.inl (e1.z _ _ hp))⟩, hx Hf1 H1 σ A (e.ext e1) _ fun y Hf2 H2 e2 py => ?_⟩
    exact ⟨p, y, d, ds, j, z, rfl, rfl, dq_dp (dp_mono (e2.f.trans e2.z) (.lst hp (dpAll_pa pvs))), dq_dp (dp_mono e2.z py), sl, sd, hz, he, hno, q _ Hf2 H2 (e1.trans e2) (.int _)⟩
theorem idx_map {α : Type} [DecidableEq α] {f : α → PyData} (h : EqD f) {xs : List α} {a : α} (ha : a ∈ xs) : (xs.map f)[xs.idxOf a]? = some (f a) ∧ ∀ (m : Nat) (z' : PyData), m < xs.idxOf a → (xs.map f)[m]? = some z' → PyData.eqv z' (f a) = false := by
  have hl := List.idxOf_lt_length_of_mem ha
  refine ⟨by rw [List.getElem?_map, List.getElem?_eq_getElem hl, List.getElem_idxOf]; rfl, fun m z' hm hz => ?_⟩
  have hml : m < xs.length := by omega
  rw [List.getElem?_map, List.getElem?_eq_getElem hml] at hz
  obtain rfl := Option.some.inj hz
  rw [h, decide_eq_false_iff_not]
  intro e
  have := List.not_of_lt_findIdx (p := (· == a)) hm
  simp [e] at this
theorem ev_index {α : Type} [DecidableEq α] {f : α → PyData} {n : Nat} {xs : List α} {a : α} (hf : EqD f) (hs : ShD f n) (ho : EvA to Γ (Dt K (.list (xs.map f)))) (hx : EvA te Γ (Dt K (f a))) (ha : a ∈ xs) (hn : n < 64 := by decide) : EvA (tBM K "list" (rIndexD K) to (tCons te tNil)) Γ (Dt K (.int ((xs.idxOf a : Nat) : Int))) :=
  have k := idx_map hf ha
  ev_indexD ho hx (hs.list.shaped xs (by omega)) (hs.shaped a (by omega)) k.1 (by rw [hf]; simp) k.2
theorem ev_in {α : Type} [DecidableEq α] {f : α → PyData} {n : Nat} {xs : List α} {a : α} (hf : EqD f) (hs : ShD f n) (hx : EvA te Γ (Dt K (f a))) (ho : EvA to Γ (Dt K (.list (xs.map f)))) (hn : n < 64 := by decide) : EvA (tOp (rInD K) te to) Γ (Dt K (.bool (decide (a ∈ xs)))) :=
  (ev_inD hx ho (hs.shaped a (by omega)) (hs.list.shaped xs (by omega))).is (by rw [any_eqv hf])
theorem ev_notIn {α : Type} [DecidableEq α] {f : α → PyData} {n : Nat} {xs : List α} {a : α} (hf : EqD f) (hs : ShD f n) (hx : EvA te Γ (Dt K (f a))) (ho : EvA to Γ (Dt K (.list (xs.map f)))) (hn : n < 64 := by decide) : EvA (tOp (rNotInD K) te to) Γ (Dt K (.bool (!decide (a ∈ xs)))) :=
  (ev_notInD hx ho (hs.shaped a (by omega)) (hs.list.shaped xs (by omega))).is (by rw [any_eqv hf])
/-- an item of a list of data -/
theorem ev_ixLD {ds : List PyData} {i : Int} {d : PyData} (ha : EvL ta Γ (ds.map (Dt K))) (hb : EvA tb Γ (Dt K (.int i))) (h : atI ds i = some d) : EvA (tOp (rIxL K) ta tb) Γ (Dt K d) := ev_ixL ha hb (by
  unfold atI at h ⊢
  rw [List.length_map]
  cases e : ixN ds.length i with
  | none => rw [e] at h; cases h
  | some j =>
    rw [e] at h
    show (ds.map (Dt K))[j]? = _
    rw [List.getElem?_map, show ds[j]? = some d from h]; rfl)
theorem at_nat {α : Type} {xs : List α} {j : Nat} {i : Int} {v : α} (h : xs[j]? = some v) (e : i = (j : Int)) : atI xs i = some v := by rw [e]; exact atI_nat h
/-- a dict of the module, by texts -/
theorem ev_kd {w : World} {d : Addr} {z : Str} {a : As} {v : V} (hk : KDct K w d z v) (hv : ∀ H, a.p H v) (hb : EvA tb Γ (Dt K (.str z))) : EvA (tOp (rIxD K w) (tC (.ref d)) tb) Γ a := fun Hf H σ A e Q q =>
  hb Hf H σ A e _ fun y Hf1 H1 e1 py => by
    cases dt_str py
    exact ⟨d, z, v, rfl, rfl, hk, q _ Hf1 H1 e1 (hv _)⟩
theorem ev_inKd {d : Addr} {z : Str} {o : Option Value} {r : R2} (hr : r = (fun x y H Q => ∃ (z : Str) (r : Option Value), x = .str z ∧ y = .ref d ∧ PySem.W.nsIn K d z = some r ∧ Q (.bl r.isSome) H) := by rfl) (hb : EvA tb Γ (Dt K (.str z))) (h : PySem.W.nsIn K d z = some o) : EvA (tOp r tb (tC (.ref d))) Γ (Dt K (.bool o.isSome)) := fun Hf H σ A e Q q => by
  subst hr
  exact hb Hf H σ A e _ fun y Hf1 H1 e1 py => by
    cases dt_str py
    exact ⟨z, o, rfl, rfl, h, q _ Hf1 H1 e1 (.bl _)⟩
theorem ev_notInKd {d : Addr} {z : Str} {o : Option Value} {r : R2} (hr : r = (fun x y H Q => ∃ (z : Str) (r : Option Value), x = .str z ∧ y = .ref d ∧ PySem.W.nsIn K d z = some r ∧ Q (.bl (!r.isSome)) H) := by rfl) (hb : EvA tb Γ (Dt K (.str z))) (h : PySem.W.nsIn K d z = some o) : EvA (tOp r tb (tC (.ref d))) Γ (Dt K (.bool (!o.isSome))) := fun Hf H σ A e Q q => by
  subst hr
  exact hb Hf H σ A e _ fun y Hf1 H1 e1 py => by
    cases dt_str py
    exact ⟨z, o, rfl, rfl, h, q _ Hf1 H1 e1 (.bl _)⟩
end

/-! ### the layer's rules, the written part by its name -/
section
variable {X : Cx}
theorem ix_listK (K : PySem.W.Frag) (h : X.K = K := by rfl) : IxR X (rIxL K) := h ▸ ix_list
theorem ix_tupK (K : PySem.W.Frag) (h : X.K = K := by rfl) : IxR X (rIxT K) := h ▸ ix_tup
theorem ix_kdK (K : PySem.W.Frag) (w : World) (h : X.K = K := by rfl) (h2 : X.w = w := by rfl) : IxR X (rIxD K w) := h ▸ h2 ▸ ix_kdict
theorem sl_listK (K : PySem.W.Frag) (h : X.K = K := by rfl) : SlR X (rSlL K) := h ▸ sl_list
theorem sl_tupK (K : PySem.W.Frag) (h : X.K = K := by rfl) : SlR X (rSlT K) := h ▸ sl_tup
theorem op_inDK (K : PySem.W.Frag) {A : Around} {k : Nat} (hr : Room k A) (h : X.K = K := by rfl) (hA : X.A = A := by rfl) : OpR X (compareOp .In) (rInD K) := by subst h hA; exact op_inD (hu2_of hr)
theorem op_notInDK (K : PySem.W.Frag) {A : Around} {k : Nat} (hr : Room k A) (h : X.K = K := by rfl) (hA : X.A = A := by rfl) : OpR X (compareOp .NotIn) (rNotInD K) := by subst h hA; exact op_notInD (hu2_of hr)
theorem op_eqDK (K : PySem.W.Frag) {A : Around} {k : Nat} (hr : Room k A) (h : X.K = K := by rfl) (hA : X.A = A := by rfl) : OpR X (compareOp .Eq) (rEqD K) := by subst h hA; exact op_eqD hr.units
theorem op_neDK (K : PySem.W.Frag) {A : Around} {k : Nat} (hr : Room k A) (h : X.K = K := by rfl) (hA : X.A = A := by rfl) : OpR X (compareOp .NotEq) (rNeD K) := by subst h hA; exact op_neD hr.units
theorem mt_indexDK (K : PySem.W.Frag) {A : Around} {k : Nat} (hr : Room k A) (h : X.K = K := by rfl) (hA : X.A = A := by rfl) : MtR X "list.index" (rIndexD K) := by subst h hA; exact mt_indexD (hu2_of hr)
theorem call_isiK' (K : PySem.W.Frag) (h : X.K = K := by rfl) : CallR X (.builtin "isinstance") (rIsi K) := h ▸ call_isi
def rLenSq (K : PySem.W.Frag) : List V → Hp → VK → Prop := fun xs H Q => ∃ p ys, xs = [.ref p] ∧ (SqL K H p ys ∨ SqT K H p ys) ∧ Q (.int ys.length) H
theorem call_lenK (K : PySem.W.Frag) (h : X.K = K := by rfl) : CallR X (.builtin "len") (rLenSq K) := h ▸ call_len_seq
def rLenT : List V → Hp → VK → Prop := fun xs H Q => ∃ z, xs = [.str z] ∧ z.length ≤ sizeLine ∧ Q (.int z.length) H
theorem call_lenS : CallR X (.builtin "len") rLenT := call_len_str
def rListOf (K : PySem.W.Frag) : List V → Hp → VK → Prop := fun xs H Q => ∃ p ys, xs = [.ref p] ∧ (SqL K H p ys ∨ SqT K H p ys) ∧ ∀ l, H l = none → Q (.ref l) (upd H l (.lst ys))
theorem call_listK (K : PySem.W.Frag) (h : X.K = K := by rfl) : CallR X (.type "list") (rListOf K) := h ▸ call_list_of
theorem cr_sumK (K : PySem.W.Frag) (h : X.K = K := by rfl) (hc : X.calm = true := by rfl) : CallR X (.builtin "sum") (rSum K) := h ▸ cr_sum hc
theorem cr_allK (K : PySem.W.Frag) (h : X.K = K := by rfl) (hc : X.calm = true := by rfl) : CallR X (.builtin "all") (rAll K) := h ▸ cr_all hc
theorem cr_sortedK (K : PySem.W.Frag) (h : X.K = K := by rfl) : CallR X (.builtin "sorted") (rSorted K) := h ▸ cr_sorted
def rInK (K : PySem.W.Frag) (d : Addr) : R2 := fun x y H Q => ∃ (z : Str) (r : Option Value), x = .str z ∧ y = .ref d ∧ PySem.W.nsIn K d z = some r ∧ Q (.bl r.isSome) H
def rNotInK (K : PySem.W.Frag) (d : Addr) : R2 := fun x y H Q => ∃ (z : Str) (r : Option Value), x = .str z ∧ y = .ref d ∧ PySem.W.nsIn K d z = some r ∧ Q (.bl (!r.isSome)) H
theorem op_inKd (K : PySem.W.Frag) (w : World) {d : Addr} {es : Array DictEntry} {n : Nat} (D : KDict K w d es n) (h : X.K = K := by rfl) (hw : X.w = w := by rfl) : OpR X (compareOp .In) (rInK K d) := by subst h hw; exact op_in_kd D
theorem op_notInKd (K : PySem.W.Frag) (w : World) {d : Addr} {es : Array DictEntry} {n : Nat} (D : KDict K w d es n) (h : X.K = K := by rfl) (hw : X.w = w := by rfl) : OpR X (compareOp .NotIn) (rNotInK K d) := by subst h hw; exact op_notIn_kd D
def rInSg : R2 := fun x y H Q => ∃ (c : Nat) (z : Str), x = .str ⟨#[c]⟩ ∧ y = .str z ∧ Q (.bl (decide (c ∈ z.cps.toList))) H
def rNotInSg : R2 := fun x y H Q => ∃ (c : Nat) (z : Str), x = .str ⟨#[c]⟩ ∧ y = .str z ∧ Q (.bl (!decide (c ∈ z.cps.toList))) H
theorem op_inSg : OpR X (compareOp .In) rInSg := op_in_sign
theorem op_notInSg : OpR X (compareOp .NotIn) rNotInSg := op_notIn_sign
def rIsNone : R2 := fun x y H Q => y = .non ∧ Q (.bl (decide (x = .non))) H
def rNotNone : R2 := fun x y H Q => y = .non ∧ Q (.bl (!decide (x = .non))) H
theorem op_isNone : OpR X (compareOp .Is) rIsNone := op_isN
theorem op_notNone : OpR X (compareOp .IsNot) rNotNone := op_notN
def rAddStr : R2 := fun x y H Q => ∃ i j, x = .str i ∧ y = .str j ∧ i.length + j.length ≤ sizeLine ∧ Q (.str (i ++ j)) H
theorem op_addStr : OpR X (binaryOp .Add) rAddStr := op_add_str
variable {o e : Expr} {es : List Expr} {to te : TE} {t : TA} {T : String} {name : Str} {id : String} {r : V → List V → Hp → VK → Prop} {apos cpos pos : Pos}
theorem pe_bmK (K : PySem.W.Frag) (pa : PlainAttrs T) (slot : Slot T name id) (hty : typeOf (.builtin id) = pure (.type "method_descriptor")) (hm : MtR X id r) (ho : PE X o to) (ha : PA X (e :: es) t) (hK : X.K = K := by rfl)
    (hbase : attributeBase o name X.env (eval o X.env) = eval o X.env := by rfl)
    (hfew : ((backTo cpos (starEach (e :: es) X.env)).all (fun x => !x.1) && (backToKw cpos (keywordEach [] X.env)).all (fun x => x.1.isSome)
      && decide ((e :: es).length + ([] : List Keyword).length + (if ([] : List Keyword).isEmpty then 0 else 1) < 30)) = true := by rfl)
    (hline : (apos.endLine == cpos.line) = true := by rfl) (hs : starEach (e :: es) X.env = (false, eval e X.env) :: starEach es X.env := by rfl) (hplain : (backTo cpos (starEach es X.env)).any (·.1) = false := by rfl) :
    PE X (.Call (.Attribute o name apos) (e :: es) [] cpos) (tBM K T r to t) := by subst hK; exact pe_bm pa slot hty hm ho ha hbase hfew hline hs hplain
theorem pi_listK (K : PySem.W.Frag) {tg e : Expr} {te : TE} (he : PE X e te) (hK : X.K = K := by rfl) : PI X tg e (iList K te) := by subst hK; exact pi_list he
theorem pi_tupK (K : PySem.W.Frag) {tg e : Expr} {te : TE} (he : PE X e te) (hK : X.K = K := by rfl) : PI X tg e (iTup K te) := by subst hK; exact pi_tup he
theorem pi_enumK (K : PySem.W.Frag) {elts : List Expr} {kk : Nat} {tpos : Pos} {p : Pos} {e : Expr} {t : TA} (hg : Gl X "enumerate") (hm : X.mg "enumerate" = none) (ha : PA X [e] t) (hK : X.K = K := by rfl) (hs : starEach [e] X.env = [(false, eval e X.env)] := by rfl) : PI X (.Tuple elts kk tpos) (.Call (.Name "enumerate" p) [e] [] pos) (iEnum K t) := by subst hK; exact pi_enum hg hm ha hs
theorem pg_tupK (K : PySem.W.Frag) {es : List Expr} {k n : Nat} {t : TGs} (h : PGs X es t) (hK : X.K = K := by rfl) (hc : X.calm = true := by rfl) (hn : (assignEach es X.env).length = n := by rfl) (hst : (assignEach es X.env).findIdx? (·.1) = none := by rfl) : PG X (.Tuple es k pos) (gTup K n t) := by subst hK; exact pg_tup hc h hn hst
theorem pe_bm0K (K : PySem.W.Frag) (pa : PlainAttrs T) (slot : Slot T name id) (hty : typeOf (.builtin id) = pure (.type "method_descriptor")) (hm : MtR X id r) (ho : PE X o to) (hK : X.K = K := by rfl)
    (hbase : attributeBase o name X.env (eval o X.env) = eval o X.env := by rfl) (hline : (apos.endLine == cpos.line) = true := by rfl) : PE X (.Call (.Attribute o name apos) [] [] cpos) (tBM0 K T r to) := by subst hK; exact pe_bm0 pa slot hty hm ho hbase hline
end
section
variable {K : PySem.W.Frag} {Γ : List Sl} {ta tb te : TE} {tt tu : TT} {a b z : As}
theorem ev_tupD {t : TA} {ds : List PyData} (h : EvDs K t Γ ds) (hl : ds.length ≤ sizeLine) : EvA (tTup t) Γ (Dt K (.tuple ds)) := ev_tup h hl
theorem ew_lstD {t : TA} {ds : List PyData} (h : EvDs K t Γ ds) (hl : ds.length ≤ sizeLine) : EvW (tLst t) Γ (OL (ds.map (Dt K))) := ew_lst h (by rw [List.length_map]; exact hl)
theorem ev_lstD {t : TA} {ds : List PyData} (h : EvDs K t Γ ds) (hl : ds.length ≤ sizeLine) : EvA (tLst t) Γ (Dt K (.list ds)) := ev_lst h hl
theorem ev_lenLD {as : List As} (h : EvL te Γ as) : EvA (tCB (rLenSq K) (tCons te tNil)) Γ (Dt K (.int as.length)) := ev_lenL (r := rLenSq K) rfl h
theorem ev_lenTD {ds : List PyData} (h : EvA te Γ (Dt K (.tuple ds))) : EvA (tCB (rLenSq K) (tCons te tNil)) Γ (Dt K (.int ds.length)) := ev_lenT (r := rLenSq K) rfl h
theorem ev_lenSD {x : Str} (h : EvA te Γ (Dt K (.str x))) (hl : x.length ≤ sizeLine) : EvA (tCB rLenT (tCons te tNil)) Γ (Dt K (.int x.length)) := ev_lenS (r := rLenT) rfl h hl
theorem ew_listD {as : List As} (h : EvL te Γ as) : EvW (tCB (rListOf K) (tCons te tNil)) Γ (OL as) := ew_list (r := rListOf K) rfl h
theorem ev_inK {d : Addr} {x : Str} {o : Option Value} (hb : EvA tb Γ (Dt K (.str x))) (h : PySem.W.nsIn K d x = some o) : EvA (tOp (rInK K d) tb (tC (.ref d))) Γ (Dt K (.bool o.isSome)) := ev_inKd (r := rInK K d) rfl hb h
theorem ev_notInK {d : Addr} {x : Str} {o : Option Value} (hb : EvA tb Γ (Dt K (.str x))) (h : PySem.W.nsIn K d x = some o) : EvA (tOp (rNotInK K d) tb (tC (.ref d))) Γ (Dt K (.bool (!o.isSome))) := ev_notInKd (r := rNotInK K d) rfl hb h
theorem ev_inSg {c : Nat} {x : Str} (ha : EvA ta Γ (Dt K (.str ⟨#[c]⟩))) (hb : EvA tb Γ (Dt K (.str x))) : EvA (tOp rInSg ta tb) Γ (Dt K (.bool (decide (c ∈ x.cps.toList)))) :=
  ev_op ha hb fun Hf H u v hz px py Q q => by
    cases dt_str px; cases dt_str py
    exact ⟨c, x, rfl, rfl, q _ Hf H (.refl hz) (.bl _)⟩
theorem ev_isNone {d : PyData} (ha : EvA ta Γ (Dt K d)) (hb : EvA tb Γ (Dt K .none)) : EvA (tOp rIsNone ta tb) Γ (Dt K (.bool (isNone d))) := ev_isN (r := rIsNone) rfl ha hb
theorem ev_notNone {d : PyData} (ha : EvA ta Γ (Dt K d)) (hb : EvA tb Γ (Dt K .none)) : EvA (tOp rNotNone ta tb) Γ (Dt K (.bool (!isNone d))) := ev_notN (r := rNotNone) rfl ha hb
theorem ev_addStr {x y : Str} (ha : EvA ta Γ (Dt K (.str x))) (hb : EvA tb Γ (Dt K (.str y))) (hl : x.length + y.length ≤ sizeLine) : EvA (tOp rAddStr ta tb) Γ (Dt K (.str (x ++ y))) := ev_addS (r := rAddStr) rfl ha hb hl
theorem ev_negI {i : Int} (ha : EvA ta Γ (Dt K (.int i))) : EvA (tUn (rU fun i => .int (-i)) ta) Γ (Dt K (.int (-i))) := ev_neg rfl ha
theorem ev_sum {ns : List Int} (h : EvL te Γ (ns.map fun n => Dt K (.int n))) : EvA (tCB (rSum K) (tCons te tNil)) Γ (Dt K (.int ns.sum)) := fun Hf H σ A e Q q =>
  h Hf H σ A e _ fun p vs Hf1 H1 e1 hp pv => by
    have hv : vs = ns.map V.int := by
      clear hp e q h
      induction ns generalizing vs with
      | nil => cases pv; rfl
      | cons n ns ih => cases pv with | cons h q => rw [List.map_cons, dt_int h, ih _ q]
    subst hv
    exact ⟨p, ns, rfl, .inl (.inl hp), q _ Hf1 H1 e1 (.int _)⟩
theorem ev_abs {i : Int} (h : EvA te Γ (Dt K (.int i))) {r : List V → Hp → VK → Prop} (hr : r = (fun xs H Q => ∃ i, xs = [.int i] ∧ Q (.int (if i < 0 then -i else i)) H) := by rfl) : EvA (tCB r (tCons te tNil)) Γ (Dt K (.int (if i < 0 then -i else i))) := by
  subst hr
  exact ev_cb (es_cons h es_nil) fun Hf H vs hz pv Q q => by
    obtain ⟨v, rfl, hv⟩ := pa1 pv
    cases dt_int hv
    exact ⟨i, rfl, q _ Hf H (.refl hz) (.int _)⟩
end
section
variable {K : PySem.W.Frag} {Γ : List Sl} {wi : TI} {g : TG} {tt : TT} {te : TE} {vs : List Nat}
theorem filter_zs {α β : Type} (p : α → Bool) (y : α → β) : ∀ xs : List α, (xs.map fun x => if p x = true then some (y x) else none).filterMap id = (xs.filter p).map y
  | [] => rfl
  | x :: xs => by
    have ih := filter_zs p y xs
    cases h : p x with
    | true => simp [h] at ih ⊢; exact ih
    | false => simp [h] at ih ⊢; exact ih
theorem ew_lcP {α : Type} (xs : List α) (F : α → As) (p : α → Bool) (y : α → PyData) (hi : EvI wi Γ (xs.map F)) (hw : GW g vs) (hz : xs.length ≤ 10000000)
    (h : ∀ x ∈ xs, ∃ Γ1, EvG g (F x) (wipeG Γ vs) Γ1 ∧ EvB tt Γ1 (p x) ∧ (p x = true → EvA te Γ1 (Dt K (y x)))) : EvW (tLc wi g tt te vs) Γ (OL (((xs.filter p).map y).map (Dt K))) := by
  have k := ew_lc (tt := tt) (te := te) (xs.map fun x => if p x = true then some (Dt K (y x)) else none) hw hi (by rw [List.length_map, List.length_map]) (by rw [List.length_map]; exact hz) (fun i a ha => by
    rw [List.getElem?_map] at ha
    cases hx : xs[i]? with
    | none => rw [hx] at ha; cases ha
    | some x =>
      rw [hx] at ha
      obtain rfl := Option.some.inj ha
      obtain ⟨Γ1, h1, h2, h3⟩ := h x (List.mem_of_getElem? hx)
      refine ⟨Γ1, h1, fun z hz' => ?_⟩
      rw [List.getElem?_map, hx] at hz'
      obtain rfl := Option.some.inj hz'
      show match (if p x = true then some (Dt K (y x)) else none) with | none => EvB tt Γ1 false | some y => EvB tt Γ1 true ∧ EvA te Γ1 y
      by_cases hp : p x = true
      · rw [if_pos hp]; rw [hp] at h2; exact ⟨h2, h3 hp⟩
      · rw [if_neg hp]; rw [Bool.not_eq_true] at hp; rw [hp] at h2; exact h2)
  rw [filter_zs] at k
  rwa [List.map_map]
/-- no test -/
theorem ew_lcM {α : Type} (xs : List α) (F : α → As) (y : α → PyData) (hi : EvI wi Γ (xs.map F)) (hw : GW g vs) (hz : xs.length ≤ 10000000)
    (h : ∀ x ∈ xs, ∃ Γ1, EvG g (F x) (wipeG Γ vs) Γ1 ∧ EvA te Γ1 (Dt K (y x))) : EvW (tLc wi g tYes te vs) Γ (OL ((xs.map y).map (Dt K))) := by
  have k := ew_lcP (K := K) xs F (fun _ => true) y hi hw hz (fun x hx => by
    obtain ⟨Γ1, h1, h2⟩ := h x hx
    exact ⟨Γ1, h1, eb_yes, fun _ => h2⟩)
  rwa [List.filter_eq_self.mpr (fun _ _ => rfl)] at k
theorem ei_enumD {ds : List PyData} (h : EvA te Γ (Dt K (.list ds))) : EvI (iEnum K (tCons te tNil)) Γ ((List.range ds.length).map fun i => Dt K (.tuple [.int ((i : Nat) : Int), ds.getD i .none])) := by
  have k := ei_enum (K := K) (es_cons (h.le lsA_ge) es_nil)
  intro Hf H σ A e R q
  refine k Hf H σ A e R fun J Hf' H' e' hJ => q J Hf' H' e' fun Hf2 H2 s1 s2 i => ?_
  have := hJ Hf2 H2 s1 s2 i
  simp only [List.length_map, List.length_range] at this ⊢
  refine ⟨fun hi => ⟨(this.1 hi).1, fun x H3 hy => ?_⟩, this.2⟩
  obtain ⟨Hf3, E3, px⟩ := (this.1 hi).2 x H3 hy
  refine ⟨Hf3, E3, fun a ha => ?_⟩
  rw [List.getElem?_map, List.getElem?_range hi] at ha
  obtain rfl := Option.some.inj ha
  have px := px _ (by rw [List.getElem?_map, List.getElem?_range hi]; rfl)
  obtain ⟨p, vs, rfl, hp, pv⟩ := px
  refine .tup hp (dpAll_pa ?_)
  rw [List.map_cons, List.map_cons, List.map_nil]
  rwa [show (Dt K (ds.getD i .none)) = (ds.map (Dt K)).getD i (Dt K .none) by rw [List.getD_eq_getElem?_getD, List.getD_eq_getElem?_getD, List.getElem?_map]; cases ds[i]? <;> rfl]
end
end DL

namespace DL
open PySem PySem.Spec L2
open PyProof.Rows hiding St

/-! ### an own list of own lists -/
def RowOk (Hf H : Hp) (r : Addr) (row : List As) : Prop := Hf r = none ∧ ∃ vs, H r = some (.lst vs) ∧ Pa Hf vs row
theorem rows_fr {Hf H : Hp} {rs : List Addr} {rows : List (List As)} (h : Paired (RowOk Hf H) rs rows) : ∀ a ∈ rs, Hf a = none ∧ H a ≠ none := by
  induction h with
  | nil => exact fun _ h => nomatch h
  | cons h _ ih =>
    intro a ha
    rcases List.mem_cons.mp ha with rfl | hm
    · obtain ⟨h1, vs, h2, _⟩ := h
      exact ⟨h1, by rw [h2]; exact fun z => nomatch z⟩
    · exact ih a hm
theorem rows_mono {Hf H Hf' H' : Hp} {rs : List Addr} {rows : List (List As)} (h : Paired (RowOk Hf H) rs rows) (s : Same Hf Hf') (n : ∀ a ∈ rs, Hf' a = none) (k : ∀ a ∈ rs, H' a = H a) : Paired (RowOk Hf' H') rs rows := by
  induction h with
  | nil => exact .nil
  | cons h _ ih =>
    obtain ⟨h1, vs, h2, h3⟩ := h
    exact .cons ⟨n _ (by simp), vs, (k _ (by simp)).trans h2, pa_mono s h3⟩ (ih (fun a ha => n a (List.mem_cons_of_mem _ ha)) fun a ha => k a (List.mem_cons_of_mem _ ha))
def OO (rows : List (List As)) : Ow where
  p := fun Hf H v A => ∃ p rs, v = .ref p ∧ A = p :: rs ∧ (p :: rs).Nodup ∧ Hf p = none ∧ H p = some (.lst (rs.map V.ref)) ∧ Paired (RowOk Hf H) rs rows
  fr := fun ⟨p, rs, _, eA, _, hf, hh, hp⟩ a ha => by
    subst eA
    rcases List.mem_cons.mp ha with rfl | hm
    · exact ⟨hf, by rw [hh]; exact fun z => nomatch z⟩
    · exact rows_fr hp a hm
  mono := fun {Hf H Hf' H' v A} ⟨p, rs, e, eA, nd, hf, hh, hp⟩ s n k => by
    subst eA
    exact ⟨p, rs, e, rfl, nd, n p (by simp), (k p (by simp)).trans hh, rows_mono hp s (fun a ha => n a (List.mem_cons_of_mem _ ha)) fun a ha => k a (List.mem_cons_of_mem _ ha)⟩
theorem rows_get {Hf H : Hp} : ∀ {rs : List Addr} {rows : List (List As)}, Paired (RowOk Hf H) rs rows → ∀ {i : Nat} {row : List As}, rows[i]? = some row → ∃ r, rs[i]? = some r ∧ RowOk Hf H r row
  | _, _, .nil, i, row, h => by simp at h
  | _, _, .cons h q, 0, row, e => by obtain rfl := Option.some.inj e; exact ⟨_, rfl, h⟩
  | _, _, .cons h q, i + 1, row, e => rows_get q e
section
variable {K : PySem.W.Frag} {Γ : List Sl} {c : Cb} {k : Kt} {t : TS} {te : TE}
/-- a comprehension that makes own lists -/
theorem ew_lcOO {wi : TI} {g : TG} {te : TE} {vs : List Nat} {xs : List As} (rows : List (List As)) (hw : GW g vs) (hi : EvI wi Γ xs) (hl : rows.length = xs.length) (hz : xs.length ≤ 10000000)
    (h : ∀ (i : Nat) (a : As), xs[i]? = some a → ∃ Γ1, EvG g a (wipeG Γ vs) Γ1 ∧ ∀ y, rows[i]? = some y → EvW te Γ1 (OL y)) :
    EvW (tLc wi g tYes te vs) Γ (OO rows) := fun Hf H σ A e Q q =>
  hi Hf H σ A e _ fun J Hf1 H1 e1 hJ D hD => by
    have hD1 : Hf1 D = none := e1.z.free hD
    have hDH : H D = none := e1.h.free hD
    refine ⟨fun i m H' => i + m = xs.length ∧ ∃ Hf' rs, Ext Hf1 H1 Hf' H' ∧ Hf' D = none ∧ H' D = some (.lst (rs.map V.ref)) ∧ (D :: rs).Nodup ∧ (∀ a ∈ rs, H1 a = none) ∧ Paired (RowOk Hf' H') rs (rows.take i), ⟨xs.length, ?_⟩, fun i m H' hW => ?_⟩
    · exact ⟨by omega, Hf1, [], .loose e1.z hD, hD1, upd_same, by simp, by simp, .nil⟩
    · obtain ⟨him, Hf', rs, E, hfD, hHD, hnd, hfr, prs⟩ := hW
      have hJi := hJ Hf' H' E.f E.z i
      by_cases ci : i < xs.length
      · right
        refine ⟨(hJi.1 ci).1, fun H'' => ∃ Hf' rs, Ext Hf1 H1 Hf' H'' ∧ Hf' D = none ∧ H'' D = some (.lst (rs.map V.ref)) ∧ (D :: rs).Nodup ∧ (∀ a ∈ rs, H1 a = none) ∧ Paired (RowOk Hf' H'') rs (rows.take (i + 1)), fun H'' hN => ⟨m - 1, by omega, by omega, hN⟩, fun x H2 hy => ?_⟩
        obtain ⟨Hf2, E2, hx⟩ := (hJi.1 ci).2 x H2 hy
        have ha := List.getElem?_eq_getElem ci
        have px := hx _ ha
        obtain ⟨Γ1, hg, ht⟩ := h i _ ha
        have hri : rows[i]? = some rows[i] := List.getElem?_eq_getElem (by omega)
        have ht := ht _ hri
        have e2 := e.ext ((e1.trans E).trans E2)
        obtain ⟨A1, ew, s1⟩ := e2.wipe vs
        have hDne : H' D ≠ none := by rw [hHD]; exact fun z => nomatch z
        have hww : L2.wipe (L2.wipe σ vs) vs = L2.wipe σ vs := by
          apply List.ext_getElem?
          intro j
          rw [wipe_get, wipe_length, wipe_get]
          by_cases d : j ∈ vs ∧ j < σ.length
          · rw [if_pos d, if_pos d]
          · rw [if_neg d, if_neg d]
        refine hw x σ _ H2 _ hww (hg Hf2 H2 _ A1 ew x px _ fun σ2 A2 e3 s2 => ?_)
        unfold tYes
        dsimp only
        refine iteT ?_
        refine ht Hf2 H2 σ2 A2 e3 _ fun v Hf3 H3 B e4 hB ⟨r, ws, ev, eB, hfr3, hr3, pw⟩ => ?_
        subst ev eB
        have hr2 : H2 r = none := hB r (by simp)
        have hrH' : H' r = none := E2.h.free hr2
        have hr1 : H1 r = none := E.h.free hrH'
        have E5 := E2.trans e4
        have hlive : ∀ a ∈ rs, H' a ≠ none ∧ Hf' a = none := fun a hm => by
          have := (OO (rows.take i)).fr (Hf := Hf') (H := H') (v := .ref D) (A := D :: rs) ⟨D, rs, rfl, rfl, hnd, hfD, hHD, prs⟩ a (List.mem_cons_of_mem _ hm)
          exact ⟨this.2, this.1⟩
        have hrD : r ≠ D := fun z => hDne (by rw [← z]; exact hrH')
        have hrrs : r ∉ rs := fun z => (hlive r z).1 hrH'
        have hfD3 := E5.n D hDne hfD
        have hHD3 := E5.h _ _ hHD
        have keep : ∀ a ∈ rs, H3 a = H' a := fun a hm => by
          cases z : H' a with
          | none => exact absurd z (hlive a hm).1
          | some o => exact E5.h a o z
        have prs3 : Paired (RowOk Hf3 H3) rs (rows.take i) := rows_mono prs E5.f (fun a hm => E5.n a (hlive a hm).1 (hlive a hm).2) keep
        have hlen : rs.length ≤ i := by
          rw [Paired.length prs, List.length_take]
          exact Nat.min_le_left _ _
        refine ⟨rs.map V.ref, hHD3, by rw [List.length_map]; exact Nat.lt_of_le_of_lt hlen (by rw [sizeLine_eq]; omega), Hf3, rs ++ [r], ⟨(E.trans E5).f, fun a o ha => ?_, fun a o ha => ?_, (E.trans E5).n⟩, hfD3, ?_, ?_, ?_, ?_⟩
        · rw [upd_ne (ne_of_none ha hD)]
          exact (E.trans E5).h a o ha
        · rw [upd_ne (ne_of_none ha hfD3)]
          exact e4.z a o ha
        · rw [upd_same, List.map_append]; rfl
        · rw [← List.cons_append, List.nodup_append]
          exact ⟨hnd, by simp, fun a ha b hb => by
            obtain rfl : b = r := by simpa using hb
            rintro rfl
            rcases List.mem_cons.mp ha with z | z
            · exact hrD z
            · exact hrrs z⟩
        · intro a hm
          rcases List.mem_append.mp hm with z | z
          · exact hfr a z
          · obtain rfl : a = r := by simpa using z
            exact hr1
        · rw [List.take_add_one, hri]
          have p1 : Paired (RowOk Hf3 (upd H3 D (.lst (rs.map V.ref ++ [.ref r])))) rs (rows.take i) := rows_mono prs3 (.refl _) (fun a hm => E5.n a (hlive a hm).1 (hlive a hm).2) fun a hm => upd_ne fun z => (List.nodup_cons.mp hnd).1 (by rw [← z]; exact hm)
          exact Paired.snoc p1 ⟨hfr3, ws, by rw [upd_ne hrD]; exact hr3, pw⟩
      · left
        refine ⟨hJi.2 (by omega), ?_⟩
        rw [List.take_of_length_le (by omega)] at prs
        refine q _ Hf' H' (D :: rs) (e1.trans E) (fun a ha => ?_) ⟨D, rs, rfl, rfl, hnd, hfD, hHD, prs⟩
        rcases List.mem_cons.mp ha with rfl | hm
        · exact hDH
        · exact e1.h.free (hfr a hm)
/-- all of it stays from now on -/
theorem fix_rows {Hf H : Hp} : ∀ {rs : List Addr} {rows : List (List As)}, Same Hf H → rs.Nodup → Paired (RowOk Hf H) rs rows → ∃ Hf', Same Hf Hf' ∧ Same Hf' H ∧ (∀ a, a ∉ rs → Hf' a = Hf a) ∧ Pa Hf' (rs.map V.ref) (rows.map LsA)
  | _, _, z, _, .nil => ⟨Hf, .refl _, z, fun _ _ => rfl, .nil⟩
  | r :: rs, row :: rows, z, nd, .cons h q => by
    obtain ⟨Hf', s1, s2, k, p⟩ := fix_rows z (List.nodup_cons.mp nd).2 q
    obtain ⟨h1, vs, h2, h3⟩ := h
    have hr : Hf' r = none := by rw [k r (List.nodup_cons.mp nd).1]; exact h1
    obtain ⟨f1, f2⟩ := fix1 s2 hr h2
    refine ⟨upd Hf' r (.lst vs), s1.trans f1, f2, fun a ha => ?_, .cons ⟨r, vs, rfl, upd_same, pa_mono (s1.trans f1) h3⟩ (pa_mono f1 p)⟩
    rw [upd_ne (fun z => ha (by rw [z]; simp)), k a (fun z => ha (List.mem_cons_of_mem _ z))]
theorem fix_OO {Hf H : Hp} {v : V} {A : List Addr} {rows : List (List As)} (z : Same Hf H) (h : (OO rows).p Hf H v A) : ∃ Hf', Same Hf Hf' ∧ Same Hf' H ∧ (∀ a, a ∉ A → Hf' a = Hf a) ∧ (LsA (rows.map LsA)).p Hf' v := by
  obtain ⟨p, rs, rfl, rfl, nd, hf, hh, hp⟩ := h
  obtain ⟨Hf', s1, s2, k, pa⟩ := fix_rows z (List.nodup_cons.mp nd).2 hp
  have hp' : Hf' p = none := by rw [k p (List.nodup_cons.mp nd).1]; exact hf
  obtain ⟨f1, f2⟩ := fix1 s2 hp' hh
  refine ⟨upd Hf' p (.lst (rs.map V.ref)), s1.trans f1, f2, fun a ha => ?_, p, rs.map V.ref, rfl, upd_same, pa_mono f1 pa⟩
  rw [upd_ne (fun z => ha (by rw [z]; simp)), k a (fun z => ha (List.mem_cons_of_mem _ z))]
theorem ev_fixOO {rows : List (List As)} (h : EvW te Γ (OO rows)) : EvA te Γ (LsA (rows.map LsA)) := fun Hf H σ A e Q q => h Hf H σ A e Q fun v Hf' H' B e1 hB pv => by
  obtain ⟨Hf2, s1, s2, k, pl⟩ := fix_OO e1.z pv
  refine q v Hf2 H' ⟨e1.f.trans s1, e1.h, s2, fun a ha hn => ?_⟩ pl
  rw [k a (fun hm => ha (hB a hm))]
  exact e1.n a ha hn
/-- a tray of one's own -/
def OT (K : PySem.W.Frag) (t : List (List Int)) : Ow := OO (t.map fun r => r.map fun i => Dt K (.int i))
theorem lsA_mono {as bs : List As} (h : ∀ H vs, Pa H vs as → Pa H vs bs) : (LsA as).le (LsA bs) := fun H v ⟨p, vs, e, hp, pv⟩ => ⟨p, vs, e, hp, h H vs pv⟩
theorem row_le {r : List Int} : (LsA (r.map fun i => Dt K (.int i))).le (Dt K (DI r)) := fun H v h => lsA_le _ _ (by rw [List.map_map]; exact h)
theorem tray_pa {H : Hp} : ∀ (t : List (List Int)) (vs : List V), Pa H vs ((t.map fun r => r.map fun i => Dt K (.int i)).map LsA) → DqAll K H vs (t.map DI)
  | [], _, .nil => .nil
  | _ :: t, _, .cons h q => .cons (row_le _ _ h) (tray_pa t _ q)
theorem tray_le {t : List (List Int)} : (LsA ((t.map fun r => r.map fun i => Dt K (.int i)).map LsA)).le (Dt K (DT t)) := fun H v ⟨p, vs, e, hp, pv⟩ => by
  subst e
  exact .lst hp (tray_pa t vs pv)
theorem ev_fixOT {t : List (List Int)} (h : EvW te Γ (OT K t)) : EvA te Γ (Dt K (DT t)) := (ev_fixOO h).le tray_le
theorem st_fixOT {Hf H : Hp} {σ : L2.St} {i : Nat} {tr : List (List Int)} (s : StOk c Hf H σ Γ) (h : Γ[i]? = some (.ow (OT K tr))) (hW : c.W = []) : ∃ Hf', StOk c Hf' H σ (Γ.set i (.as (Dt K (DT tr)))) := by
  obtain ⟨A, e, ha⟩ := s.e
  have hil : i < Γ.length := (List.getElem?_eq_some_iff.mp h).1
  obtain ⟨v, ev, pv⟩ := e.ow h
  obtain ⟨Hf', f1, f2, k, pl⟩ := fix_OO s.b.z pv
  have hcp : ∀ a ∈ A i, c.h a = none := fun a hm => (ha i a hm).elim id fun z => by rw [hW] at z; cases z
  refine ⟨Hf', ⟨s.b.f.trans f1, s.b.h, fun a h1 h2 => ?_, s.b.k, f2⟩, atN A i [], ⟨f2, by rw [e.len, List.length_set], fun j t ht => ?_, fun j k n a hj hk => ?_, fun j hj => ?_⟩, fun j a hj => ?_⟩
  · rw [k a (fun hm => h1 (hcp a hm))]; exact s.b.n a h1 h2
  · by_cases cj : i = j
    · subst cj
      rw [List.getElem?_set_self hil] at ht
      obtain rfl := Option.some.inj ht
      show SlOk _ _ _ (if i = i then [] else A i) _
      rw [if_pos rfl]
      refine ⟨rfl, v, ?_, tray_le _ _ pl⟩
      rw [List.getD_eq_getElem?_getD, ev]; rfl
    · rw [List.getElem?_set_ne cj] at ht
      show SlOk _ _ _ (if j = i then [] else A j) _
      rw [if_neg (fun z => cj z.symm)]
      have k3 := e.ok j t ht
      cases t with
      | un => exact k3
      | as a => obtain ⟨h1, v, h2, h3⟩ := k3; exact ⟨h1, v, h2, a.mono f1 h3⟩
      | ow w3 =>
        obtain ⟨v3, ev3, p3⟩ := k3
        have fr3 := w3.fr p3
        refine ⟨v3, ev3, w3.mono p3 f1 (fun a ha => ?_) fun _ _ => rfl⟩
        rw [k a (fun hm => e.dj i j cj a hm ha)]; exact (fr3 a ha).1
  · have hj' : a ∈ (if j = i then [] else A j) := hj
    have hk' : a ∈ (if k = i then [] else A k) := hk
    by_cases c1 : j = i
    · rw [if_pos c1] at hj'; cases hj'
    · rw [if_neg c1] at hj'
      by_cases c2 : k = i
      · rw [if_pos c2] at hk'; cases hk'
      · rw [if_neg c2] at hk'; exact e.dj j k n a hj' hk'
  · rw [List.length_set] at hj
    show (if j = i then [] else A j) = []
    rw [if_neg (by omega)]; exact e.out j hj
  · have hj' : a ∈ (if j = i then [] else A j) := hj
    by_cases c1 : j = i
    · rw [if_pos c1] at hj'; cases hj'
    · rw [if_neg c1] at hj'; exact ha j a hj'
theorem rn_fixOT {i : Nat} {tr : List (List Int)} (h : Γ[i]? = some (.ow (OT K tr))) (n : Rn c t (Γ.set i (.as (Dt K (DT tr)))) k) (hW : c.W = [] := by rfl) : Rn c t Γ k := fun D σ H Hf s q => by
  obtain ⟨Hf', s'⟩ := st_fixOT s h hW
  exact n D σ H Hf' s' q
theorem rows_set {Hf H H' : Hp} : ∀ {rs : List Addr} {rows : List (List As)} {i : Nat} {r : Addr} {row : List As}, Paired (RowOk Hf H) rs rows → rs.Nodup → rs[i]? = some r → RowOk Hf H' r row → (∀ a ∈ rs, a ≠ r → H' a = H a) → Paired (RowOk Hf H') rs (rows.set i row)
  | _, _, i, _, _, .nil, _, e, _, _ => by simp at e
  | a :: rs, x :: rows, 0, r, row, .cons h q, nd, e, hr, k => by
    obtain rfl := Option.some.inj e
    refine .cons hr (rows_mono q (.refl _) (fun b hb => ?_) fun b hb => k b (List.mem_cons_of_mem _ hb) (fun z => (List.nodup_cons.mp nd).1 (by rw [← z]; exact hb)))
    obtain ⟨j, hj⟩ := List.getElem?_of_mem hb
    have hl := Paired.length q
    obtain ⟨hjl, _⟩ := List.getElem?_eq_some_iff.mp hj
    obtain ⟨r', hr', ok⟩ := rows_get q (List.getElem?_eq_getElem (l := rows) (i := j) (by omega))
    rw [hj] at hr'
    obtain rfl := Option.some.inj hr'
    exact ok.1
  | a :: rs, x :: rows, i + 1, r, row, .cons h q, nd, e, hr, k => by
    have hm : r ∈ rs := List.mem_of_getElem? e
    have hne : a ≠ r := fun z => (List.nodup_cons.mp nd).1 (by rw [z]; exact hm)
    obtain ⟨h1, vs, h2, h3⟩ := h
    exact .cons ⟨h1, vs, (k a (by simp) hne).trans h2, h3⟩ (rows_set q (List.nodup_cons.mp nd).2 e hr fun b hb => k b (List.mem_cons_of_mem _ hb))
theorem pa_set {H : Hp} : ∀ {vs : List V} {as : List As} {j : Nat} {v : V} {a : As}, Pa H vs as → a.p H v → Pa H (vs.set j v) (as.set j a)
  | _, _, _, _, _, .nil, _ => .nil
  | _, _, 0, _, _, .cons h q, p => .cons p q
  | _, _, j + 1, _, _, .cons h q, p => .cons h (pa_set q p)
theorem ixN_of {n : Nat} {i : Int} {j : Nat} (h : i = (j : Int)) (hj : j < n) : ixN n i = some j := by
  unfold ixN
  rw [if_pos (by omega), if_pos (by omega)]
  congr 1
  omega
/-- x[a][b] = e on a tray of one's own -/
theorem rn_setOT {i : Nat} {tr : List (List Int)} {ti tj : TE} {a b z : Int} {m n : Nat} {row : List Int} (hi : Γ[i]? = some (.ow (OT K tr))) (he : EvA te Γ (Dt K (.int z))) (ha : EvA ti Γ (Dt K (.int a))) (hb : EvA tj Γ (Dt K (.int b))) (ea : a = (m : Int)) (eb : b = (n : Int)) (hm : tr[m]? = some row) (hn : n < row.length)
    (nx : k.nx (Γ.set i (.ow (OT K (tr.set m (row.set n z)))))) : Rn c (tAsg te (gSub (tOp (rIxL K) (tVar i) ti) tj rSetL)) Γ k := fun D σ H Hf s q => by
  obtain ⟨A, e, hA⟩ := s.e
  refine he Hf H σ A e _ fun v Hf1 H1 e1 pv => ?_
  have en1 := e.ext e1
  obtain ⟨u, eu, pu⟩ := en1.ow hi
  obtain ⟨p, rs, rfl, eA, nd, hf, hh, hp⟩ := pu
  refine ⟨.ref p, eu, ha Hf1 H1 σ A en1 _ fun va Hf2 H2 e2 pa => ?_⟩
  cases dt_int pa
  have hrow : (tr.map fun r => r.map fun i => Dt K (.int i))[m]? = some (row.map fun i => Dt K (.int i)) := by rw [List.getElem?_map, hm]; rfl
  obtain ⟨r, hr, hok⟩ := rows_get hp hrow
  refine ⟨p, rs.map V.ref, a, .ref r, rfl, rfl, .inl (.inl (e2.h _ _ hh)), at_nat (by rw [List.getElem?_map, hr]; rfl) ea, hb Hf2 H2 σ A (en1.ext e2) _ fun vb Hf3 H3 e3 pb => ?_⟩
  cases dt_int pb
  have E := e2.trans e3
  have en3 := en1.ext E
  obtain ⟨_, ws, hw, pw⟩ := hok
  have hwl : ws.length = row.length := by rw [pa_len pw, List.length_map]
  refine ⟨r, ws, b, n, rfl, rfl, E.h _ _ hw, ixN_of eb (by omega), ?_⟩
  have live : ∀ a ∈ A i, H3 a = H1 a := fun a hm => by
    have := owned_live en1 hm
    cases z : H1 a with
    | none => exact absurd z this.1
    | some o => exact E.h a o z
  have frz : ∀ a ∈ A i, Hf3 a = none := fun a hm => E.n a (owned_live en1 hm).1 (owned_live en1 hm).2
  have hrs : r ∈ rs := List.mem_of_getElem? hr
  have hpr : p ≠ r := fun z => (List.nodup_cons.mp nd).1 (by rw [z]; exact hrs)
  refine q.nx _ nx _ _ Hf3 (st_turn ((s.b.ext e1).ext E) en3 hA hi eu (fun a hm => upd_ne fun z => hm (by rw [eA, z]; exact List.mem_cons_of_mem _ hrs)) (fun a hm => ?_) ?_)
  · by_cases z : a = r
    · rw [z, upd_same]; exact fun z => nomatch z
    · rw [upd_ne z, live a hm]; exact (owned_live en1 hm).1
  · refine ⟨p, rs, rfl, eA, nd, frz p (by rw [eA]; simp), ?_, ?_⟩
    · rw [upd_ne hpr, live p (by rw [eA]; simp)]; exact hh
    · have hp3 : Paired (RowOk Hf3 H3) rs (tr.map fun r => r.map fun i => Dt K (.int i)) := rows_mono hp E.f (fun a hm => frz a (by rw [eA]; exact List.mem_cons_of_mem _ hm)) fun a hm => live a (by rw [eA]; exact List.mem_cons_of_mem _ hm)
      have hs := rows_set (H' := upd H3 r (.lst (ws.set n v))) (row := (row.set n z).map fun i => Dt K (.int i)) hp3 (List.nodup_cons.mp nd).2 hr ⟨frz r (by rw [eA]; exact List.mem_cons_of_mem _ hrs), ws.set n v, upd_same, ?_⟩ (fun a _ hne => upd_ne hne)
      · rwa [show ((tr.map fun r => r.map fun i => Dt K (.int i)).set m ((row.set n z).map fun i => Dt K (.int i))) = ((tr.set m (row.set n z)).map fun r => r.map fun i => Dt K (.int i)) by simp only [List.map_set]] at hs
      · rw [List.map_set]
        exact pa_set (pa_mono E.f pw) (As.mono _ E.f pv)
theorem eb_isNoneO {i : Nat} {tr : List (List Int)} {tb : TE} (hi : Γ[i]? = some (.ow (OT K tr))) (hb : EvA tb Γ (Dt K .none)) : EvA (tOp rIsNone (tVar i) tb) Γ (Dt K (.bool false)) := fun Hf H σ A e Q q => by
  obtain ⟨v, ev, p, rs, rfl, _⟩ := e.ow hi
  refine ⟨_, ev, hb Hf H σ A e _ fun y Hf1 H1 e1 py => ⟨dt_non py, ?_⟩⟩
  exact q _ Hf1 H1 e1 (.bl _)
end
theorem eg_pair {K : PySem.W.Frag} {Γ Γ' : List Sl} {α β : Type} {f : α → PyData} {g : β → PyData} {p : α × β} {t : TGs} (h : EvGs t [Dt K (f p.1), Dt K (g p.2)] Γ Γ') : EvG (gTup K 2 t) (Dt K (PairD f g p)) Γ Γ' := eg_tup (ds := [f p.1, g p.2]) h rfl
theorem wipeG_len (Γ : List Sl) : ∀ vs : List Nat, (wipeG Γ vs).length = Γ.length
  | [] => rfl
  | v :: vs => by unfold wipeG; rw [List.length_set, wipeG_len Γ vs]
/-- [list(r) for r in t] -/
theorem ew_copyT {K : PySem.W.Frag} {Γ : List Sl} {tl : TE} {t : List (List Int)} {j : Nat} {vs : List Nat} (h : EvA tl Γ (Dt K (DT t))) (hj : j ∈ vs) (hl : j < Γ.length) (hz : t.length ≤ 10000000) : EvW (tLc (iList K tl) (gName j) tYes (tCB (rListOf K) (tCons (tVar j) tNil)) vs) Γ (OT K t) := by
  refine ew_lcOO (t.map fun r => r.map fun i => Dt K (.int i)) (gw_name hj) (ei_listD (ds := t.map DI) h) (by simp) (by simpa using hz) fun i a ha => ⟨_, eg_name, fun y hy => ?_⟩
  rw [List.getElem?_map, List.getElem?_map] at ha
  rw [List.getElem?_map] at hy
  cases ht : t[i]? with
  | none => rw [ht] at ha; cases ha
  | some r =>
    rw [ht] at ha hy
    obtain rfl := Option.some.inj ha
    obtain rfl := Option.some.inj hy
    have e : (r.map fun i => Dt K (.int i)) = (r.map PyData.int).map (Dt K) := by rw [List.map_map]; rfl
    show EvW _ _ (OL (r.map fun i => Dt K (.int i)))
    rw [e]
    exact ew_listD (el_dt (ev_var (List.getElem?_set_self (by rw [wipeG_len]; exact hl))))
end DL

namespace DL
open PySem PySem.Spec L2
open PyProof.Rows hiding St

section
variable {X : Cx}
/-- s[::-1] of a text -/
def tRevS (te : TE) : TE := fun σ H Q => te σ H fun x H1 => ∃ z : Str, x = .str z ∧ z.length ≤ sizeLine ∧ Q (.str (SX.S z.cps.toList.reverse)) H1
theorem sliceBy_rev (z : Str) (u : Tok) : (Txt.sliceBy z none none (-1, u)) = SX.S z.cps.toList.reverse := by
  refine TL.ext_tl ?_
  show (Txt.sliceBy z none none (-1, u)).cps.toList = (SX.S z.cps.toList.reverse).cps.toList
  rw [PyProof.Rows.step_rev_list]
  show _ = z.cps.toList.reverse
  apply List.ext_getElem?
  intro i
  have hl : z.length = z.cps.toList.length := by simp [Str.length]
  by_cases h : i < z.length
  · rw [List.getElem?_map, List.getElem?_range h, List.getElem?_reverse (by omega)]
    show some _ = _
    rw [← hl]
    rw [Array.getElem?_toList]
    simp [Array.getD, show z.length - 1 - i < z.cps.size by show z.length - 1 - i < z.length; omega]
  · have e : z.length = z.cps.size := rfl
    rw [List.getElem?_eq_none (by simp; omega), List.getElem?_eq_none (by simp; omega)]
theorem pe_revS {e : Expr} {te : TE} {k : Nat} {p1 p2 p3 pos : Pos} (he : PE X e te) : PE X (.Subscript e (.Slice none none (some (.UnaryOp .USub (.Constant (.int 1) k p1) p2)) p3) pos) (tRevS te) := by
  refine ⟨fun pins s σ H Q I h => ?_⟩
  refine Subscript_ (thn (he.run pins s σ H _ I h) fun v s1 ⟨x, H1, I1, r1, q1⟩ => ?_)
  obtain ⟨z, ex, hz, q⟩ := q1
  subst ex
  obtain ⟨t, rfl⟩ := r1
  have hst : PO X (some (.UnaryOp .USub (.Constant (.int 1) k p1) p2)) (tPart (tUn (rU fun i => .int (-i)) (tC (.int 1)))) := po_some (pe_un un_neg pe_int)
  refine wpAny_Slice (thn (po_none.run pins s1 σ H1 (fun o H2 => o = none ∧ H2 = H1) I1 ⟨rfl, rfl⟩) fun vl s2 ⟨l, H2, I2, pl, el, e2⟩ => ?_)
  subst el e2
  refine thn (po_none.run pins s2 σ H2 (fun o H3 => o = none ∧ H3 = H2) I2 ⟨rfl, rfl⟩) fun vu s3 ⟨u, H3, I3, pu, eu, e3⟩ => ?_
  subst eu e3
  refine thn (hst.run pins s3 σ H3 (fun o H4 => o = some (-1) ∧ H4 = H3) I3 ⟨1, rfl, -1, rfl, rfl, rfl⟩) fun vs s4 ⟨o, H4, I4, ps, eo, e4⟩ => ?_
  subst eo e4
  have I5 : Inv X pins σ H4 { s4 with heap := s4.heap.push { cls := .type "slice", data := .fields #[vl, vu, vs] } } := I4.kept (t' := s4.toks) fun b ob q => Heap.get?_push_of_some _ q
  cases pl
  cases pu
  cases ps with
  | int _ ut =>
  refine tail_any (ops := [.str z t, .ref s4.heap.objs.size]) (typeIs_str _ _ _) (F.slot_str_getitem.lookup) ?_ (by with_unfolding_all rfl)
  refine wpAny_getItem_str_slice (l := none) (u := none) (st := some (-1, ut)) ⟨_, Heap.get?_push_size _ rfl, rfl, rfl⟩ rfl ?_
  have hq : Q (.str (Txt.sliceBy z none none (-1, ut))) H4 := by rw [sliceBy_rev]; exact q
  have hl : (Txt.sliceBy z none none (-1, ut)).length ≤ sizeLine := by rw [PyProof.Rows.step_rev_len]; exact hz
  exact ⟨hl, .str _, H4, I5.tok _, ⟨_, rfl⟩, hq⟩
def rJoin (K : PySem.W.Frag) : V → List V → Hp → VK → Prop := fun x xs H Q => ∃ a p, ∃ ys : List Str, x = .str a ∧ xs = [.ref p] ∧ (SqL K H p (ys.map V.str) ∨ SqT K H p (ys.map V.str)) ∧ (ys.map (·.length)).sum + ys.length * a.length ≤ 16777216 ∧ Q (.str (Txt.join a ys)) H
theorem pe_joinK (K : PySem.W.Frag) {o e : Expr} {to te : TE} {apos pos : Pos} (ho : PE X o to) (he : PE X e te) (hK : X.K = K := by rfl) (hs : starEach [e] X.env = [(false, eval e X.env)] := by rfl) (hbase : attributeBase o "join" X.env (eval o X.env) = eval o X.env := by rfl) (hline : (apos.endLine == pos.line) = true := by rfl) :
    PE X (.Call (.Attribute o "join" apos) [e] [] pos) (tM1 (rJoin K) to te) := by subst hK; exact pe_join ho he hs hbase hline
/-- products of whole numbers, great ones too -/
theorem op_mulB : OpR X (binaryOp .Mult) (rI IntMulOk fun i j => .int (i * j)) := opI fun _ _ _ _ _ _ _ hc q => mul_int q hc
theorem mulOk {i j : Int} {a b : Nat} (ha : i.natAbs < 2 ^ a) (hb : j.natAbs < 2 ^ b) (h0 : 0 < a) (h1 : 0 < b) (h : a + b ≤ 100000000) : IntMulOk i j := by
  have x := PySem.Flt.log2_lt_of h0 ha
  have y := PySem.Flt.log2_lt_of h1 hb
  have bd : ∀ x : Int, Builtin.Int.intBits x ≤ x.natAbs.log2 + 1 := fun x => by
    unfold Builtin.Int.intBits
    split <;> omega
  have h1 := bd i
  have h2 := bd j
  have e : bitsLine = 134217728 := by decide
  unfold IntMulOk
  intro z
  rw [Bool.and_eq_true] at z
  have z2 := z.2
  unfold Builtin.Int.intTooBig at z2
  have z3 := of_decide_eq_true z2
  rw [e] at z3
  omega
end
section
variable {K : PySem.W.Frag} {Γ : List Sl} {ta tb te to : TE} {a b : As}
theorem ev_revS {x : Str} (h : EvA te Γ (Dt K (.str x))) (hl : x.length ≤ sizeLine) : EvA (tRevS te) Γ (Dt K (DS x.cps.toList.reverse)) := fun Hf H σ A e Q q =>
  h Hf H σ A e _ fun v Hf1 H1 e1 pv => by
    cases dt_str pv
    exact ⟨x, rfl, hl, q _ Hf1 H1 e1 (.str _)⟩
theorem joinL_nil : ∀ ls : List (List Nat), TL.joinL [] ls = ls.flatten := by
  intro ls
  induction ls with
  | nil => rfl
  | cons p ls ih =>
    cases ls with
    | nil => simp [TL.joinL]
    | cons q r =>
      show p ++ ([] ++ TL.joinL [] (q :: r)) = _
      rw [ih, List.nil_append]; simp
theorem ev_join {ls : List (List Nat)} (ho : EvA to Γ (Dt K (.str (SX.S [])))) (h : EvL te Γ ((ls.map DS).map (Dt K))) (hl : ls.flatten.length ≤ 1000000) : EvA (tM1 (rJoin K) to te) Γ (Dt K (DS ls.flatten)) := fun Hf H σ A e Q q =>
  ho Hf H σ A e _ fun v Hf1 H1 e1 pv => by
    cases dt_str pv
    refine ⟨⟨_, rfl⟩, h Hf1 H1 σ A (e.ext e1) _ fun p vs Hf2 H2 e2 hp pvs => ?_⟩
    have hv : vs = (ls.map SX.S).map V.str := by
      clear hp hl q h
      induction ls generalizing vs with
      | nil => cases pvs; rfl
      | cons n ns ih => cases pvs with | cons h q => rw [List.map_cons, List.map_cons, dt_str h, ih _ q]
    subst hv
    refine ⟨_, p, ls.map SX.S, rfl, rfl, .inl (.inl (.inl hp)), ?_, ?_⟩
    · rw [SX.lens, SX.S_len, List.length_nil, Nat.mul_zero, Nat.add_zero, ← List.length_flatten]; omega
    · rw [SX.join_S, joinL_nil]
      exact q _ Hf2 H2 (e1.trans e2) (.str _)
/-- isinstance of data -/
def isT : PyData → String → Bool
  | .none, _ => false
  | .bool _, t => t == "bool" || t == "int"
  | .int _, t => t == "int"
  | .str _, t => t == "str"
  | .list _, t => t == "list"
  | .tuple _, t => t == "tuple"
  | .dict _, t => t == "dict"
theorem kit_isT (d : PyData) {T : String} (h : T = "int" ∨ T = "bool" ∨ T = "str" ∨ T = "list" ∨ T = "tuple") : kitB (tyN d) T = some (isT d T) := by
  rcases h with rfl | rfl | rfl | rfl | rfl <;> cases d <;> (first | rfl | decide +kernel | (show kitB _ _ = some _; decide +kernel))
theorem ev_isT {d : PyData} {T : String} (ha : EvA ta Γ (Dt K d)) (hT : T = "int" ∨ T = "bool" ∨ T = "str" ∨ T = "list" ∨ T = "tuple") : EvA (tCB (rIsi K) (tCons ta (tCons (tC (.ty T)) tNil))) Γ (Dt K (.bool (isT d T))) :=
  ev_isi ha ev_ct (kit_isT d hT)
theorem ev_all {bs : List Bool} (h : EvL te Γ ((bs.map PyData.bool).map (Dt K))) : EvA (tCB (rAll K) (tCons te tNil)) Γ (Dt K (.bool (bs.all id))) := fun Hf H σ A e Q q =>
  h Hf H σ A e _ fun p vs Hf1 H1 e1 hp pv => by
    have hv : vs = bs.map V.bl := by
      clear hp q h
      induction bs generalizing vs with
      | nil => cases pv; rfl
      | cons n ns ih => cases pv with | cons h q => rw [List.map_cons, dt_bl h, ih _ q]
    subst hv
    exact ⟨p, bs, rfl, .inl (.inl hp), q _ Hf1 H1 e1 (.bl _)⟩
theorem pa_ints {H : Hp} : ∀ {ns : List Int} {vs : List V}, Pa H vs ((ns.map PyData.int).map (Dt K)) → vs = ns.map V.int
  | [], _, .nil => rfl
  | _ :: _, _, .cons h q => by rw [List.map_cons, dt_int h, pa_ints q]
theorem ints_pa {H : Hp} : ∀ (ns : List Int), Pa H (ns.map V.int) ((ns.map PyData.int).map (Dt K))
  | [] => .nil
  | _ :: ns => .cons (.int _) (ints_pa ns)
theorem ew_sorted {ns ns0 : List Int} (h : EvL te Γ ((ns.map PyData.int).map (Dt K))) (hl : ns.length < 64) (hp : ns0.Perm ns) (hs : ns0.Pairwise (· ≤ ·)) : EvW (tCB (rSorted K) (tCons te tNil)) Γ (OL ((ns0.map PyData.int).map (Dt K))) := fun Hf H σ A e Q q =>
  h Hf H σ A e _ fun p vs Hf1 H1 e1 hpv pv => by
    have hv := pa_ints pv
    subst hv
    refine ⟨p, ns, rfl, .inl (.inl hpv), hl, fun ns' l hp' hs' hl' => ?_⟩
    have e0 : ns' = ns0 := (hp'.trans hp.symm).eq_of_pairwise (fun x y _ _ h1 h2 => Int.le_antisymm h1 h2) hs' hs
    subst e0
    exact q _ Hf1 _ [l] (e1.trans (.loose e1.z hl')) (fun a ha => by
      obtain rfl : a = l := by simpa using ha
      exact e1.h.free hl') ⟨l, _, rfl, rfl, e1.z.free hl', upd_same, ints_pa _⟩
theorem ew_listRg {n : Int} (h : EvA ta Γ (Dt K (.int n))) (hn : 0 ≤ n ∧ n ≤ 1000000) : EvW (tLstRg (tRg1 ta)) Γ (OL ((((List.range n.toNat).map fun i => ((i : Nat) : Int)).map PyData.int).map (Dt K))) := fun Hf H σ A e Q q =>
  h Hf H σ A e _ fun v Hf1 H1 e1 pv => by
    cases dt_int pv
    refine ⟨n, rfl, RgOk.of_le (by omega) (by omega) (by omega) (by omega), fun l hl => ?_⟩
    have er : rgV 0 n = (((List.range n.toNat).map fun i => ((i : Nat) : Int))).map V.int := by
      unfold rgV
      rw [List.map_map, Int.sub_zero]
      apply List.map_congr_left
      intro i _
      show V.int (0 + _) = V.int _
      rw [Int.zero_add]
    rw [er]
    exact q _ Hf1 _ [l] (e1.trans (.loose e1.z hl)) (fun a ha => by
      obtain rfl : a = l := by simpa using ha
      exact e1.h.free hl) ⟨l, _, rfl, rfl, e1.z.free hl, upd_same, ints_pa _⟩
end
end DL

namespace DL
open PySem PySem.Spec L2
open PyProof.Rows hiding St

/-! ### displayed dicts that stay -/
def keyD : Key → PyData
  | .inl i => .int i
  | .inr x => .str x
theorem dq_key {K : PySem.W.Frag} {H : Hp} {v : V} : ∀ {k : Key}, Dq K H v (keyD k) → v = kV k
  | .inl i, h => dt_int h
  | .inr x, h => dt_str h
def KaOk (H : Hp) (kv : Key × V) (ka : Key × As) : Prop := kv.1 = ka.1 ∧ ka.2.p H kv.2
theorem ka_mono {H H' : Hp} (e : Same H H') : ∀ {kvs : List (Key × V)} {kas : List (Key × As)}, Paired (KaOk H) kvs kas → Paired (KaOk H') kvs kas
  | _, _, .nil => .nil
  | _, _, .cons h q => .cons ⟨h.1, As.mono _ e h.2⟩ (ka_mono e q)
def DkA (kas : List (Key × As)) : As := ⟨fun H v => ∃ p kvs, v = .ref p ∧ H p = some (.dK kvs) ∧ Paired (KaOk H) kvs kas, fun e ⟨p, kvs, a, b, c⟩ => ⟨p, kvs, a, e _ _ b, ka_mono e c⟩⟩
def EvP (K : PySem.W.Frag) (trs : List (TE × TE)) (Γ : List Sl) (kas : List (Key × As)) : Prop := ∀ Hf H σ A, Env Hf H σ Γ A → ∀ Q : List (V × V) → Hp → Prop,
  (∀ (kvs : List (Key × V)) Hf' H', Ext Hf H Hf' H' → Paired (KaOk Hf') kvs kas → Q (kvs.map fun kv => (kV kv.1, kv.2)) H') → tPairs trs σ H Q
theorem merge_new : ∀ (more acc : List (Key × V)), (more.map (·.1)).Nodup → (∀ k ∈ more.map (·.1), k ∉ acc.map (·.1)) → mergeK acc more = acc ++ more
  | [], acc, _, _ => by simp [mergeK]
  | kv :: more, acc, nd, hd => by
    have hp : putK acc kv.1 kv.2 = acc ++ [kv] := by
      unfold putK
      rw [if_neg]
      intro h
      obtain ⟨x, hx, e⟩ := List.any_eq_true.mp h
      have e := of_decide_eq_true e
      exact hd kv.1 (by simp) (by rw [← e]; exact List.mem_map.mpr ⟨x, hx, rfl⟩)
    have ih := merge_new more (acc ++ [kv]) (List.nodup_cons.mp nd).2 (fun k hk h => by
      rw [List.map_append] at h
      rcases List.mem_append.mp h with h | h
      · exact hd k (List.mem_cons_of_mem _ hk) h
      · obtain rfl : k = kv.1 := by simpa using h
        exact (List.nodup_cons.mp nd).1 hk)
    show mergeK (putK acc kv.1 kv.2) more = _
    rw [hp, ih, List.append_assoc]; rfl
theorem ka_keys {H : Hp} : ∀ {kvs : List (Key × V)} {kas : List (Key × As)}, Paired (KaOk H) kvs kas → kvs.map (·.1) = kas.map (·.1)
  | _, _, .nil => rfl
  | _, _, .cons h q => by rw [List.map_cons, List.map_cons, h.1, ka_keys q]
theorem ka_find {H : Hp} {k : Key} : ∀ {kvs : List (Key × V)} {kas : List (Key × As)}, Paired (KaOk H) kvs kas →
    (∀ a, (kas.find? fun ka => decide (ka.1 = k)).map (·.2) = some a → ∃ v, valV kvs k = some v ∧ a.p H v) ∧ ((kas.find? fun ka => decide (ka.1 = k)).map (·.2) = none → valV kvs k = none)
  | _, _, .nil => ⟨fun a h => by simp at h, fun _ => rfl⟩
  | kv :: _, ka :: _, .cons h q => by
    have ih := ka_find (k := k) q
    unfold valV at ih ⊢
    by_cases c : ka.1 = k
    · have c2 : kv.1 = k := h.1.trans c
      simp only [List.find?_cons, c, c2, decide_true, Option.map_some]
      exact ⟨fun a e => ⟨_, rfl, by obtain rfl := Option.some.inj e; exact h.2⟩, fun e => nomatch e⟩
    · have c2 : ¬ kv.1 = k := fun z => c (h.1.symm.trans z)
      simp only [List.find?_cons, c, c2, decide_false]
      exact ih
section
variable {K : PySem.W.Frag} {Γ : List Sl} {tk tv td ty tx : TE} {trs : List (TE × TE)} {a b : As} {kas : List (Key × As)}
theorem ep_nil : EvP K [] Γ [] := fun Hf H σ A e Q q => q [] Hf H (.refl e.z) .nil
theorem ep_cons {k : Key} (hk : EvA tk Γ (Dt K (keyD k))) (hv : EvA tv Γ a) (hr : EvP K trs Γ kas) : EvP K ((tk, tv) :: trs) Γ ((k, a) :: kas) := fun Hf H σ A e Q q =>
  hk Hf H σ A e _ fun x Hf1 H1 e1 px => hv Hf1 H1 σ A (e.ext e1) _ fun y Hf2 H2 e2 py => hr Hf2 H2 σ A (e.ext (e1.trans e2)) _ fun kvs Hf3 H3 e3 pk => by
    obtain rfl := dq_key px
    exact q ((k, y) :: kvs) Hf3 H3 ((e1.trans e2).trans e3) (.cons ⟨rfl, a.mono e3.f py⟩ pk)
theorem ev_disp (h : EvP K trs Γ kas) (hl : kas.length ≤ 15) (nd : (kas.map (·.1)).Nodup) : EvA (tDisp trs) Γ (DkA kas) := fun Hf H σ A e Q q p hp => by
  have E0 : Ext Hf H Hf (upd H p (.dK [])) := .loose e.z hp
  refine h Hf _ σ A (e.ext E0) _ fun kvs Hf1 H1 e1 pk => ⟨e1.h _ _ upd_same, kvs, rfl, by rw [Paired.length pk]; exact hl, ?_⟩
  have hfp : Hf p = none := e.z.free hp
  have hf1 : Hf1 p = none := e1.n p (by rw [upd_same]; exact fun z => nomatch z) hfp
  rw [merge_new kvs [] (by rw [ka_keys pk]; exact nd) (fun _ _ h => nomatch h), List.nil_append]
  have E1 : Ext Hf H Hf1 (upd H1 p (.dK kvs)) := ⟨e1.f, fun a o ha => by
      have hne := ne_of_none ha hp
      rw [upd_ne hne]
      exact e1.h a o (by rw [upd_ne hne]; exact ha), fun a o ha => by rw [upd_ne (ne_of_none ha hf1)]; exact e1.z a o ha, fun a ha hn => by
      have hne : a ≠ p := fun z => ha (by rw [z]; exact hp)
      exact e1.n a (by rw [upd_ne hne]; exact ha) hn⟩
  exact q _ _ _ (E1.fix hp hf1 upd_same) ⟨p, kvs, rfl, upd_same, ka_mono (fix1 E1.z hf1 upd_same).1 pk⟩
/-- d.get(k, x) -/
theorem ev_dget2 {k : Key} {z : As} (hd : EvA td Γ (DkA kas)) (hy : EvA ty Γ (Dt K (keyD k))) (hx : EvA tx Γ b)
    (h1 : ∀ a, (kas.find? fun ka => decide (ka.1 = k)).map (·.2) = some a → a.le z) (h2 : (kas.find? fun ka => decide (ka.1 = k)).map (·.2) = none → b.le z) : EvA (tDGet2 td ty tx) Γ z := fun Hf H σ A e Q q =>
  hd Hf H σ A e _ fun x Hf1 H1 e1 ⟨p, kvs, ev, hp, pk⟩ => by
    subst ev
    refine ⟨p, rfl, .inl ⟨kvs, .inl (e1.z _ _ hp)⟩, hy Hf1 H1 σ A (e.ext e1) _ fun y Hf2 H2 e2 py => hx Hf2 H2 σ A (e.ext (e1.trans e2)) _ fun w Hf3 H3 e3 pw => ?_⟩
    obtain rfl := dq_key py
    have E := e2.trans e3
    have hp3 : H3 p = some (.dK kvs) := E.z _ _ (E.f _ _ hp)
    have hk := ka_find (k := k) (ka_mono E.f pk)
    refine ⟨valV kvs k, .k hp3, ?_⟩
    cases hf : (kas.find? fun ka => decide (ka.1 = k)).map (·.2) with
    | some a =>
      obtain ⟨v, hv, pa⟩ := hk.1 a hf
      rw [hv]
      exact q v Hf3 H3 (e1.trans E) (h1 a hf _ _ pa)
    | none =>
      rw [hk.2 hf]
      exact q w Hf3 H3 (e1.trans E) (h2 hf _ _ pw)
/-- d[k] -/
theorem ev_dget {k : Key} (hd : EvA td Γ (DkA kas)) (hy : EvA ty Γ (Dt K (keyD k))) (h1 : (kas.find? fun ka => decide (ka.1 = k)).map (·.2) = some a) : EvA (tDGet td ty) Γ a := fun Hf H σ A e Q q =>
  hd Hf H σ A e _ fun x Hf1 H1 e1 ⟨p, kvs, ev, hp, pk⟩ => by
    subst ev
    refine hy Hf1 H1 σ A (e.ext e1) _ fun y Hf2 H2 e2 py => ?_
    obtain rfl := dq_key py
    have hk := ka_find (k := k) (ka_mono e2.f pk)
    obtain ⟨v, hv, pa⟩ := hk.1 a h1
    exact ⟨p, v, rfl, by rw [← hv]; exact .k (e2.z _ _ (e2.f _ _ hp)), q v Hf2 H2 (e1.trans e2) pa⟩
end
section
variable {K : PySem.W.Frag} {Γ : List Sl} {tj : TE}
/-- a row of a tray of one's own -/
theorem el_OT {i : Nat} {tr : List (List Int)} {a : Int} {m : Nat} {row : List Int} (hi : Γ[i]? = some (.ow (OT K tr))) (ha : EvA tj Γ (Dt K (.int a))) (ea : a = (m : Int)) (hm : tr[m]? = some row) : EvL (tOp (rIxL K) (tVar i) tj) Γ ((row.map PyData.int).map (Dt K)) := fun Hf H σ A e Q q => by
  obtain ⟨u, eu, p, rs, rfl, eA, nd, hf, hh, hp⟩ := e.ow hi
  refine ⟨.ref p, eu, ha Hf H σ A e _ fun va Hf2 H2 e2 pa => ?_⟩
  cases dt_int pa
  have hrow : (tr.map fun r => r.map fun i => Dt K (.int i))[m]? = some (row.map fun i => Dt K (.int i)) := by rw [List.getElem?_map, hm]; rfl
  obtain ⟨r, hr, _, ws, hw, pw⟩ := rows_get hp hrow
  refine ⟨p, rs.map V.ref, a, .ref r, rfl, rfl, .inl (.inl (e2.h _ _ hh)), at_nat (by rw [List.getElem?_map, hr]; rfl) ea, ?_⟩
  have e3 : (row.map PyData.int).map (Dt K) = row.map fun i => Dt K (.int i) := by rw [List.map_map]; rfl
  exact q r ws Hf2 H2 e2 (e2.h _ _ hw) (by rw [e3]; exact pa_mono e2.f pw)
end
end DL

namespace DL
open PySem PySem.Spec L2
open PyProof.Rows hiding St

/-! ### try .. except X as n -/
section
variable {K : PySem.W.Frag} {Γ : List Sl} {c : Cb} {k : Kt} {i : Nat} {cv : Value} {tb : WX → TS} {ts : Addr → Value → Option Addr → TS} {Wout : WX}
/-- the ends of a suite whose name goes -/
def Kt.un (k : Kt) (i : Nat) : Kt := { k with nx := fun Γ => k.nx (Γ.set i .un), bk := fun Γ => k.bk (Γ.set i .un), ct := fun Γ => k.ct (Γ.set i .un) }
theorem kok_un {D : Ends} (q : KOk c k D) : KOk c (k.un i) { nx := fun σ' H' => D.nx (σ'.set i none) H', rt := D.rt, bk := fun σ' H' => D.bk (σ'.set i none) H', ct := fun σ' H' => D.ct (σ'.set i none) H' } :=
  ⟨fun Γ h σ H Hf s => q.nx _ h _ H Hf (s.putUn i none), q.rt, q.ro, fun Γ h σ H Hf s => q.bk _ h _ H Hf (s.putUn i none), fun Γ h σ H Hf s => q.ct _ h _ H Hf (s.putUn i none)⟩
def tTry (K : PySem.W.Frag) (cv : Value) (i : Nat) (ts : Addr → Value → Option Addr → TS) (tb : WX → TS) : TS := fun D σ H => tb (wAs K cv i ts (fun _ _ _ _ => False) D) D σ H
theorem ps_tryT {X : Cx} (K : PySem.W.Frag) {x n : Str} {body suite : List Stmt} {b₀ : Stmt} {np pos pos' : Pos} (hs : X.stack = X.env :: X.outer) (hf : X.env.frame = some X.env.locals) (hN : X.N.Nodup) (hi : X.N[i]? = some n) (hln : X.env.kindOf n = some .local) (hc : Names X x cv)
    (hb : ∀ (W : WX) (pn : List (Addr × Obj)) (xe : Value → Shared → Prop), Takes (X.tr pn xe) W → PassesOwn (model X.prog X.w) X.A X.env xe → PSs (X.tr pn xe) body (tb W))
    (hsu : ∀ (a : Addr) (oe : Obj) (cls : Value) (d : Option Addr) (pn : List (Addr × Obj)), Zc cls d oe → (∃ vs, oe.data = .fields vs) → PSs (X.suite a ((a, oe) :: pn)) (b₀ :: suite) (ts a cls d)) (hK : X.K = K := by rfl) :
    PS X (.Try body [.ExceptHandler (some (.Name x np)) (some n) (b₀ :: suite) pos'] [] [] pos) (tTry K cv i ts tb) := by
  subst hK
  exact ps_try_as hs hf hN hi hln hc takes0 hb hsu
theorem rn_try (G : Addr → List Sl → Prop) (hb : ∀ W : WX, (∀ C Γ', G C Γ' → ∀ {σ : L2.St} {H Hf : Hp}, StOk c Hf H σ Γ' → W (.ref C) none σ H) → Rn c (tb W) Γ k)
    (hs : ∀ C Γ', G C Γ' → PySem.W.exmOne K (.ref C) cv = some true ∧ ∀ a, Rn c (ts a (.ref C) none) (Γ'.set i (.as (CtA (.ref a)))) (k.un i)) : Rn c (tTry K cv i ts tb) Γ k := fun D σ H Hf s q =>
  hb _ (fun C Γ' g σ' H' Hf' s' => ⟨true, (hs C Γ' g).1, fun _ a _ => (hs C Γ' g).2 a _ _ H' Hf' (s'.putAs i (a := CtA (.ref a)) rfl) (kok_un q), fun z => nomatch z⟩) D σ H Hf s q
end
/-! ### isinstance of the error that a suite holds -/
def rIsE1 (K : PySem.W.Frag) (cls : Value) (d : Option Addr) (a : Addr) : List V → Hp → VK → Prop := fun xs H Q => ∃ D, cls = .ref D ∧ d = none ∧ ExcC K D ∧ rIsE K D a xs H Q
def rIsET (K : PySem.W.Frag) (cls : Value) (d : Option Addr) (a : Addr) : List V → Hp → VK → Prop := fun xs H Q => ∃ D, cls = .ref D ∧ d = none ∧ ExcC K D ∧
  ∃ (tp : Addr) (cs : List V) (us : List Value) (b : Bool), xs = [.ref a, .ref tp] ∧ H tp = some (.tup cs) ∧ Paired ClsV cs us ∧ PySem.W.kitAny K (.ref D) us = some b ∧ Q (.bl b) H
theorem call_isE1 {X : Cx} (K : PySem.W.Frag) {a : Addr} {cls : Value} {d : Option Addr} {oe : Obj} {pn : List (Addr × Obj)} (hz : Zc cls d oe) (hf : ∃ vs, oe.data = .fields vs) (hK : X.K = K := by rfl) : CallR (X.suite a ((a, oe) :: pn)) (.builtin "isinstance") (rIsE1 K cls d a) := by
  subst hK
  intro pins s σ H xs us Q I r h
  obtain ⟨D, rfl, rfl, C, h⟩ := h
  exact call_isE C hz hf pins s σ H xs us Q I r h
theorem call_isET {X : Cx} (K : PySem.W.Frag) {a : Addr} {cls : Value} {d : Option Addr} {oe : Obj} {pn : List (Addr × Obj)} (hz : Zc cls d oe) (hf : ∃ vs, oe.data = .fields vs) (hK : X.K = K := by rfl) : CallR (X.suite a ((a, oe) :: pn)) (.builtin "isinstance") (rIsET K cls d a) := by
  subst hK
  intro pins s σ H xs us Q I r h
  obtain ⟨D, rfl, rfl, C, tp, cs, ws, b, rfl, hT, k, e, q⟩ := h
  obtain ⟨u1, u2, rfl, r1, r2⟩ := vals2 r
  cases (show u1 = Value.ref a from r1)
  cases (show u2 = Value.ref tp from r2)
  obtain ⟨hget, _⟩ := I.pin (a, oe) (List.mem_append.mpr (.inl List.mem_cons_self))
  obtain ⟨vs, hv⟩ := hf
  have J : PySem.W.InstAt s.heap a oe D none := by
    obtain ⟨oc, od, oda, osl⟩ := oe
    obtain ⟨h1, h2⟩ := hz
    dsimp only at h1 h2 hv
    subst h1 h2 hv
    exact ⟨hget, rfl, rfl, trivial⟩
  obtain ⟨_, its, rv, o, h1, h2, n, h3⟩ := (show ObjOk X.prog X.w H s.heap tp (.tup cs) from I.hok tp _ hT)
  have e3 := ClsV.all k rv
  subst e3
  obtain ⟨oc, od, dt, sl⟩ := o
  simp only at h2 h3
  subst h2 h3
  exact PySem.W.kia_tup (PySem.W.handS_kitx_exc C.hg C.hk C.hs C.hd C.ha C.hn C.ht C.hm) I.kIn J h1 e (fun z => nomatch z) fun tk => ⟨.bl b, H, I.tok tk, rfl, q⟩
section
variable {K : PySem.W.Frag} {Γ : List Sl} {a C : Addr} {ta tb : TE} {b : Bool}
theorem ev_isE1 {D : Addr} (hx : ExcC K C) (ha : EvA ta Γ (CtA (.ref a))) (hb : EvA tb Γ (CtA (.ref D))) (hk : PySem.W.kitOne K (.ref C) (.ref D) = some b) : EvA (tCB (rIsE1 K (.ref C) none a) (tCons ta (tCons tb tNil))) Γ (Dt K (.bool b)) := fun Hf H σ A e Q q =>
  ha Hf H σ A e _ fun v Hf1 H1 e1 p1 => hb Hf1 H1 σ A (e.ext e1) _ fun u Hf2 H2 e2 p2 => by
    cases (show v = .ref a from p1)
    cases (show u = .ref D from p2)
    exact ⟨C, rfl, rfl, hx, _, _, b, rfl, fun u r => (ClsV.own D).eq r, hk, q _ Hf2 H2 (e1.trans e2) (.bl b)⟩
theorem ev_isE1T {T : String} (hx : ExcC K C) (ha : EvA ta Γ (CtA (.ref a))) (hb : EvA tb Γ (CtA (.ty T))) (hk : PySem.W.kitOne K (.ref C) (.type T) = some b) : EvA (tCB (rIsE1 K (.ref C) none a) (tCons ta (tCons tb tNil))) Γ (Dt K (.bool b)) := fun Hf H σ A e Q q =>
  ha Hf H σ A e _ fun v Hf1 H1 e1 p1 => hb Hf1 H1 σ A (e.ext e1) _ fun u Hf2 H2 e2 p2 => by
    cases (show v = .ref a from p1)
    cases (show u = .ty T from p2)
    exact ⟨C, rfl, rfl, hx, _, _, b, rfl, fun u r => (ClsV.ty T).eq r, hk, q _ Hf2 H2 (e1.trans e2) (.bl b)⟩
theorem cts_eq {H : Hp} : ∀ {vs cs : List V}, Pa H vs (cs.map CtA) → vs = cs
  | [], [], _ => rfl
  | v :: vs, c :: cs, .cons h q => by rw [show v = c from h, cts_eq q]
  | [], _ :: _, h => nomatch h
  | _ :: _, [], h => nomatch h
theorem ev_isET {t : TA} {cs : List V} {us : List Value} (hx : ExcC K C) (ha : EvA ta Γ (CtA (.ref a))) (hb : EvS t Γ (cs.map CtA)) (hc : Paired ClsV cs us) (hk : PySem.W.kitAny K (.ref C) us = some b) (hl : cs.length ≤ sizeLine) : EvA (tCB (rIsET K (.ref C) none a) (tCons ta (tCons (tTup t) tNil))) Γ (Dt K (.bool b)) := fun Hf H σ A e Q q =>
  ha Hf H σ A e _ fun v Hf1 H1 e1 p1 => hb Hf1 H1 σ A (e.ext e1) _ fun vs Hf2 H2 e2 p2 => by
    cases (show v = .ref a from p1)
    obtain rfl := cts_eq p2
    refine ⟨hl, fun p hp => ?_⟩
    exact ⟨C, rfl, rfl, hx, p, vs, us, b, rfl, upd_same, hc, hk, q _ _ _ ((e1.trans e2).trans (.loose e2.z hp)) (.bl b)⟩
end
end DL

namespace DL
open PySem PySem.Spec L2
open PyProof.Rows hiding St

/-! ### the script: a list that may be written -/
theorem sql_mono {K : PySem.W.Frag} {H H' : Hp} {a : Addr} {xs : List V} (e : Same H H') (h : SqL K H a xs) : SqL K H' a xs := by
  rcases h with h | h
  · exact .inl (rd_mono e h)
  · exact .inr h
def SqA (K : PySem.W.Frag) (ns : List Int) : As := ⟨fun H v => ∃ a, v = .ref a ∧ SqL K H a (ns.map V.int), fun e ⟨a, h1, h2⟩ => ⟨a, h1, sql_mono e h2⟩⟩
section
variable {K : PySem.W.Frag} {Γ : List Sl} {te : TE} {c : Cb} {k : Kt} {a : As}
theorem ew_slSq {tl th : TO} {ns : List Int} {lo hi : Option Int} (h : EvA te Γ (SqA K ns)) (h1 : EvO tl Γ lo) (h2 : EvO th Γ hi) : EvW (tSl (rSlL K) te tl th) Γ (OL (((cutA ns lo hi).map PyData.int).map (Dt K))) := fun Hf H σ A e Q q =>
  h Hf H σ A e _ fun v Hf1 H1 e1 ⟨p, ev, hp⟩ => h1 Hf1 H1 σ A (e.ext e1) _ fun Hf2 H2 e2 => h2 Hf2 H2 σ A (e.ext (e1.trans e2)) _ fun Hf3 H3 e3 => ⟨p, ns.map V.int, ev, sql_mono ((Same.trans e1.z (e2.trans e3).h)) hp, fun l hl => by
    have E := (e1.trans e2).trans e3
    refine q _ Hf3 (upd H3 l (.lst (cutV (ns.map V.int) lo hi))) [l] (E.trans (.loose e3.z hl)) (fun a ha => by
      obtain rfl : a = l := by simpa using ha
      exact E.h.free hl) ⟨l, _, rfl, rfl, e3.z.free hl, upd_same, ?_⟩
    have e4 : cutV (ns.map V.int) lo hi = (cutA ns lo hi).map V.int := by
      unfold cutV cutA
      rw [List.length_map, List.map_take, List.map_drop]
    rw [e4]
    exact ints_pa _⟩
/-! ### a thing of one's own, lent -/
def Flat (a : As) : Prop := ∀ H H' v, a.p H v → a.p H' v
theorem flat_bool {b : Bool} : Flat (Dt K (.bool b)) := fun H H' v h => by cases dt_bl h; exact .bl b
theorem flat_int {b : Int} : Flat (Dt K (.int b)) := fun H H' v h => by cases dt_int h; exact .int b
theorem flat_str {b : Str} : Flat (Dt K (.str b)) := fun H H' v h => by cases dt_str h; exact .str b
theorem flat_non : Flat (Dt K .none) := fun H H' v h => by cases dt_non h; exact .non
theorem lend_env {Hf H : Hp} {σ : L2.St} {A : Nat → List Addr} {i : Nat} {tr : List (List Int)} (e : Env Hf H σ Γ A) (hi : Γ[i]? = some (.ow (OT K tr))) : ∃ Hf1, Env Hf1 H σ (Γ.set i (.as (Dt K (DT tr)))) (atN A i []) := by
  obtain ⟨v, ev, p, rs, rfl, eA, nd, hf, hh, hp⟩ := e.ow hi
  have hil : i < Γ.length := (List.getElem?_eq_some_iff.mp hi).1
  have hAf : ∀ a ∈ A i, Hf a = none := fun a ha => (owned_live e ha).2
  refine ⟨fun a => if a ∈ A i then H a else Hf a, ?_⟩
  have s1 : Same Hf fun a => if a ∈ A i then H a else Hf a := fun a o h => by
    show (if a ∈ A i then H a else Hf a) = some o
    rw [if_neg (fun hm => by rw [hAf a hm] at h; cases h)]; exact h
  have z1 : Same (fun a => if a ∈ A i then H a else Hf a) H := fun a o h => by
    have h' : (if a ∈ A i then H a else Hf a) = some o := h
    split at h'
    · exact h'
    · exact e.z a o h'
  have at1 : ∀ a ∈ A i, (fun a => if a ∈ A i then H a else Hf a) a = H a := fun a ha => if_pos ha
  have e' : Env (fun a => if a ∈ A i then H a else Hf a) H σ (Γ.set i .un) (atN A i []) := by
    refine ⟨z1, by rw [List.length_set]; exact e.len, fun j s hs => ?_, fun j j' hjj x hx => ?_, fun j hj => ?_⟩
    · by_cases c : i = j
      · subst c
        rw [List.getElem?_set_self hil] at hs
        obtain rfl := Option.some.inj hs
        show (if i = i then [] else A i) = []
        rw [if_pos rfl]
      · rw [List.getElem?_set_ne c] at hs
        have hk := e.ok j s hs
        show SlOk _ H _ (if j = i then [] else A j) s
        rw [if_neg (fun z => c z.symm)]
        cases s with
        | un => exact hk
        | as a =>
          obtain ⟨h1, v, h2, h3⟩ := hk
          exact ⟨h1, v, h2, a.mono s1 h3⟩
        | ow w =>
          obtain ⟨v, h2, h3⟩ := hk
          refine ⟨v, h2, w.mono h3 s1 (fun a ha => ?_) fun _ _ => rfl⟩
          show (if a ∈ A i then H a else Hf a) = none
          rw [if_neg (e.dj j i (fun z => c z.symm) a ha)]
          exact (w.fr h3 a ha).1
    · have hx' : x ∈ (if j = i then [] else A j) := hx
      show x ∉ (if j' = i then [] else A j')
      split at hx'
      · cases hx'
      · split
        · exact fun h => nomatch h
        · exact e.dj j j' hjj x hx'
    · rw [List.length_set] at hj
      show (if j = i then [] else A j) = []
      rw [if_neg (by omega)]
      exact e.out j hj
  have hpd : (Dt K (DT tr)).p (fun a => if a ∈ A i then H a else Hf a) (.ref p) := by
    refine tray_le _ _ ⟨p, rs.map V.ref, rfl, (at1 p (by rw [eA]; simp)).trans hh, ?_⟩
    have hm : ∀ a ∈ rs, a ∈ A i := fun a ha => by rw [eA]; exact List.mem_cons_of_mem _ ha
    clear e' hh hi eA nd
    generalize (tr.map fun r => r.map fun i => Dt K (.int i)) = rows at hp
    induction hp with
    | nil => exact .nil
    | cons h _ ih =>
      obtain ⟨h1, vs, h2, h3⟩ := h
      exact .cons ⟨_, vs, rfl, (at1 _ (hm _ (by simp))).trans h2, pa_mono s1 h3⟩ (ih fun a ha => hm a (List.mem_cons_of_mem _ ha))
  refine ⟨e'.z, by rw [List.length_set]; exact e.len, fun j s hs => ?_, e'.dj, fun j hj => e'.out j (by rw [List.length_set] at hj ⊢; exact hj)⟩
  by_cases c : i = j
  · subst c
    rw [List.getElem?_set_self hil] at hs
    obtain rfl := Option.some.inj hs
    refine ⟨show (if i = i then [] else A i) = [] from if_pos rfl, _, ?_, hpd⟩
    rw [List.getD_eq_getElem?_getD, ev]; rfl
  · rw [List.getElem?_set_ne c] at hs
    exact e'.ok j s (by rw [List.getElem?_set_ne c]; exact hs)
theorem lend_ext {Hf H Hf' H' : Hp} (z : Same Hf H) (h : Same H H') : Ext Hf H Hf H' := ⟨.refl _, h, Same.trans z h, fun _ _ h => h⟩
theorem ev_lend {i : Nat} {tr : List (List Int)} (hi : Γ[i]? = some (.ow (OT K tr))) (h : EvA te (Γ.set i (.as (Dt K (DT tr)))) a) (fl : Flat a) : EvA te Γ a := fun Hf H σ A e Q q => by
  obtain ⟨Hf1, e'⟩ := lend_env e hi
  exact h Hf1 H σ _ e' Q fun v Hf2 H2 e2 p2 => q v Hf H2 (lend_ext (Hf' := Hf) e.z e2.h) (fl _ _ v p2)
theorem eb_lend {i : Nat} {tr : List (List Int)} {tt : TT} {b : Bool} (hi : Γ[i]? = some (.ow (OT K tr))) (h : EvB tt (Γ.set i (.as (Dt K (DT tr)))) b) : EvB tt Γ b := fun Hf H σ A e Q q => by
  obtain ⟨Hf1, e'⟩ := lend_env e hi
  exact h Hf1 H σ _ e' Q fun Hf2 H2 e2 => q Hf H2 (lend_ext (Hf' := Hf) e.z e2.h)

/-! ### a row of one's own grows; what one owns is spoilt -/
def OX : Ow := ⟨fun Hf H v A => ∀ a ∈ A, Hf a = none ∧ H a ≠ none, fun h => h, fun h s n k a ha => ⟨n a ha, by rw [k a ha]; exact (h a ha).2⟩⟩
theorem rn_appendX {i : Nat} {rows : List (List As)} (hi : Γ[i]? = some (.ow (OO rows))) (h : EvA te Γ a) (hl : rows.length < sizeLine) (n : k.nx (Γ.set i (.ow OX))) : Rn c (tDrop (tBM K "list" rAppend (tVar i) (tCons te tNil))) Γ k := fun D σ H Hf s q => by
  obtain ⟨A, e, ha⟩ := s.e
  obtain ⟨v, ev, p, rs, rfl, eA, nd, hf, hh, hp⟩ := e.ow hi
  refine ⟨.ref p, ev, .inl ⟨rfl, rs.map V.ref, .inl (.inl hh)⟩, h Hf H σ A e _ fun y Hf1 H1 e1 py => ?_⟩
  have en := e.ext e1
  refine ⟨p, rs.map V.ref, y, rfl, rfl, e1.h _ _ hh, by rw [List.length_map, Paired.length hp]; exact hl, q.nx _ n _ _ Hf1 (st_turn (s.b.ext e1) en ha hi ev (fun a hm => upd_ne fun z => hm (by rw [eA, z]; simp)) (fun a hm => ?_) fun a hm => ⟨(owned_live en hm).2, ?_⟩)⟩
  all_goals
    by_cases z : a = p
    · rw [z, upd_same]; exact fun z => nomatch z
    · rw [upd_ne z]; exact (owned_live en hm).1
theorem rn_appendRow {i : Nat} {tr : List (List Int)} {tj : TE} {b z : Int} {m : Nat} {row : List Int} (hi : Γ[i]? = some (.ow (OT K tr))) (ha : EvA tj Γ (Dt K (.int b))) (eb : b = (m : Int)) (hm : tr[m]? = some row) (he : EvA te Γ (Dt K (.int z))) (hl : row.length < sizeLine)
    (nx : k.nx (Γ.set i (.ow (OT K (tr.set m (row ++ [z])))))) : Rn c (tDrop (tBM K "list" rAppend (tOp (rIxL K) (tVar i) tj) (tCons te tNil))) Γ k := fun D σ H Hf s q => by
  obtain ⟨A, e, hA⟩ := s.e
  obtain ⟨u, eu, pu⟩ := e.ow hi
  obtain ⟨p, rs, rfl, eA, nd, hf, hh, hp⟩ := pu
  refine ⟨.ref p, eu, ha Hf H σ A e _ fun va Hf2 H2 e2 pa => ?_⟩
  cases dt_int pa
  have hrow : (tr.map fun r => r.map fun i => Dt K (.int i))[m]? = some (row.map fun i => Dt K (.int i)) := by rw [List.getElem?_map, hm]; rfl
  obtain ⟨r, hr, hok⟩ := rows_get hp hrow
  obtain ⟨hfr, ws, hw, pw⟩ := hok
  have hwl : ws.length = row.length := by rw [pa_len pw, List.length_map]
  refine ⟨p, rs.map V.ref, b, .ref r, rfl, rfl, .inl (.inl (e2.h _ _ hh)), at_nat (by rw [List.getElem?_map, hr]; rfl) eb, .inl ⟨rfl, ws, .inl (.inl (e2.h _ _ hw))⟩, he Hf2 H2 σ A (e.ext e2) _ fun y Hf3 H3 e3 py => ?_⟩
  have E := e2.trans e3
  have en3 := e.ext E
  refine ⟨r, ws, y, rfl, rfl, E.h _ _ hw, by omega, ?_⟩
  have live : ∀ a ∈ A i, H3 a = H a := fun a hm => by
    have := owned_live e hm
    cases z : H a with
    | none => exact absurd z this.1
    | some o => exact E.h a o z
  have frz : ∀ a ∈ A i, Hf3 a = none := fun a hm => E.n a (owned_live e hm).1 (owned_live e hm).2
  have hrs : r ∈ rs := List.mem_of_getElem? hr
  have hpr : p ≠ r := fun z => (List.nodup_cons.mp nd).1 (by rw [z]; exact hrs)
  refine q.nx _ nx _ _ Hf3 (st_turn (s.b.ext E) en3 hA hi eu (fun a hm => upd_ne fun z => hm (by rw [eA, z]; exact List.mem_cons_of_mem _ hrs)) (fun a hm => ?_) ?_)
  · by_cases z : a = r
    · rw [z, upd_same]; exact fun z => nomatch z
    · rw [upd_ne z, live a hm]; exact (owned_live e hm).1
  · refine ⟨p, rs, rfl, eA, nd, frz p (by rw [eA]; simp), ?_, ?_⟩
    · rw [upd_ne hpr, live p (by rw [eA]; simp)]; exact hh
    · have hp3 : Paired (RowOk Hf3 H3) rs (tr.map fun r => r.map fun i => Dt K (.int i)) := rows_mono hp E.f (fun a hm => frz a (by rw [eA]; exact List.mem_cons_of_mem _ hm)) fun a hm => live a (by rw [eA]; exact List.mem_cons_of_mem _ hm)
      have hs := rows_set (H' := upd H3 r (.lst (ws ++ [y]))) (row := (row ++ [z]).map fun i => Dt K (.int i)) hp3 (List.nodup_cons.mp nd).2 hr ⟨frz r (by rw [eA]; exact List.mem_cons_of_mem _ hrs), ws ++ [y], upd_same, ?_⟩ (fun a _ hne => upd_ne hne)
      · rwa [show ((tr.map fun r => r.map fun i => Dt K (.int i)).set m ((row ++ [z]).map fun i => Dt K (.int i))) = ((tr.set m (row ++ [z])).map fun r => r.map fun i => Dt K (.int i)) by simp only [List.map_set]] at hs
      · rw [List.map_append]
        exact pa_app (pa_mono E.f pw) (.cons py .nil)
end
end DL

namespace DL
open PySem PySem.Spec L2
open PyProof.Rows hiding St

/-! ### what is never come to -/
def tNever : TS := fun _ _ _ => False
theorem pss_notcome {X : Cx} {b : List Stmt} : PSs X b tNever := ⟨fun _ _ _ _ _ _ h => h.elim⟩
/-! ### texts and lists, some times -/
def rMulS : R2 := fun x y H Q => ∃ (z : Str) (n : Int), x = .str z ∧ y = .int n ∧ MulOk z n ∧ Q (.str (Txt.mul z n)) H
theorem op_mulS {X : Cx} : OpR X (binaryOp .Mult) rMulS := by
  intro pins s σ H x y v u Q I rx ry h
  obtain ⟨z, n, rfl, rfl, hc, q⟩ := h
  obtain ⟨t, rfl⟩ := rx
  obtain ⟨t', rfl⟩ := ry
  exact PySem.SB.mul hc fun t2 k => ⟨.str (Txt.mul z n), H, I.tok _, ⟨_, rfl⟩, q⟩
theorem fold_rep (its : Array Nat) : ∀ (m : Nat), List.foldl (fun x1 x2 => x1 ++ x2) #[] (List.replicate m its) = (List.replicate m its.toList).flatten.toArray := by
  have g : ∀ (m : Nat) (a : Array Nat), List.foldl (fun x1 x2 => x1 ++ x2) a (List.replicate m its) = a ++ (List.replicate m its.toList).flatten.toArray := by
    intro m
    induction m with
    | zero => intro a; simp
    | succ m ih => intro a; rw [List.replicate_succ, List.foldl_cons, ih, List.replicate_succ, List.flatten_cons, Array.append_assoc]; apply Array.ext'; simp
  intro m
  rw [g]; simp
theorem mul_S {l : List Nat} {n : Int} {m : Nat} (e : n = (m : Int)) : Txt.mul (SX.S l) n = SX.S (List.replicate m l).flatten := by
  subst e
  unfold Txt.mul
  by_cases h : (m : Int) < 1
  · rw [if_pos h]
    obtain rfl : m = 0 := by omega
    rfl
  · rw [if_neg h]
    by_cases h2 : ((m : Int) == 1 || (SX.S l).length == 0) = true
    · rw [if_pos h2]
      rw [Bool.or_eq_true, beq_iff_eq, beq_iff_eq, SX.S_len] at h2
      rcases h2 with h2 | h2
      · obtain rfl : m = 1 := by omega
        simp
      · obtain rfl : l = [] := List.length_eq_zero_iff.mp h2
        congr 1
        simp
    · rw [if_neg h2, Int.toNat_natCast]
      show (⟨_⟩ : Str) = ⟨_⟩
      congr 1
      exact fold_rep _ m
theorem mulOkS {l : List Nat} {n : Int} {m : Nat} (e : n = (m : Int)) (h : m ≤ 1000) (hl : l.length ≤ 1000) : MulOk (SX.S l) n := by
  subst e
  have h3 : l.length * m ≤ 1000 * 1000 := Nat.mul_le_mul hl h
  refine ⟨?_, fun h1 h2 => ?_, fun h1 h2 => ?_⟩
  · simp; omega
  · rw [SX.S_len]
    have h4 : (9223372036854775807 : Int) / (m : Int) ≥ 9223372036854775807 / 1000 := by
      have hm : (0 : Int) < (m : Int) := by omega
      rw [ge_iff_le, Int.le_ediv_iff_mul_le hm]
      have : (9223372036854775807 / 1000 : Int) * (m : Int) ≤ 9223372036854775807 / 1000 * 1000 := Int.mul_le_mul_of_nonneg_left (by omega) (by decide)
      omega
    have e1 : ((2 : Int) ^ 63 - 1) = 9223372036854775807 := by decide
    rw [e1]
    omega
  · rw [SX.S_len, Int.toNat_natCast]
    unfold PySem.Builtin.Str.tooLong
    rw [sizeLine_eq] at *
    simp
    omega
section
variable {K : PySem.W.Frag} {Γ Γ' : List Sl} {ta tb te : TE} {tt : TT} {c : Cb} {k : Kt} {a : As}
theorem ev_mulS {l : List Nat} {n : Int} {m : Nat} (ha : EvA ta Γ (Dt K (DS l))) (hb : EvA tb Γ (Dt K (.int n))) (e : n = (m : Int)) (h : m ≤ 1000) (hl : l.length ≤ 1000) : EvA (tOp rMulS ta tb) Γ (Dt K (DS (List.replicate m l).flatten)) := fun Hf H σ A en Q q =>
  ha Hf H σ A en _ fun v Hf1 H1 e1 p1 => hb Hf1 H1 σ A (en.ext e1) _ fun u Hf2 H2 e2 p2 => by
    cases dt_str p1
    cases dt_int p2
    refine ⟨_, _, rfl, rfl, mulOkS e h hl, ?_⟩
    rw [mul_S e]
    exact q _ Hf2 H2 (e1.trans e2) (.str _)
theorem pa_rep {H : Hp} {vs : List V} {as : List As} (p : Pa H vs as) : ∀ k : Nat, Pa H (List.replicate k vs).flatten (List.replicate k as).flatten
  | 0 => .nil
  | k + 1 => by
    rw [List.replicate_succ, List.flatten_cons, List.replicate_succ, List.flatten_cons]
    exact pa_app p (pa_rep p k)
theorem ew_rep {as : List As} {n : Int} {m : Nat} (ha : EvL ta Γ as) (hb : EvA tb Γ (Dt K (.int n))) (e : n = (m : Int)) (hm : m < 2 ^ 63) (hl : as.length * m ≤ sizeLine) : EvW (tOp rRep ta tb) Γ (OL (List.replicate m as).flatten) := fun Hf H σ A en Q q =>
  ha Hf H σ A en _ fun p vs Hf1 H1 e1 hp pv => hb Hf1 H1 σ A (en.ext e1) _ fun u Hf2 H2 e2 p2 => by
    cases dt_int p2
    subst e
    have E := e1.trans e2
    refine ⟨p, (m : Int), vs, rfl, rfl, e2.h _ _ hp, by omega, by omega, by rw [Int.toNat_natCast, pa_len pv]; exact hl, fun l hl' => ?_⟩
    refine q _ Hf2 (upd H2 l (.lst (List.replicate (m : Int).toNat vs).flatten)) [l] (E.trans (.loose e2.z hl')) (fun a ha => by
      obtain rfl : a = l := by simpa using ha
      exact E.h.free hl') ⟨l, _, rfl, rfl, e2.z.free hl', upd_same, ?_⟩
    rw [Int.toNat_natCast]
    exact pa_mono e2.f (pa_rep pv m)
/-- for n in script -/
theorem ei_sq {ns : List Int} (h : EvA te Γ (SqA K ns)) : EvI (iList K te) Γ ((ns.map PyData.int).map (Dt K)) := fun Hf H σ A e R q =>
  h Hf H σ A e _ fun v Hf1 H1 e1 ⟨p, ev, hp⟩ => by
    subst ev
    have pv : Pa Hf1 (ns.map V.int) ((ns.map PyData.int).map (Dt K)) := ints_pa ns
    have hl := pa_len pv
    refine ⟨p, rfl, ⟨_, sql_mono e1.z hp⟩, q _ Hf1 H1 e1 fun Hf2 H2 s1 s2 i => ⟨fun hi => ?_, fun hi => ?_⟩⟩
    · have hs : SqL K H2 p (ns.map V.int) := sql_mono (s1.trans s2) hp
      have hv : i < (ns.map V.int).length := by omega
      refine ⟨⟨_, (ns.map V.int)[i], hs, List.getElem?_eq_getElem hv⟩, fun x H3 hy => ?_⟩
      obtain ⟨rfl, hx⟩ := hy
      refine ⟨Hf2, .refl s2, fun a ha => ?_⟩
      obtain ⟨w, hw, pw⟩ := pa_get pv ha
      have := hx _ hs
      rw [hw] at this
      obtain rfl := Option.some.inj this
      exact a.mono s1 pw
    · exact ⟨_, sql_mono (s1.trans s2) hp, by omega⟩
/-- one of two ways, each raises -/
theorem er_if {b : Bool} {W : WX} {C : Addr} (h : EvB tt Γ b) (h1 : b = true → EvR ta Γ W C) (h2 : b = false → EvR tb Γ W C) : EvR (tIf tt ta tb) Γ W C := fun Hf H σ A e hw Q => h Hf H σ A e _ fun Hf1 H1 e1 => by
  cases b with
  | true => exact iteT (h1 rfl Hf1 H1 σ A (e.ext e1) (fun Hf2 H2 e2 => hw Hf2 H2 (e1.trans e2)) Q)
  | false => exact iteF (h2 rfl Hf1 H1 σ A (e.ext e1) (fun Hf2 H2 e2 => hw Hf2 H2 (e1.trans e2)) Q)
/-- {} -/
theorem ev_dnew : EvA tDNewK Γ (DkA []) := fun Hf H σ A e Q q p hp => q _ _ _ (.new e.z hp) ⟨p, [], rfl, upd_same, .nil⟩
/-! ### rows of one's own, of any things -/
theorem row_data {r : List PyData} : (LsA (r.map (Dt K))).le (Dt K (.list r)) := lsA_le
theorem rows_pa {H : Hp} : ∀ (t : List (List PyData)) (vs : List V), Pa H vs ((t.map fun r => r.map (Dt K)).map LsA) → DqAll K H vs (t.map PyData.list)
  | [], _, .nil => .nil
  | _ :: t, _, .cons h q => .cons (row_data _ _ h) (rows_pa t _ q)
def OD (K : PySem.W.Frag) (t : List (List PyData)) : Ow := OO (t.map fun r => r.map (Dt K))
theorem rowsD_le {t : List (List PyData)} : (LsA ((t.map fun r => r.map (Dt K)).map LsA)).le (Dt K (.list (t.map PyData.list))) := fun H v ⟨p, vs, e, hp, pv⟩ => by
  subst e
  exact .lst hp (rows_pa t vs pv)
theorem ev_fixOD {t : List (List PyData)} (h : EvW te Γ (OD K t)) : EvA te Γ (Dt K (.list (t.map PyData.list))) := (ev_fixOO h).le rowsD_le
theorem st_fixOO {Hf H : Hp} {σ : L2.St} {i : Nat} {rows : List (List As)} (s : StOk c Hf H σ Γ) (h : Γ[i]? = some (.ow (OO rows))) (hW : c.W = []) : ∃ Hf', StOk c Hf' H σ (Γ.set i (.as (LsA (rows.map LsA)))) := by
  obtain ⟨A, e, ha⟩ := s.e
  have hil : i < Γ.length := (List.getElem?_eq_some_iff.mp h).1
  obtain ⟨v, ev, pv⟩ := e.ow h
  obtain ⟨Hf', f1, f2, k, pl⟩ := fix_OO s.b.z pv
  have hcp : ∀ a ∈ A i, c.h a = none := fun a hm => (ha i a hm).elim id fun z => by rw [hW] at z; cases z
  refine ⟨Hf', ⟨s.b.f.trans f1, s.b.h, fun a h1 h2 => ?_, s.b.k, f2⟩, atN A i [], ⟨f2, by rw [e.len, List.length_set], fun j t ht => ?_, fun j k n a hj hk => ?_, fun j hj => ?_⟩, fun j a hj => ?_⟩
  · rw [k a (fun hm => h1 (hcp a hm))]; exact s.b.n a h1 h2
  · by_cases cj : i = j
    · subst cj
      rw [List.getElem?_set_self hil] at ht
      obtain rfl := Option.some.inj ht
      show SlOk _ _ _ (if i = i then [] else A i) _
      rw [if_pos rfl]
      refine ⟨rfl, v, ?_, pl⟩
      rw [List.getD_eq_getElem?_getD, ev]; rfl
    · rw [List.getElem?_set_ne cj] at ht
      show SlOk _ _ _ (if j = i then [] else A j) _
      rw [if_neg (fun z => cj z.symm)]
      have k3 := e.ok j t ht
      cases t with
      | un => exact k3
      | as a => obtain ⟨h1, v, h2, h3⟩ := k3; exact ⟨h1, v, h2, a.mono f1 h3⟩
      | ow w3 =>
        obtain ⟨v3, ev3, p3⟩ := k3
        have fr3 := w3.fr p3
        refine ⟨v3, ev3, w3.mono p3 f1 (fun a ha => ?_) fun _ _ => rfl⟩
        rw [k a (fun hm => e.dj i j cj a hm ha)]; exact (fr3 a ha).1
  · have hj' : a ∈ (if j = i then [] else A j) := hj
    have hk' : a ∈ (if k = i then [] else A k) := hk
    by_cases c1 : j = i
    · rw [if_pos c1] at hj'; cases hj'
    · rw [if_neg c1] at hj'
      by_cases c2 : k = i
      · rw [if_pos c2] at hk'; cases hk'
      · rw [if_neg c2] at hk'; exact e.dj j k n a hj' hk'
  · rw [List.length_set] at hj
    show (if j = i then [] else A j) = []
    rw [if_neg (by omega)]; exact e.out j hj
  · have hj' : a ∈ (if j = i then [] else A j) := hj
    by_cases c1 : j = i
    · rw [if_pos c1] at hj'; cases hj'
    · rw [if_neg c1] at hj'; exact ha j a hj'
theorem rn_fixOD {t : TS} {i : Nat} {tr : List (List PyData)} (h : Γ[i]? = some (.ow (OD K tr))) (n : Rn c t (Γ.set i (.as (Dt K (.list (tr.map PyData.list))))) k) (hW : c.W = [] := by rfl) : Rn c t Γ k := fun D σ H Hf s q => by
  obtain ⟨Hf', s'⟩ := st_fixOO s h hW
  exact rn_weak n (set_le (s := .as (LsA ((tr.map fun r : List PyData => r.map (Dt K)).map LsA))) (t := .as (Dt K (.list (tr.map PyData.list)))) (rowsD_le (K := K) (t := tr))) D σ H Hf' s' q
/-- a target that may change the heap -/
def EvGH (c : Cb) (g : TG) (a : As) (Γ Γ' : List Sl) : Prop := ∀ Hf H σ, StOk c Hf H σ Γ → ∀ v, a.p Hf v → ∀ Q : L2.St → Hp → Prop, (∀ Hf' H' σ', StOk c Hf' H' σ' Γ' → Same Hf Hf' → Q σ' H') → g v σ H Q
def EvGsH (c : Cb) (g : TGs) (as : List As) (Γ Γ' : List Sl) : Prop := ∀ Hf H σ, StOk c Hf H σ Γ → ∀ vs, Pa Hf vs as → ∀ Q : L2.St → Hp → Prop, (∀ Hf' H' σ', StOk c Hf' H' σ' Γ' → Same Hf Hf' → Q σ' H') → g vs σ H Q
theorem gh_nil : EvGsH c gNil [] Γ Γ := fun Hf H σ s vs p Q q => by cases p; exact ⟨rfl, q Hf H σ s (.refl Hf)⟩
theorem gh_cons {t : TG} {u : TGs} {as : List As} {Γ1 : List Sl} (h : EvGH c t a Γ Γ1) (hr : EvGsH c u as Γ1 Γ') : EvGsH c (gCons t u) (a :: as) Γ Γ' := fun Hf H σ s vs p Q q => by
  cases p with
  | cons p1 p2 => exact ⟨_, _, rfl, h Hf H σ s _ p1 _ fun Hf1 H1 σ1 s1 f1 => hr Hf1 H1 σ1 s1 _ (pa_mono f1 p2) Q fun Hf2 H2 σ2 s2 f2 => q Hf2 H2 σ2 s2 (f1.trans f2)⟩
theorem gh_tup {n : Nat} {t : TGs} {as : List As} (h : EvGsH c t as Γ Γ') (hn : as.length = n) : EvGH c (gTup K n t) (TpA K as) Γ Γ' := fun Hf H σ s v p Q q => by
  obtain ⟨b, xs, rfl, hq, pv⟩ := p
  exact ⟨b, xs, rfl, sqt_mono s.b.z hq, by rw [pa_len pv]; exact hn, h Hf H σ s xs pv Q q⟩
theorem rn_asgH {g : TG} (h : EvA te Γ a) (hg : EvGH c g a Γ Γ') (n : k.nx Γ') : Rn c (tAsg te g) Γ k := fun D σ H Hf s q => by
  obtain ⟨A, e, ha⟩ := s.e
  exact h Hf H σ A e _ fun v Hf1 H1 e1 pv => hg Hf1 H1 σ (s.ext e1) v pv _ fun Hf2 H2 σ2 s2 _ => q.nx _ n _ _ Hf2 s2
theorem gh_setOD {i : Nat} {tr : List (List PyData)} {ti tj : TE} {x y : Int} {d : PyData} {m n : Nat} {row : List PyData} (hi : Γ[i]? = some (.ow (OD K tr))) (ha : EvA ti Γ (Dt K (.int x))) (hb : EvA tj Γ (Dt K (.int y))) (ea : x = (m : Int)) (eb : y = (n : Int)) (hm : tr[m]? = some row) (hn : n < row.length) :
    EvGH c (gSub (tOp (rIxL K) (tVar i) ti) tj rSetL) (Dt K d) Γ (Γ.set i (.ow (OD K (tr.set m (row.set n d))))) := fun Hf H σ s v pv Q q => by
  obtain ⟨A, e, hA⟩ := s.e
  obtain ⟨u, eu, pu⟩ := e.ow hi
  obtain ⟨p, rs, rfl, eA, nd, hf, hh, hp⟩ := pu
  refine ⟨.ref p, eu, ha Hf H σ A e _ fun va Hf2 H2 e2 pa => ?_⟩
  cases dt_int pa
  have hrow : (tr.map fun r => r.map (Dt K))[m]? = some (row.map (Dt K)) := by rw [List.getElem?_map, hm]; rfl
  obtain ⟨r, hr, hok⟩ := rows_get hp hrow
  refine ⟨p, rs.map V.ref, x, .ref r, rfl, rfl, .inl (.inl (e2.h _ _ hh)), at_nat (by rw [List.getElem?_map, hr]; rfl) ea, hb Hf2 H2 σ A (e.ext e2) _ fun vb Hf3 H3 e3 pb => ?_⟩
  cases dt_int pb
  have E := e2.trans e3
  have en3 := e.ext E
  obtain ⟨_, ws, hw, pw⟩ := hok
  have hwl : ws.length = row.length := by rw [pa_len pw, List.length_map]
  refine ⟨r, ws, y, n, rfl, rfl, E.h _ _ hw, ixN_of eb (by omega), ?_⟩
  have live : ∀ a ∈ A i, H3 a = H a := fun a hm => by
    have := owned_live e hm
    cases z : H a with
    | none => exact absurd z this.1
    | some o => exact E.h a o z
  have frz : ∀ a ∈ A i, Hf3 a = none := fun a hm => E.n a (owned_live e hm).1 (owned_live e hm).2
  have hrs : r ∈ rs := List.mem_of_getElem? hr
  have hpr : p ≠ r := fun z => (List.nodup_cons.mp nd).1 (by rw [z]; exact hrs)
  refine q Hf3 _ σ (st_turn (s.b.ext E) en3 hA hi eu (fun a hm => upd_ne fun z => hm (by rw [eA, z]; exact List.mem_cons_of_mem _ hrs)) (fun a hm => ?_) ?_) E.f
  · by_cases z : a = r
    · rw [z, upd_same]; exact fun z => nomatch z
    · rw [upd_ne z, live a hm]; exact (owned_live e hm).1
  · refine ⟨p, rs, rfl, eA, nd, frz p (by rw [eA]; simp), ?_, ?_⟩
    · rw [upd_ne hpr, live p (by rw [eA]; simp)]; exact hh
    · have hp3 : Paired (RowOk Hf3 H3) rs (tr.map fun r => r.map (Dt K)) := rows_mono hp E.f (fun a hm => frz a (by rw [eA]; exact List.mem_cons_of_mem _ hm)) fun a hm => live a (by rw [eA]; exact List.mem_cons_of_mem _ hm)
      have hs := rows_set (H' := upd H3 r (.lst (ws.set n v))) (row := (row.set n d).map (Dt K)) hp3 (List.nodup_cons.mp nd).2 hr ⟨frz r (by rw [eA]; exact List.mem_cons_of_mem _ hrs), ws.set n v, upd_same, ?_⟩ (fun a _ hne => upd_ne hne)
      · rwa [show ((tr.map fun r => r.map (Dt K)).set m ((row.set n d).map (Dt K))) = ((tr.set m (row.set n d)).map fun r => r.map (Dt K)) by simp only [List.map_set]] at hs
      · rw [List.map_set]
        exact pa_set (pa_mono E.f pw) (As.mono _ E.f pv)
end
end DL

namespace DL
open PySem PySem.Spec L2
open PyProof.Rows hiding St

/-! ### sum(rows, []) -/
section
variable {prog : Program} {w : World} {A : Around} {R : Result → Shared → Prop} {I ax S : Addr} {rows : List (Addr × List Value)}
def preL (rows : List (Addr × List Value)) (i : Nat) : List Value := (rows.take i).flatMap (·.2)
theorem preL_succ {i : Nat} {p : Addr × List Value} (h : rows[i]? = some p) : preL rows (i + 1) = preL rows i ++ p.2 := by
  unfold preL
  rw [List.take_add_one, h, List.flatMap_append]
  simp
abbrev LO (its : List Value) (m : Nat) : Obj := { cls := .type "list", data := .seq its.toArray m }
theorem sum_lists (hh : A.in1.handled = none) (hIax : ax ≠ I) (hSI : S ≠ I) (hSax : S ≠ ax) (hrow : ∀ p ∈ rows, p.1 ≠ I ∧ p.1 ≠ S) (hsz : ∀ i, (preL rows i).length ≤ sizeLine) (hz : ∀ p ∈ rows, p.2.length ≤ sizeLine) :
    ∀ (k i : Nat) (s : Shared) (T nT c : Nat), rows.length - i = k → i ≤ rows.length → s.heap.IsListIter I ax i → s.heap.IsList ax (rows.map fun p => Value.ref p.1).toArray →
      s.heap.get? S = some { cls := .type "list", dict := none, data := .seq #[.ref T] c, slots := #[] } → s.heap.get? T = some (LO (preL rows i) nT) → T ≠ I → T ≠ S → (∀ p ∈ rows, ∃ m, s.heap.get? p.1 = some (LO p.2 m)) →
      (∀ h' tk T' m, (∀ b o, b ≠ I → b ≠ S → s.heap.get? b = some o → h'.get? b = some o) → h'.get? T' = some (LO (preL rows rows.length) m) → (T' = T ∧ i = rows.length ∨ s.heap.objs.size ≤ T') → R (.ok (.ret (.ref T'))) { s with heap := h', toks := tk }) →
      codeAny (model prog w) A (.builtin "sum.loop" ⟨[.ref I, .ref S, rawInt 2, rawInt 0], []⟩) R s := by
  intro k
  induction k with
  | zero =>
    intro i s T nT c hk hi hst hl hS hT hTI hTS hrs hR
    have hin : i = rows.length := by omega
    subst hin
    refine codeAny_builtin F.entry_sum_loop ?_
    rw [Around.under_plainId F.plain_sum_loop _]
    show wpAny _ A.in1 (seqItems? (.ref S) >>= _) _ _ s
    refine wpAny_bind (wpAny_seqItems hS rfl ?_)
    show wpAny _ A.in1 (tryCatch (pyNext (.ref I)) _ >>= _) _ _ s
    refine wpAny_bind (wpAny_tryCatch (wpAny_pyNext_list_end hh hst hl (by simp) fun h' ex => ?_))
    exact wpAny_pure (hR h' s.toks T nT (fun b o hb _ e => ex b o hb e) (ex T _ hTI hT) (.inl ⟨rfl, rfl⟩))
  | succ k ih =>
    intro i s T nT c hk hi hst hl hS hT hTI hTS hrs hR
    have hlt : i < rows.length := by omega
    have hp := List.getElem?_eq_getElem hlt
    have hm : rows[i] ∈ rows := List.getElem_mem hlt
    generalize rows[i] = p at hp hm
    refine codeAny_builtin F.entry_sum_loop ?_
    rw [Around.under_plainId F.plain_sum_loop _]
    show wpAny _ A.in1 (seqItems? (.ref S) >>= _) _ _ s
    refine wpAny_bind (wpAny_seqItems hS rfl ?_)
    show wpAny _ A.in1 (tryCatch (pyNext (.ref I)) _ >>= _) _ _ s
    refine wpAny_bind (wpAny_tryCatch (wpAny_pyNext_list_item hst hl (x := .ref p.1) (by simp [hp]) fun h' hit' hs' => ?_))
    have ex := hs'.extBut
    obtain ⟨m, hpm⟩ := hrs p hm
    have hT' := ex T _ hTI hT
    have hp' := ex p.1 _ (hrow p hm).1 hpm
    have hS' := ex S _ hSI hS
    show wpAny _ A.in1 ((holding [Value.ref p.1] (binaryOp .Add (.ref T) (.ref p.1))).attempt >>= _) _ _ _
    have hlen : (preL rows i).length + p.2.length ≤ sizeLine := by
      have := hsz (i + 1)
      rwa [preL_succ hp, List.length_append] at this
    refine wpAny_bind (wpAny_attempt (wpAny_holding (PySem.P.add_list hT' hp' ?_ (by rw [List.size_toArray, List.size_toArray]; exact hlen))))
    have hS2 : (h'.push { cls := .type "list", data := .seq ((preL rows i).toArray ++ p.2.toArray) }).get? S = some { cls := .type "list", dict := none, data := .seq #[.ref T] c, slots := #[] } := Heap.get?_push_of_some _ hS'
    show wpAny _ A.in1 (updateSeq S (fun _ => #[.ref h'.objs.size]) >>= _) _ _ _
    refine wpAny_bind ?_
    refine wpAny_updateSeq hS2 rfl ?_
    have hS3 := Heap.get?_update_self (Obj.mapSeq fun _ => #[Value.ref h'.objs.size]) hS2 rfl
    refine wpAny_bind (wpAny_letGo ?_)
    refine wpAny_bind ?_
    have hSlt : S < h'.objs.size := Heap.lt_size hS'
    have hIlt : I < h'.objs.size := by obtain ⟨_, e, _⟩ := hit'; exact Heap.lt_size e
    have old : ∀ b o, b ≠ S → h'.get? b = some o → (((h'.push { cls := .type "list", data := .seq ((preL rows i).toArray ++ p.2.toArray) }).update S (Obj.mapSeq fun _ => #[Value.ref h'.objs.size])).update S (Obj.mapSeq fun _ => #[Value.ref h'.objs.size])).get? b = some o := fun b o hb e =>
      (Heap.get?_update_other _ _ (Ne.symm hb)).trans ((Heap.get?_update_other _ _ (Ne.symm hb)).trans (Heap.get?_push_of_some _ e))
    refine wpAny_updateSeq hS3 rfl (wpAny_pure ⟨plainId_quiet F.plain_sum_loop _, ih (i + 1) _ h'.objs.size 0 _ (by omega) hlt ?_ ?_ (Heap.get?_update_self _ hS3 rfl) ?_ (Nat.ne_of_gt hIlt) (Nat.ne_of_gt hSlt) (fun q hq => ?_) fun h'' tk T' m' hk'' hT'' hfr => ?_⟩)
    · obtain ⟨o, e, h1, h2⟩ := hit'
      exact ⟨o, old I o (Ne.symm hSI) e, h1, h2⟩
    · obtain ⟨o, e, h1, h2⟩ := hl
      exact ⟨o, old ax o (Ne.symm hSax) (ex ax o hIax e), h1, h2⟩
    · refine (Heap.get?_update_other _ _ (Nat.ne_of_lt hSlt)).trans ((Heap.get?_update_other _ _ (Nat.ne_of_lt hSlt)).trans ?_)
      rw [preL_succ hp]
      refine (Heap.get?_push_size _ rfl).trans ?_
      simp
    · obtain ⟨mq, hmq⟩ := hrs q hq
      exact ⟨mq, old q.1 _ (hrow q hq).2 (ex q.1 _ (hrow q hq).1 hmq)⟩
    · refine hR h'' tk T' m' (fun b o hb hbS e => hk'' b o hb hbS (old b o hbS (ex b o hb e))) hT'' (.inr ?_)
      have hs1 : h'.objs.size = s.heap.objs.size := hs'.1
      rcases hfr with ⟨rfl, _⟩ | hfr
      · exact Nat.le_of_eq hs1.symm
      · rw [Heap.size_update, Heap.size_update, Heap.size_push] at hfr
        exact Nat.le_trans (Nat.le_of_eq hs1.symm) (Nat.le_of_succ_le hfr)
end
theorem args_sum2 (a b : Value) : argsOk "sum" ⟨[a, b], []⟩ := by unfold argsOk; kernel_rfl
def rSumL (K : PySem.W.Frag) : List V → Hp → VK → Prop := fun vs H Q => ∃ (a st : Addr) (ps : List Addr) (rows : List (List V)), vs = [.ref a, .ref st] ∧ H a = some (.lst (ps.map V.ref)) ∧ H st = some (.lst []) ∧ ps ≠ [] ∧ Paired (fun p r => H p = some (.lst r)) ps rows ∧ rows.flatten.length ≤ 1000 ∧ ∀ p, H p = none → Q (.ref p) (upd H p (.lst rows.flatten))
section
variable {X : Cx}
theorem rows_heap {pins : List (Addr × Obj)} {σ : L2.St} {H : Hp} {s : Shared} (I : Inv X pins σ H s) : ∀ {ps : List Addr} {rows : List (List V)}, Paired (fun p r => H p = some (.lst r)) ps rows → ∃ its : List (Addr × List Value), its.map (·.1) = ps ∧ Vals rows.flatten (its.flatMap (·.2)) ∧ ∀ p ∈ its, ∃ m, s.heap.get? p.1 = some (LO p.2 m)
  | _, _, .nil => ⟨[], rfl, .nil, fun _ h => nomatch h⟩
  | p :: ps, r :: rows, .cons h q => by
    obtain ⟨its, h1, h2, h3⟩ := rows_heap I q
    obtain ⟨_, l, n, rv, _, e⟩ := I.lstM h
    refine ⟨(p, l) :: its, by rw [List.map_cons, h1], ?_, fun x hx => ?_⟩
    · rw [List.flatten_cons, List.flatMap_cons]
      exact rv.append h2
    · rcases List.mem_cons.mp hx with rfl | hx
      · exact ⟨n, e⟩
      · exact h3 x hx
theorem refs_vals : ∀ {ps : List Addr} {us : List Value}, Vals (ps.map V.ref) us → us = ps.map Value.ref
  | [], _, .nil => rfl
  | p :: ps, _, .cons h q => by
    cases (show _ = Value.ref p from h)
    rw [refs_vals q, List.map_cons]
theorem cr_sumL (hc : X.calm = true) : CallR X (.builtin "sum") (rSumL X.K) := by
  intro pins s σ H vs us Q I r h
  obtain ⟨a, st, ps, rows, rfl, ha, hst, hne, hp, hl, q⟩ := h
  obtain ⟨u1, u2, rfl, r1, r2⟩ := vals2 r
  cases (show u1 = Value.ref a from r1)
  cases (show u2 = Value.ref st from r2)
  obtain ⟨_, la, na, ra, _, ea⟩ := I.lstM ha
  have e1 := refs_vals ra
  subst e1
  obtain ⟨_, l0, n0, r0, hl0, e0⟩ := I.lstM hst
  obtain rfl : l0 = [] := List.length_eq_zero_iff.mp hl0.symm
  obtain ⟨its, hi1, hi2, hi3⟩ := rows_heap I hp
  subst hi1
  have hh : X.A.in1.handled = none := I.ok.hd hc
  have hll : ((its.map (·.1)).map Value.ref) = its.map fun p => Value.ref p.1 := by rw [List.map_map]; rfl
  rw [hll] at ea
  have halt : a < s.heap.objs.size := Heap.lt_size ea
  have hstlt : st < s.heap.objs.size := Heap.lt_size e0
  have hfl : ∀ i, (preL its i).length ≤ sizeLine := fun i => by
    have e2 : (its.flatMap (·.2)).length = rows.flatten.length := hi2.length.symm
    have : (preL its i).length ≤ (its.flatMap (·.2)).length := by
      unfold preL
      conv => rhs; rw [← List.take_append_drop i its, List.flatMap_append, List.length_append]
      omega
    rw [sizeLine_eq]; omega
  have hzl : ∀ p ∈ its, p.2.length ≤ sizeLine := fun p hp => by
    have e2 : (its.flatMap (·.2)).length = rows.flatten.length := hi2.length.symm
    have : p.2.length ≤ (its.flatMap (·.2)).length := (List.sublist_flatten_of_mem (List.mem_map.mpr ⟨p, hp, rfl⟩)).length_le
    rw [sizeLine_eq]; omega
  refine call_function_tree F.kind_sum F.plain_sum F.entry_sum (args_sum2 _ _) ?_
  unfold Builtin.«sum»
  simp only [List.length_cons, List.length_nil]
  rw [if_neg (by decide)]
  refine wpAny_bind (wpAny_of_eq (show Builtin.Builtins.bindParams "sum" ["start"] 0 { pos := [.ref st] } = pure [some (.ref st)] from rfl) ?_)
  refine wpAny_bind (wpAny_pyIter_list (items := (its.map fun p => Value.ref p.1).toArray) ⟨_, ea, rfl, na, rfl⟩ ?_)
  refine wpAny_bind (wpAny_pure ?_)
  have hty : ∀ {h : Heap} {t' : Nat}, h.get? st = some (LO [] n0) → Shared.TypeIs { s with heap := h, toks := t' } (.ref st) "list" := fun e => ⟨_, e, rfl⟩
  have e0' : (s.heap.push { cls := .type "list_iterator", data := .fields #[.ref a, .int 0 0] }).get? st = some (LO [] n0) := Heap.get?_push_of_some _ e0
  simp only [List.forIn_cons, List.forIn_nil]
  refine wpAny_bind (wpAny_bind (wpAny_bind (wpAny_isInstance (T := "list") (b := false) (hty (t' := s.toks) e0') F.sub_list_str ?_)))
  simp only [Bool.false_eq_true, if_false]
  refine wpAny_pure (wpAny_bind (wpAny_bind (wpAny_isInstance (T := "list") (b := false) (hty (t' := s.toks) e0') F.sub_list_bytes ?_)))
  simp only [Bool.false_eq_true, if_false]
  refine wpAny_pure (wpAny_bind (wpAny_bind (wpAny_isInstance (T := "list") (b := false) (hty (t' := s.toks) e0') F.sub_list_bytearray ?_)))
  simp only [Bool.false_eq_true, if_false]
  refine wpAny_pure (wpAny_pure ?_)
  refine wpAny_bind (wpAny_newObj_type ?_)
  have hsz : (s.heap.push { cls := .type "list_iterator", data := .fields #[.ref a, .int 0 0] }).objs.size = s.heap.objs.size + 1 := Heap.size_push _ _
  have old2 : ∀ b o, s.heap.get? b = some o → ((s.heap.push { cls := .type "list_iterator", data := .fields #[.ref a, .int 0 0] }).push { cls := .type "list", data := .seq [Value.ref st].toArray }).get? b = some o := fun b o e => Heap.get?_push_of_some _ (Heap.get?_push_of_some _ e)
  refine wpAny_pure ⟨plainId_quiet F.plain_sum_loop _, sum_lists (I := s.heap.objs.size) (ax := a) (rows := its) hh (Nat.ne_of_lt halt) (Nat.ne_of_gt (by rw [hsz]; exact Nat.lt_succ_self _)) (Nat.ne_of_gt (by rw [hsz]; exact Nat.lt_succ_of_lt halt)) (fun p hp => ?_) hfl hzl its.length 0 _ st n0 0 rfl (Nat.zero_le _) ?_ ?_ (Heap.get?_push_size _ rfl) (old2 _ _ e0) (Nat.ne_of_lt hstlt) (Nat.ne_of_lt (by rw [hsz]; exact Nat.lt_succ_of_lt hstlt)) (fun p hp => ?_) fun h' tk T' m hk hT hfr => ?_⟩
  · obtain ⟨m, e⟩ := hi3 p hp
    have := Heap.lt_size e
    exact ⟨Nat.ne_of_lt this, Nat.ne_of_lt (by rw [hsz]; exact Nat.lt_succ_of_lt this)⟩
  · exact ⟨_, Heap.get?_push_of_some _ (Heap.get?_push_size _ rfl), rfl, rfl⟩
  · exact ⟨_, old2 _ _ ea, rfl, na, rfl⟩
  · obtain ⟨m, e⟩ := hi3 p hp
    exact ⟨m, old2 _ _ e⟩
  · have hlen : 0 < its.length := by
      cases its with
      | nil => exact absurd rfl hne
      | cons x xs => simp
    have hT2 : s.heap.objs.size ≤ T' := by
      rcases hfr with ⟨_, h0⟩ | h
      · exact absurd h0 (Nat.ne_of_lt hlen)
      · rw [Heap.size_push, hsz] at h
        exact Nat.le_of_succ_le (Nat.le_of_succ_le h)
    have hnew := q T' (I.hok.fresh hT2)
    have hpre : preL its its.length = its.flatMap (·.2) := by unfold preL; rw [List.take_length]
    rw [hpre] at hT
    refine ⟨.ref T', _, I.laid (o := .lst rows.flatten) (t' := tk) (fun b o e => hk b o ?_ ?_ (old2 b o e)) hT2 ⟨by rw [sizeLine_eq]; omega, _, m, hi2, hT⟩, rfl, hnew⟩
    · exact Nat.ne_of_lt (Heap.lt_size e)
    · rw [hsz]; exact Nat.ne_of_lt (Nat.lt_succ_of_lt (Heap.lt_size e))
end
end DL

namespace DL
open PySem PySem.Spec L2
open PyProof.Rows hiding St

theorem cr_sumLK {X : Cx} (K : PySem.W.Frag) (hc : X.calm = true) (h : X.K = K := by rfl) : CallR X (.builtin "sum") (rSumL K) := h ▸ cr_sumL hc
def rMin2 : List V → Hp → VK → Prop := fun xs H Q => ∃ i j, xs = [.int i, .int j] ∧ Q (.int (if j < i then j else i)) H
theorem cr_min2 {X : Cx} (hc : X.calm = true) : CallR X (.builtin "min") rMin2 := call_min2 hc
section
variable {K : PySem.W.Frag} {Γ : List Sl} {ta tb te : TE} {c : Cb} {k : Kt} {a : As}
theorem ev_min2 {i j : Int} (ha : EvA ta Γ (Dt K (.int i))) (hb : EvA tb Γ (Dt K (.int j))) : EvA (tCB rMin2 (tCons ta (tCons tb tNil))) Γ (Dt K (.int (if j < i then j else i))) := fun Hf H σ A e Q q =>
  ha Hf H σ A e _ fun x Hf1 H1 e1 px => hb Hf1 H1 σ A (e.ext e1) _ fun y Hf2 H2 e2 py => by
    cases dt_int px
    cases dt_int py
    exact ⟨i, j, rfl, q _ Hf2 H2 (e1.trans e2) (.int _)⟩
theorem ev_eqB {i j : Bool} (ha : EvA ta Γ (Dt K (.bool i))) (hb : EvA tb Γ (Dt K (.bool j))) : EvA (tOp rEq ta tb) Γ (Dt K (.bool (i == j))) :=
  (ev_eqS (x := .bl i) (y := .bl j) ha hb (fun H v h => dt_bl h) (fun H v h => dt_bl h) rfl).is (by cases i <;> cases j <;> rfl)
theorem ev_neB {i j : Bool} (ha : EvA ta Γ (Dt K (.bool i))) (hb : EvA tb Γ (Dt K (.bool j))) : EvA (tOp rNe ta tb) Γ (Dt K (.bool (i != j))) :=
  (ev_neS (x := .bl i) (y := .bl j) ha hb (fun H v h => dt_bl h) (fun H v h => dt_bl h) rfl).is (by cases i <;> cases j <;> rfl)
/-- sum(tray, []) -/
theorem tray_rows {H : Hp} : ∀ {xs : List V} {t : List (List Int)}, DqAll K H xs (t.map DI) → ∃ (ps : List Addr) (rows : List (List V)), xs = ps.map V.ref ∧ Paired (fun p r => H p = some (.lst r)) ps rows ∧ Pa H rows.flatten ((t.flatten.map PyData.int).map (Dt K))
  | _, [], .nil => ⟨[], [], rfl, .nil, .nil⟩
  | _, r :: t, .cons h q => by
    obtain ⟨ps, rows, h1, h2, h3⟩ := tray_rows (t := t) q
    cases h with
    | lst hp hq =>
      refine ⟨_ :: ps, _ :: rows, by rw [h1]; rfl, .cons hp h2, ?_⟩
      rw [List.flatten_cons, List.flatten_cons, List.map_append, List.map_append]
      exact pa_app (pa_dpAll hq) h3
theorem ew_sumL {t : List (List Int)} (h : EvA te Γ (Dt K (DT t))) (hn : t ≠ []) (hl : t.flatten.length ≤ 1000) : EvW (tCB (rSumL K) (tCons te (tCons (tLst tNil) tNil))) Γ (OL ((t.flatten.map PyData.int).map (Dt K))) := fun Hf H σ A e Q q =>
  h Hf H σ A e _ fun v Hf1 H1 e1 pv => by
    cases pv with
    | lst hp hq =>
      obtain ⟨ps, rows, rfl, h2, h3⟩ := tray_rows (t := t) hq
      refine ⟨by simp, fun st hst => ?_⟩
      have E1 : Ext Hf1 H1 Hf1 (upd H1 st (.lst [])) := .loose e1.z hst
      have hlr : rows.flatten.length ≤ 1000 := by rw [pa_len h3, List.length_map, List.length_map]; exact hl
      refine ⟨_, st, ps, rows, rfl, E1.z _ _ hp, upd_same, fun z => hn (by
        subst z
        cases h2
        cases t with
        | nil => rfl
        | cons r t => cases hq), ?_, hlr, fun l hl' => ?_⟩
      · clear hq h3 hp
        induction h2 with
        | nil => exact .nil
        | cons hx _ ih => exact .cons (E1.z _ _ hx) (ih (by
            refine Nat.le_trans ?_ hlr
            simp))
      · refine q _ Hf1 _ [l] ((e1.trans E1).trans (.loose E1.z hl')) (fun a ha => by
          obtain rfl : a = l := by simpa using ha
          exact (e1.trans E1).h.free hl') ⟨l, _, rfl, rfl, E1.z.free hl', upd_same, h3⟩
/-! ### instances -/
abbrev FsOk (H : Hp) : List (Str × V) → List (Str × As) → Prop := Paired fun f a => f.1 = a.1 ∧ a.2.p H f.2
theorem fs_mono {H H' : Hp} (e : Same H H') : ∀ {fs : List (Str × V)} {as : List (Str × As)}, FsOk H fs as → FsOk H' fs as
  | _, _, .nil => .nil
  | _, _, .cons h q => .cons ⟨h.1, As.mono _ e h.2⟩ (fs_mono e q)
def ObA (C : Addr) (as : List (Str × As)) : As := ⟨fun H v => ∃ p dx fs, v = .ref p ∧ H p = some (.ins C dx fs) ∧ FsOk H fs as, fun e ⟨p, dx, fs, h1, h2, h3⟩ => ⟨p, dx, fs, h1, e _ _ h2, fs_mono e h3⟩⟩
theorem fs_get {H : Hp} {f : Str} : ∀ {fs : List (Str × V)} {as : List (Str × As)}, FsOk H fs as → (∀ a, as.lookup f = some a → ∃ v, fs.lookup f = some v ∧ a.p H v) ∧ (as.lookup f = none → fs.lookup f = none)
  | _, _, .nil => ⟨fun a h => by simp at h, fun _ => rfl⟩
  | (g, v) :: fs, (g', a) :: as, .cons h q => by
    obtain ⟨h1, h2⟩ := h
    cases (show g = g' from h1)
    obtain ⟨i1, i2⟩ := fs_get (f := f) q
    simp only [List.lookup_cons]
    cases f == g with
    | true => exact ⟨fun b e => by obtain rfl := Option.some.inj e; exact ⟨v, rfl, h2⟩, fun e => nomatch e⟩
    | false => exact ⟨i1, i2⟩
/-- a class whose __init__ stores its parameters -/
def SpI (C : Addr) (fns : List Str) : Sp := fun vs H Q E => ∃ x dx args, vs = .ref x :: args ∧ args.length = fns.length ∧ H x = some (.ins C dx []) ∧ ∀ H', H' x = some (.ins C dx (fns.zip args)) → (∀ a, a ≠ x → H' a = H a) → Q .non H'
structure MkC (P : Program) (w : World) (K : PySem.W.Frag) (mg : Str → Option Value) (base : Heap) (k : Nat) (x : Str) (C : Addr) (sp : Sp) : Prop where
  ex : ∃ (f : Addr) (fd : FuncData) (ps : List Str), Mk K C f ∧ FnOk P w K mg base L2.CX0 k f fd ps sp ∧ mg x = some (.ref C) ∧ Binds K fd ps []
structure MtC (P : Program) (w : World) (K : PySem.W.Frag) (mg : Str → Option Value) (base : Heap) (k : Nat) (C : Addr) (m : Str) (sp : Sp) : Prop where
  ex : ∃ (f : Addr) (fd : FuncData) (ps : List Str), Cls K C ∧ Meth K C m f ∧ FnOk P w K mg base L2.CX0 k f fd ps sp ∧ Binds K fd ps []
section
variable {X : Cx} {kk j : Nat} {C : Addr} {x m : Str} {sp : Sp} {p pos apos : Pos} {e o : Expr} {es : List Expr} {t : TA}
theorem pe_mkc (c : MkC X.prog X.w X.K X.mg X.base kk x C sp) (hr : Room j X.A) (hk : kk + 1 ≤ j) (hg : Gl X x) (ha : PA X (e :: es) t)
    (hdb : (x == ("__debug__" : Str)) = false := by decide) (he : starEach (e :: es) X.env = (false, eval e X.env) :: starEach es X.env := by rfl) (hpl : (backTo pos (starEach es X.env)).any (·.1) = false := by rfl) :
    PE X (.Call (.Name x p) (e :: es) [] pos) (tMake C sp [] L2.E0 t) := by
  obtain ⟨f, fd, ps, M, F, hm, b⟩ := c.ex
  exact pe_make M F (hr.mono hk) hg hm b .nil L2.pass0 ha hdb he hpl
theorem pe_mtc {to : TE} {pl : Sem Bool} (c : MtC X.prog X.w X.K X.mg X.base kk C m sp) (hr : Room j X.A) (hk : kk ≤ j) (he : PE X o to) (ha : PA X (e :: es) t)
    (hst : starEach (e :: es) X.env = (false, eval e X.env) :: starEach es X.env := by rfl) (hpl : (backTo pos (starEach es X.env)).any (·.1) = false := by rfl)
    (ht : eval (.Call (.Attribute o m apos) (e :: es) [] pos) X.env = (do
      let ov ← eval o X.env
      standAt apos.atName
      let (f, first) ← holding [ov] (getMethod ov m pl)
      callWith pos f first (backTo pos (starEach (e :: es) X.env)) (backToKw pos (keywordEach [] X.env))) := by rfl) :
    PE X (.Call (.Attribute o m apos) (e :: es) [] pos) (tMeth C m sp [] L2.E0 to t) := by
  obtain ⟨f, fd, ps, hc, hm, F, b⟩ := c.ex
  exact pe_meth (pl := pl) he hc hm F (hr.mono hk) b .nil L2.pass0 ha hst hpl ht
theorem pe_fldK {to : TE} (K : PySem.W.Frag) {f : Str} (he : PE X o to) (hb : attributeBase o f X.env (eval o X.env) = eval o X.env := by rfl) (hK : X.K = K := by rfl) : PE X (.Attribute o f pos) (tFld K to f) := hK ▸ pe_fld he hb
/-- one of two readings of an expression -/
theorem pe_either {t1 t2 : TE} (h1 : PE X e t1) (h2 : PE X e t2) : PE X e (fun σ H Q => t1 σ H Q ∨ t2 σ H Q) := ⟨fun pins s σ H Q I h => h.elim (h1.run pins s σ H Q I) (h2.run pins s σ H Q I)⟩
end
theorem fns_fs {H : Hp} : ∀ {fns : List Str} {vs : List V} {as : List As}, Pa H vs as → FsOk H (fns.zip vs) (fns.zip as)
  | [], _, _, _ => .nil
  | _ :: _, _, _, .nil => .nil
  | f :: fns, _, _, .cons h q => .cons ⟨rfl, h⟩ (fns_fs (fns := fns) q)
theorem ev_make {t : TA} {C : Addr} {fns : List Str} {as : List As} (h : EvS t Γ as) (hl : as.length = fns.length) : EvA (tMake C (SpI C fns) [] L2.E0 t) Γ (ObA C (fns.zip as)) := fun Hf H σ A e Q q =>
  h Hf H σ A e _ fun vs Hf1 H1 e1 pv x dx hx hdx hne => by
    rw [List.append_nil]
    refine ⟨x, dx, vs, rfl, by rw [pa_len pv]; exact hl, upd_same, fun H' hx' hk => ⟨rfl, ?_⟩⟩
    have hfx : Hf1 x = none := e1.z.free hx
    have hfd : Hf1 dx = none := e1.z.free hdx
    have old : ∀ b o, H1 b = some o → H' b = some o := fun b o hb => by
      have n1 : b ≠ x := ne_of_none hb hx
      have n2 : b ≠ dx := ne_of_none hb hdx
      rw [hk b n1, upd_ne n1, upd_ne n2]; exact hb
    have E : Ext Hf1 H1 (upd Hf1 x (.ins C dx (fns.zip vs))) H' := ⟨fun b o hb => by rw [upd_ne (ne_of_none hb hfx)]; exact hb, old, fun b o hb => by
        by_cases c : b = x
        · subst c; rw [upd_same] at hb; rw [← hb]; exact hx'
        · rw [upd_ne c] at hb; exact old b o (e1.z _ _ hb), fun b hb hf => by
        have c : b ≠ x := fun z => hb (by rw [z]; exact hx)
        rw [upd_ne c]; exact hf⟩
    exact q _ _ _ (e1.trans E) ⟨x, dx, _, rfl, upd_same, fns_fs (pa_mono E.f pv)⟩
theorem ev_fld {C : Addr} {f : Str} {as : List (Str × As)} (h : EvA ta Γ (ObA C as)) (hc : Cls K C) (hn : NoAttr K C f) (hf : as.lookup f = some a) : EvA (tFld K ta f) Γ a := fun Hf H σ A e Q q =>
  h Hf H σ A e _ fun v Hf1 H1 e1 ⟨p, dx, fs, ev, hp, hfs⟩ => by
    subst ev
    obtain ⟨u, hu, pu⟩ := (fs_get (f := f) hfs).1 a hf
    exact ⟨p, C, dx, fs, u, rfl, e1.z _ _ hp, hc, hn, hu, q u Hf1 H1 e1 pu⟩
theorem ev_meth {C : Addr} {m : Str} {t : TA} {as : List As} {fs : List (Str × As)} {n : Nat} {R : List As → Outc → Prop} (h : EvA ta Γ (ObA C fs)) (hs : EvS t Γ as) (r : R (ObA C fs :: as) (.ret a)) (hn : (ObA C fs :: as).length = n) (hm : fs.lookup m = none) : EvA (tMeth C m (SpD n R) [] L2.E0 ta t) Γ a := fun Hf H σ A e Q q =>
  h Hf H σ A e _ fun v Hf1 H1 e1 pv => by
    obtain ⟨p, dx, vs, ev, hp, hfs⟩ := id pv
    subst ev
    refine ⟨p, dx, vs, rfl, e1.z _ _ hp, (fs_get (f := m) hfs).2 hm, hs Hf1 H1 σ A (e.ext e1) _ fun us Hf2 H2 e2 pu => ?_⟩
    rw [List.append_nil]
    exact ⟨Hf2, ObA C fs :: as, _, hn, e2.z, .cons (As.mono _ e2.f pv) pu, r, fun v Hf3 H3 e3 p3 => q v Hf3 H3 ((e1.trans e2).trans e3) p3⟩
end
end DL

namespace SL
open PySem PySem.Spec L2 DL
open PyProof.Rows hiding St
/-! our own steps: "evs" looks at all goals, "ev" at one that tells what an expression gives -/
local macro_rules | `(tactic| walk_at "evs") => `(tactic| all_goals (first
  | ((fail_if_success (with_reducible show EvA _ _ _)); (fail_if_success (with_reducible show EvB _ _ _)); (fail_if_success (with_reducible show EvS _ _ _)); (fail_if_success (with_reducible show EvDs _ _ _ _)); (fail_if_success (with_reducible show EvL _ _ _)); (fail_if_success (with_reducible show EvW _ _ _)); (fail_if_success (with_reducible show EvO _ _ _)); skip)
  | walk_at "ev"))
local macro_rules | `(tactic| walk_at "ev") => `(tactic| first
  | with_reducible assumption
  | ((with_reducible apply ev_var); (first | rfl | exact Eq.refl _))
  | ((with_reducible apply ev_int); (try assumption))
  | ((with_reducible apply ev_str); (try assumption))
  | ((with_reducible apply ev_bl); (try assumption))
  | ((with_reducible apply ev_non); (try assumption))
  | ((with_reducible apply ev_I0i); walk_at "evs")
  | ((with_reducible apply ev_I0b); walk_at "evs")
  | ((with_reducible apply ev_Ii); walk_at "evs")
  | ((with_reducible apply ev_chain); walk_at "evs")
  | ((with_reducible apply ev_eqI); walk_at "evs")
  | ((with_reducible apply ev_eqT); walk_at "evs")
  | ((with_reducible apply ev_neI); walk_at "evs")
  | ((with_reducible apply ev_neT); walk_at "evs")
  | ((with_reducible apply ev_isNone); walk_at "evs")
  | ((with_reducible apply ev_notNone); walk_at "evs")
  | ((with_reducible apply ev_addStr); walk_at "evs")
  | ((with_reducible apply ev_negI); walk_at "evs")
  | ((with_reducible apply ev_in eq_int' sh_int); walk_at "evs")
  | ((with_reducible apply ev_notIn eq_int' sh_int); walk_at "evs")
  | ((with_reducible apply ev_inK); walk_at "evs")
  | ((with_reducible apply ev_notInK); walk_at "evs")
  | ((with_reducible apply ev_inSg); walk_at "evs")
  | ((with_reducible apply ev_isT); (walk_at "evs"); (all_goals (try (first | exact Or.inl rfl | exact Or.inr (Or.inl rfl) | exact Or.inr (Or.inr (Or.inl rfl)) | exact Or.inr (Or.inr (Or.inr (Or.inl rfl))) | exact Or.inr (Or.inr (Or.inr (Or.inr rfl)))))))
  | ((with_reducible apply ev_andV); (walk_at "evs"))
  | ((with_reducible apply ev_revS); walk_at "evs")
  | ((with_reducible apply ev_join); walk_at "evs")
  | ((with_reducible apply ev_all); walk_at "evs")
  | ((with_reducible apply ew_listRg); walk_at "evs")
  | ((with_reducible apply ev_ixLD); walk_at "evs")
  | ((with_reducible apply ev_ixT); walk_at "evs")
  | ((with_reducible apply ev_ixS); walk_at "evs")
  | ((with_reducible apply ev_tupD); walk_at "evs")
  | ((with_reducible apply ev_lstD); walk_at "evs")
  | ((with_reducible apply ew_lstD); walk_at "evs")
  | with_reducible exact ed_nil
  | ((with_reducible apply ed_cons); walk_at "evs")
  | with_reducible exact es_nil
  | ((with_reducible apply es_cons); walk_at "evs")
  | ((with_reducible apply eb_test); walk_at "evs")
  | ((with_reducible apply eb_B); walk_at "evs")
  | with_reducible exact eb_yes
  | ((with_reducible apply eb_not); walk_at "evs")
  | ((with_reducible apply eb_and'); walk_at "evs")
  | ((with_reducible apply eb_or'); walk_at "evs")
  | ((with_reducible apply ev_notV); walk_at "evs")
  | ((with_reducible apply ev_lenLD); walk_at "evs")
  | ((with_reducible apply ev_lenTD); walk_at "evs")
  | ((with_reducible apply ev_lenSD); walk_at "evs")
  | ((with_reducible apply ew_listD); walk_at "evs")
  | ((with_reducible apply ev_index eq_int' sh_int); walk_at "evs")
  | ((with_reducible apply ev_call); (walk_at "evs"); (try (case hn => rfl)))
  | ((with_reducible apply ew_call); (walk_at "evs"); (try (case hn => rfl)))
  | ((with_reducible show EvL (tLc _ _ _ _ _) _ _); apply el_w)
  | ((with_reducible apply el_dt); walk_at "evs")
  | ((with_reducible apply el_ow); (first | rfl | exact Eq.refl _))
  | ((with_reducible apply el_w); walk_at "evs")
  | with_reducible exact eo_none
  | ((with_reducible apply eo_some); walk_at "evs")
  | ((with_reducible show EvW (tLc _ _ _ _ _) _ _); skip)
  | ((with_reducible show EvA (tLc _ _ _ _ _) _ _); skip))
local macro_rules | `(tactic| walk_at "gm") => `(tactic| first | exact gm_name | exact gms_nil | (refine gm_tup ?_; walk_at "gm") | (refine gms_cons ?_ ?_ <;> walk_at "gm"))
local macro_rules | `(tactic| walk_at "gw") => `(tactic| first | exact gw_name (by decide) | exact gw_nil | (refine gw_tup ?_; walk_at "gw") | (refine gw_cons ?_ ?_ ?_; (walk_at "gm"); (walk_at "gw"); (walk_at "gw")))
/-! "gle": the slots, less known -/
local macro_rules | `(tactic| walk_at "gle") => `(tactic| first | exact GLe.nil | exact GLe.refl | (refine GLe.cons ?_ ?_; (first | exact Sl.le_refl _ | exact True.intro); (walk_at "gle")))
/-! "sd": what a reading asks beside -/
local macro_rules | `(tactic| walk_at "sd") => `(tactic| first | assumption | rfl | (simp only [List.length_cons, List.length_nil, List.length_map, sizeLine_eq]; omega) | (rw [sizeLine_eq]; omega))
/-! "evd": .. up to what the value is called -/
local macro_rules | `(tactic| walk_at "evd") => `(tactic| first | ((with_reducible apply EvA.is); (walk_at "evs"); (all_goals (try (walk_at "sd")))) | ((with_reducible apply EvB.is); (walk_at "evs"); (all_goals (try (walk_at "sd")))))
/-! "eg": a target of names -/
local macro_rules | `(tactic| walk_at "eg") => `(tactic| first | exact eg_name | exact eg_nil | (apply eg_cons; (walk_at "eg"); (walk_at "eg")) | (apply eg_pair; (walk_at "eg")) | (apply eg_tup (ds := [_, _]) (hn := rfl); (walk_at "eg")) | (apply eg_tupA (hn := rfl); (walk_at "eg")))
/-! "as": one statement x = e, then the rest; "ag": a, b = e -/
local macro_rules | `(tactic| walk_at "as") => `(tactic| (with_reducible apply rn_seq) <;> (with_reducible apply rn_asg) <;> (walk_at "evs") <;> (try dsimp only))
local macro_rules | `(tactic| walk_at "ag") => `(tactic| ((with_reducible apply rn_seq); (apply rn_asgG (hg := by walk_at "eg")); (walk_at "evs"); (all_goals (try dsimp only))))
/-! parts of a statement -/
def xAsg : Stmt → Expr
  | .Assign _ e _ => e
  | _ => .Name "" ⟨0, 0, 0, 0⟩
def xRet : Stmt → Expr
  | .Return (some e) _ => e
  | _ => .Name "" ⟨0, 0, 0, 0⟩
def xArg (n : Nat) : Expr → Expr
  | .Call _ es _ _ => es.getD n (.Name "" ⟨0, 0, 0, 0⟩)
  | e => e
def lcScope : Expr → Scope
  | .ListComp _ _ s _ => s
  | _ => ⟨.function, [], false, false, []⟩
abbrev topS (i : Nat) : Stmt := PySem.Challenge.pw_slidetray_k04_answers_by_hand.main.body.getD i (.Pass ⟨0, 0, 0, 0⟩)
abbrev s_place_of : Stmt := topS 2
theorem sc_place_of : FnScope ["tray", "piece", "at", "row"] ["tray", "piece"] (defScope s_place_of) :=
  ⟨rfl, rfl, rfl, by decide +kernel, rfl, by decide +kernel, by decide +kernel⟩
abbrev s_slid : Stmt := topS 3
theorem sc_slid : FnScope ["tray", "letter", "row", "column", "down", "right", "high", "wide", "found", "line"] ["tray", "letter"] (defScope s_slid) :=
  ⟨rfl, rfl, rfl, by decide +kernel, rfl, by decide +kernel, by decide +kernel⟩
theorem getq {α : Type} {l : List α} {i : Nat} (d : α) (h : i < l.length) : l[i]? = some (l.getD i d) := by
  rw [List.getD_eq_getElem?_getD, List.getElem?_eq_getElem h, Option.getD_some]
theorem at_map {α β : Type} {f : α → β} {xs : List α} {i : Int} {j : Nat} {x : α} (h : xs[j]? = some x) (e : i = (j : Int)) : atI (xs.map f) i = some (f x) := at_nat (by rw [List.getElem?_map, h]; rfl) e
theorem at_row {t : List (List Int)} {i : Int} {j : Nat} {r : List Int} (h : t[j]? = some r) (e : i = (j : Int)) : atI (t.map DI) i = some (.list (r.map PyData.int)) := at_map (f := DI) h e
theorem at_int {xs : List Int} {i : Int} {j : Nat} {x : Int} (h : xs[j]? = some x) (e : i = (j : Int)) : atI (xs.map PyData.int) i = some (.int x) := at_map h e
theorem first_filter {n k : Nat} {p : Nat → Bool} (hk : k < n) (hp : p k = true) (hno : ∀ j, j < k → p j = false) : ((List.range n).filter p)[0]? = some k := by
  rw [← List.head?_eq_getElem?, List.head?_filter, List.find?_range_eq_some]
  exact ⟨hp, by simpa using hk, fun j hj => by simp [hno j hj]⟩
/-- the row and the column of a piece -/
def rowOf (t : List (List Int)) (p : Int) : Nat := t.findIdx fun r => decide (p ∈ r)
def colOf (t : List (List Int)) (p : Int) : Nat := (t.getD (rowOf t p) []).idxOf p
def Has (t : List (List Int)) (p : Int) : Prop := ∃ r ∈ t, p ∈ r
def Rect (t : List (List Int)) (W : Nat) : Prop := ∀ r ∈ t, r.length = W
theorem row_lt {t : List (List Int)} {p : Int} (h : Has t p) : rowOf t p < t.length := List.findIdx_lt_length_of_exists (by obtain ⟨r, h1, h2⟩ := h; exact ⟨r, h1, decide_eq_true h2⟩)
theorem row_mem {t : List (List Int)} {p : Int} (h : Has t p) : p ∈ t.getD (rowOf t p) [] := by
  have hlt := row_lt h
  have hr' := List.findIdx_getElem (p := fun r => decide (p ∈ r)) (w := hlt)
  rw [List.getD_eq_getElem?_getD, List.getElem?_eq_getElem hlt, Option.getD_some]
  exact of_decide_eq_true hr'
theorem getD_mem {α : Type} {l : List α} {i : Nat} {d : α} (h : i < l.length) : l.getD i d ∈ l := by
  rw [List.getD_eq_getElem?_getD, List.getElem?_eq_getElem h, Option.getD_some]
  exact List.getElem_mem h
theorem col_lt {t : List (List Int)} {p : Int} {W : Nat} (h : Has t p) (hR : Rect t W) : colOf t p < W := by
  rw [← hR _ (getD_mem (row_lt h))]
  exact List.idxOf_lt_length_of_mem (row_mem h)
/-- the letters u d l r -/
def stepOf (c : Nat) : Option (Int × Int) := if c = 117 then some (-1, 0) else if c = 100 then some (1, 0) else if c = 108 then some (0, -1) else if c = 114 then some (0, 1) else none
def cellAt (t : List (List Int)) (r k : Nat) : Int := (t.getD r []).getD k 0
def putAt (t : List (List Int)) (r k : Nat) (z : Int) : List (List Int) := t.set r ((t.getD r []).set k z)
def slidM (t : List (List Int)) (c : Nat) : Option (List (List Int)) := match stepOf c with
  | none => none
  | some (dr, dc) =>
    let hi := (rowOf t 0 : Int) + dr
    let wi := (colOf t 0 : Int) + dc
    if 0 ≤ hi ∧ hi < (t.length : Int) ∧ 0 ≤ wi ∧ wi < ((t.getD 0 []).length : Int) then
      some (putAt (putAt t (rowOf t 0) (colOf t 0) (cellAt t hi.toNat wi.toNat)) hi.toNat wi.toNat 0)
    else none
theorem putAt_rect {t : List (List Int)} {W r k : Nat} {z : Int} (h : Rect t W) (hr : r < t.length) : Rect (putAt t r k z) W := by
  intro row hm
  rcases List.mem_or_eq_of_mem_set hm with h1 | rfl
  · exact h _ h1
  · rw [List.length_set]; exact h _ (getD_mem hr)
theorem put_row {t : List (List Int)} {W r k i : Nat} {z : Int} (h : Rect t W) (hr : r < t.length) (hi : i < t.length) : ((putAt t r k z).getD i []).length = W :=
  putAt_rect h hr _ (getD_mem (by show i < (List.set _ _ _).length; rw [List.length_set]; exact hi))
structure StepsOk (w : World) (K : PySem.W.Frag) (d : Addr) : Prop where
  kd : ∃ es n, KDict K w d es n
  it : ∀ c dr dc, stepOf c = some (dr, dc) → ∃ p, KDct K w d ⟨#[c]⟩ (.ref p) ∧ ∀ H, SqT K H p [.int dr, .int dc]
  ins : ∀ c p, stepOf c = some p → ∃ v, PySem.W.nsIn K d ⟨#[c]⟩ = some (some v)
  out : ∀ c, c = 120 ∨ c = 85 ∨ c = 32 ∨ c = 63 → PySem.W.nsIn K d ⟨#[c]⟩ = some none
section
variable {P : Program} {w : World} {K : PySem.W.Frag} {mg : Str → Option Value} {base : Heap}
def R_place_of (K : PySem.W.Frag) (as : List As) (o : Outc) : Prop := ∃ (t : List (List Int)) (p : Int), as = [Dt K (DT t), Dt K (.int p)] ∧ Has t p ∧ t.length ≤ 1000 ∧ o = .ret (Dt K (DP ((rowOf t p : Nat), (colOf t p : Nat))))
theorem ok_place_of {f : Addr} {fd : FuncData} (F : L2.Fun K "place_of" "place_of" s_place_of f fd) (n_enumerate : mg "enumerate" = none) : FnOk P w K mg base L2.CX0 1 f fd ["tray", "piece"] (SpD 2 (R_place_of K)) := by
  refine def_ok F sc_place_of rfl fun cdv A outer s Hf H as o E hr hR => ?_
  obtain ⟨t, p, rfl, hp, hl, rfl⟩ := hR
  refine ⟨_, (pss_one (ps_ret (pe_ix (ix_listK K) (pe_lc (own := [("at", 2), ("row", 3)]) (g := (gTup K 2 (gCons (gName 2) (gCons (gName 3) gNil)))) (by rfl) sc_place_of.nd (pi_enumK K (by rfl) n_enumerate (pa_cons (pv 0) pa_nil)) (blkOk_by (N := ["tray", "piece", "at", "row"]) (sc := defScope s_place_of) (own := [("at", 2), ("row", 3)]) (by decide +kernel)) (fun _ _ _ _ _ => (pg_tupK K (n := 2) (pgs_cons (pg_name (i := 2) sc_place_of.nd rfl (by first | exact Or.inl rfl | exact Or.inr rfl)) (pgs_cons (pg_name (i := 3) sc_place_of.nd rfl (by first | exact Or.inl rfl | exact Or.inr rfl)) pgs_nil)))) (fun _ _ _ _ _ => (pts_one (pt_cmpR (op_inDK K hr) (pv 1) (pv 3) (by rfl)))) (fun _ _ _ _ _ => (pe_tup (pa_cons (pv 2) (pa_cons (by exact (pe_bmK K PySem.F.plainAttrs_list PySem.F.slot_list_index PySem.F.type_list_index (mt_indexDK K hr) (pv 3) (pa_cons (pv 1) pa_nil))) pa_nil))))) pe_int (fun _ _ => rfl)))), ?_⟩
  refine rn_ret (a := Dt K (DP ((rowOf t p : Nat), (colOf t p : Nat)))) ?_ (As.le_refl _)
  walk_at "ev"
  · refine ew_lcP (List.range t.length) (fun i => Dt K (.tuple [.int ((i : Nat) : Int), (t.map DI).getD i .none])) (fun i => decide (p ∈ t.getD i [])) (fun i => DP ((i : Nat), ((t.getD i []).idxOf p : Nat))) ?_ (by walk_at "gw") (by simp; omega) fun i hi => ?_
    · have k := ei_enumD (K := K) (ev_var (i := 0) (Γ := G0 4 [Dt K (DT t), Dt K (.int p)]) (a := Dt K (DT t)) rfl)
      simpa using k
    · have hl : i < t.length := by simpa using hi
      have e : (t.map DI).getD i .none = DI (t.getD i []) := by simp [List.getD_eq_getElem?_getD, hl]
      simp only [e]
      refine ⟨_, by walk_at "eg", ?_, fun hm => ?_⟩
      · walk_at "evd"
      · have hm := of_decide_eq_true hm
        walk_at "evd"
  · have hlt := row_lt hp
    refine at_nat (j := 0) ?_ rfl
    rw [List.getElem?_map, first_filter (k := rowOf t p) hlt ?_ fun j hj => ?_]
    · rfl
    · exact decide_eq_true (row_mem hp)
    · have := List.not_of_lt_findIdx hj
      simpa [List.getD_eq_getElem?_getD, List.getElem?_eq_getElem (Nat.lt_trans hj hlt)] using this
def optT (K : PySem.W.Frag) : Option (List (List Int)) → Outc
  | none => .ret (Dt K .none)
  | some t => .own (OT K t)
def R_slid (K : PySem.W.Frag) (as : List As) (o : Outc) : Prop := ∃ (t : List (List Int)) (c W : Nat), as = [Dt K (DT t), Dt K (.str ⟨#[c]⟩)] ∧ Has t 0 ∧ Rect t W ∧ t.length ≤ 1000 ∧ W ≤ 1000 ∧ (stepOf c).isSome = true ∧ o = optT K (slidM t c)
theorem ok_slid {f : Addr} {fd : FuncData} {a_STEPS : Addr} (F : L2.Fun K "slid" "slid" s_slid f fd) (c_place_of : Cl P w K mg base L2.CX0 1 "place_of" (SpD 2 (R_place_of K))) (g_STEPS : mg "STEPS" = some (.ref a_STEPS)) (hS : StepsOk w K a_STEPS) (n_len : mg "len" = none) (n_list : mg "list" = none) :
    FnOk P w K mg base L2.CX0 2 f fd ["tray", "letter"] (SpD 2 (R_slid K)) := by
  refine def_ok F sc_slid rfl fun cdv A outer s Hf H as o E hr hR => ?_
  obtain ⟨t, c, W, rfl, h0, hRe, hl, hW, hc, rfl⟩ := hR
  refine ⟨_, (pss_cons (ps_asg (by exact (pe_cl c_place_of hr (by decide) (by rfl) (pa_cons (pv 0) (pa_cons pe_int pa_nil)))) (pg_tupK K (n := 2) (pgs_cons (pg_name (i := 2) sc_slid.nd rfl (by first | exact Or.inl rfl | exact Or.inr rfl)) (pgs_cons (pg_name (i := 3) sc_slid.nd rfl (by first | exact Or.inl rfl | exact Or.inr rfl)) pgs_nil))))
      (pss_cons (ps_asg (pe_ix (ix_kdK K w) (pe_glob (v := .ref a_STEPS) (by rfl) g_STEPS rfl) (pv 1) (fun _ _ => rfl)) (pg_tupK K (n := 2) (pgs_cons (pg_name (i := 4) sc_slid.nd rfl (by first | exact Or.inl rfl | exact Or.inr rfl)) (pgs_cons (pg_name (i := 5) sc_slid.nd rfl (by first | exact Or.inl rfl | exact Or.inr rfl)) pgs_nil))))
      (pss_cons (ps_par (i := 6) (j := 7) (by rfl) sc_slid.nd rfl rfl (by decide) rfl rfl (pa_cons (pe_op op_add (pv 2) (pv 4)) (pa_cons (pe_op op_add (pv 3) (pv 5)) pa_nil)) (by rfl))
      (pss_cons (ps_if (PW.pt (pw_or (pt_not (pt_chain op_le op_lt pe_int (pv 6) (by exact (pe_callB (call_lenK K) (by rfl) n_len (by decide +kernel) (pa_cons (pv 0) pa_nil))))) (pw_or1 (pt_not (pt_chain op_le op_lt pe_int (pv 7) (by exact (pe_callB (call_lenK K) (by rfl) n_len (by decide +kernel) (pa_cons (pe_ix (ix_listK K) (pv 0) pe_int (fun _ _ => rfl)) pa_nil)))))))) (pss_one (ps_ret pe_non)) pss_nil)
      (pss_cons (ps_setLc (i := 8) (own := [("line", 9)]) (g := (gName 9)) (by rfl) sc_slid.nd rfl rfl (sw_true rfl rfl rfl (by decide +kernel)) (pi_listK K (pv 0)) (blkOk_by (N := ["tray", "letter", "row", "column", "down", "right", "high", "wide", "found", "line"]) (sc := defScope s_slid) (own := [("line", 9)]) (by decide +kernel)) (fun _ _ _ _ _ => (pg_name (i := 9) sc_slid.nd rfl (by first | exact Or.inl rfl | exact Or.inr rfl))) (fun _ _ _ _ _ => pts_nil) (fun _ _ _ _ _ => (pe_callTy (call_listK K) (by rfl) n_list (by decide +kernel) (pa_cons (pv 9) pa_nil))))
      (pss_cons (ps_asg (pe_ix (ix_listK K) (pe_ix (ix_listK K) (pv 0) (pv 6) (fun _ _ => rfl)) (pv 7) (fun _ _ => rfl)) (pg_sub (pe_ix (ix_listK K) (pv 8) (pv 2) (fun _ _ => rfl)) (pv 3) set_list))
      (pss_cons (ps_asg pe_int (pg_sub (pe_ix (ix_listK K) (pv 8) (pv 6) (fun _ _ => rfl)) (pv 7) set_list))
      (pss_one (ps_ret (pv 8)))))))))), ?_⟩
  have hrl := row_lt h0
  have hcl := col_lt h0 hRe
  have h0W : ∀ i, i < t.length → (t.getD i []).length = W := fun i hi => hRe _ (getD_mem hi)
  obtain ⟨⟨dr, dc⟩, hst⟩ := Option.isSome_iff_exists.mp hc
  obtain ⟨q, hk1, hk2⟩ := hS.it c dr dc hst
  -- row, column = place_of(tray, 0)
  apply rn_seq
  refine rn_asgG (a := Dt K (DP ((rowOf t 0 : Nat), (colOf t 0 : Nat)))) ?_ (by walk_at "eg") ?_
  · walk_at "ev"
    exact ⟨t, 0, rfl, h0, hl, rfl⟩
  dsimp only
  -- down, right = STEPS[letter]
  apply rn_seq
  refine rn_asgG (a := Dt K (DP (dr, dc))) (ev_kd hk1 (fun H => .tup (hk2 H) (.cons (.int _) (.cons (.int _) .nil))) (by walk_at "ev")) (by walk_at "eg") ?_
  dsimp only
  -- high, wide
  apply rn_seq
  apply rn_par
  · walk_at "ev"
  dsimp only
  -- the test
  apply rn_seq
  apply rn_if
  · walk_at "ev"
    · exact at_row (getq [] (by omega : 0 < t.length)) rfl
  all_goals intro hb
  · apply rn_ret
    · walk_at "ev"
    · rw [show slidM t c = none from ?_]
      · exact As.le_refl _
      · unfold slidM
        rw [hst]
        simp at hb ⊢
        omega
  · have hin : 0 ≤ (rowOf t 0 : Int) + dr ∧ (rowOf t 0 : Int) + dr < (t.length : Int) ∧ 0 ≤ (colOf t 0 : Int) + dc ∧ (colOf t 0 : Int) + dc < ((t.getD 0 []).length : Int) := by
      simp at hb
      simp only [List.getD_eq_getElem?_getD]
      omega
    obtain ⟨i1, i2, i3, i4⟩ := hin
    rw [h0W 0 (by omega)] at i4
    have e1 : (rowOf t 0 : Int) + dr = (((rowOf t 0 : Int) + dr).toNat : Nat) := by omega
    have e2 : (colOf t 0 : Int) + dc = (((colOf t 0 : Int) + dc).toNat : Nat) := by omega
    generalize hh : ((rowOf t 0 : Int) + dr).toNat = hi at e1
    generalize hw : ((colOf t 0 : Int) + dc).toNat = wi at e2
    have hhl : hi < t.length := by omega
    have hwl : wi < W := by omega
    apply rn_next
    -- found = [list(line) for line in tray]
    apply rn_seq
    refine rn_asgW (w := OT K t) (ew_copyT (by walk_at "ev") (by decide) (by simp [G0]) (by omega)) ?_
    dsimp only
    apply rn_seq
    refine rn_setOT (m := rowOf t 0) (n := colOf t 0) (row := t.getD (rowOf t 0) []) (z := cellAt t hi wi) rfl ?_ (by walk_at "ev") (by walk_at "ev") rfl rfl (getq [] hrl) (by rw [h0W _ hrl]; exact hcl) ?_
    · walk_at "ev"
      · exact at_row (getq [] hhl) e1
      · exact at_int (getq 0 (by rw [h0W _ hhl]; exact hwl)) e2
    dsimp only
    apply rn_seq
    refine rn_setOT (m := hi) (n := wi) (row := (putAt t (rowOf t 0) (colOf t 0) (cellAt t hi wi)).getD hi []) (z := 0) rfl (by walk_at "ev") (by walk_at "ev") (by walk_at "ev") e1 e2 ?_ ?_ ?_
    · exact getq [] (by show hi < (List.set _ _ _).length; rw [List.length_set]; exact hhl)
    · rw [put_row hRe hrl hhl]; exact hwl
    dsimp only
    refine rn_retO rfl ?_
    rw [show slidM t c = some _ from ?_]
    · exact fun _ _ _ _ h => h
    · unfold slidM
      rw [hst]
      simp only [hh, hw]
      rw [if_pos ⟨by omega, by omega, by omega, by rw [h0W 0 (by omega)]; omega⟩]
      rfl
end

abbrev s_slid_all : Stmt := topS 4
theorem sc_slid_all : FnScope ["tray", "slides", "found", "letter", "row"] ["tray", "slides"] (defScope s_slid_all) :=
  ⟨rfl, rfl, rfl, by decide +kernel, rfl, by decide +kernel, by decide +kernel⟩
theorem slid_some {t t' : List (List Int)} {c : Nat} (h : slidM t c = some t') : ∃ (dr dc : Int) (hi wi : Nat), stepOf c = some (dr, dc) ∧ (hi : Int) = rowOf t 0 + dr ∧ (wi : Int) = colOf t 0 + dc ∧ hi < t.length ∧ wi < (t.getD 0 []).length ∧
    t' = putAt (putAt t (rowOf t 0) (colOf t 0) (cellAt t hi wi)) hi wi 0 := by
  unfold slidM at h
  cases hs : stepOf c with
  | none => simp only [hs] at h; cases h
  | some p =>
    obtain ⟨dr, dc⟩ := p
    simp only [hs] at h
    split at h
    · rename_i hc
      obtain ⟨h1, h2, h3, h4⟩ := hc
      obtain rfl := Option.some.inj h
      exact ⟨dr, dc, _, _, rfl, Int.toNat_of_nonneg h1, Int.toNat_of_nonneg h3, by omega, by omega, rfl⟩
    · cases h
theorem slid_of {t : List (List Int)} {c : Nat} {dr dc : Int} {hi wi : Nat} (hs : stepOf c = some (dr, dc)) (e1 : (hi : Int) = rowOf t 0 + dr) (e2 : (wi : Int) = colOf t 0 + dc) (h1 : hi < t.length) (h2 : wi < (t.getD 0 []).length) :
    slidM t c = some (putAt (putAt t (rowOf t 0) (colOf t 0) (cellAt t hi wi)) hi wi 0) := by
  unfold slidM
  simp only [hs]
  rw [if_pos ⟨by omega, by omega, by omega, by omega⟩, ← e1, ← e2, Int.toNat_natCast, Int.toNat_natCast]
theorem slid_len {t t' : List (List Int)} {c : Nat} (h : slidM t c = some t') : t'.length = t.length := by
  obtain ⟨dr, dc, hi, wi, _, _, _, _, _, rfl⟩ := slid_some h
  show (List.set (List.set _ _ _) _ _).length = _
  rw [List.length_set, List.length_set]
theorem slid_rect {t t' : List (List Int)} {c W : Nat} (h : slidM t c = some t') (h0 : Has t 0) (hR : Rect t W) : Rect t' W := by
  obtain ⟨dr, dc, hi, wi, _, _, _, h1, _, rfl⟩ := slid_some h
  refine putAt_rect (putAt_rect hR (row_lt h0)) ?_
  show _ < (List.set _ _ _).length
  rw [List.length_set]; exact h1
theorem put_has {t : List (List Int)} {r k : Nat} {z : Int} (h1 : r < t.length) (h2 : k < (t.getD r []).length) : Has (putAt t r k z) z :=
  ⟨(t.getD r []).set k z, List.mem_set h1 _, List.mem_set h2 _⟩
theorem slid_has {t t' : List (List Int)} {c W : Nat} (h : slidM t c = some t') (h0 : Has t 0) (hR : Rect t W) : Has t' 0 := by
  obtain ⟨dr, dc, hi, wi, _, _, _, h1, h2, rfl⟩ := slid_some h
  have hw : (t.getD 0 []).length = W := hR _ (getD_mem (by omega))
  refine put_has (by show _ < (List.set _ _ _).length; rw [List.length_set]; exact h1) ?_
  rw [put_row hR (row_lt h0) h1]; omega
def slidAllM (t : List (List Int)) (l : List Nat) : Option (List (List Int)) := l.foldlM slidM t
theorem slidAll_ok {W : Nat} : ∀ {l : List Nat} {t t' : List (List Int)}, slidAllM t l = some t' → Has t 0 → Rect t W → t'.length = t.length ∧ Has t' 0 ∧ Rect t' W
  | [], t, t', h, h0, hR => by obtain rfl := Option.some.inj h; exact ⟨rfl, h0, hR⟩
  | c :: l, t, t', h, h0, hR => by
    unfold slidAllM at h
    rw [List.foldlM_cons] at h
    cases hs : slidM t c with
    | none => rw [hs] at h; cases h
    | some u =>
      rw [hs] at h
      obtain ⟨a, b, d⟩ := slidAll_ok (l := l) (t := u) h (slid_has hs h0 hR) (slid_rect hs h0 hR)
      exact ⟨a.trans (slid_len hs), b, d⟩
theorem slidAll_take {t : List (List Int)} {l : List Nat} {i c : Nat} (h : l[i]? = some c) : slidAllM t (l.take (i + 1)) = (slidAllM t (l.take i)).bind (slidM · c) := by
  unfold slidAllM
  rw [List.take_add_one, h, List.foldlM_append]
  cases List.foldlM slidM t (l.take i) with
  | none => rfl
  | some u =>
    show (List.foldlM slidM u [c]) = slidM u c
    rw [List.foldlM_cons]
    cases slidM u c <;> rfl
theorem slidAll_stop {t : List (List Int)} {l : List Nat} {i : Nat} (h : slidAllM t (l.take i) = none) : slidAllM t l = none := by
  have e : l = l.take i ++ l.drop i := (List.take_append_drop i l).symm
  unfold slidAllM at h ⊢
  rw [e, List.foldlM_append, h]; rfl
/-- letters that are met -/
def Lett (c : Nat) : Prop := (stepOf c).isSome = true ∨ c = 120 ∨ c = 85 ∨ c = 32 ∨ c = 63
theorem lett_none {c : Nat} (h : Lett c) (hn : stepOf c = none) : c = 120 ∨ c = 85 ∨ c = 32 ∨ c = 63 := by
  rcases h with h | h
  · rw [hn] at h; cases h
  · exact h
theorem slid_nostep {t : List (List Int)} {c : Nat} (h : stepOf c = none) : slidM t c = none := by
  unfold slidM
  rw [h]
section
variable {P : Program} {w : World} {K : PySem.W.Frag} {mg : Str → Option Value} {base : Heap}
theorem in_steps {a : Addr} (hS : StepsOk w K a) {c : Nat} (hc : Lett c) : ∃ o, PySem.W.nsIn K a ⟨#[c]⟩ = some o ∧ o.isSome = (stepOf c).isSome := by
  cases h : stepOf c with
  | none => exact ⟨none, hS.out c (lett_none hc h), rfl⟩
  | some p => obtain ⟨v, hv⟩ := hS.ins c p h; exact ⟨some v, hv, rfl⟩
def R_slid_all (K : PySem.W.Frag) (as : List As) (o : Outc) : Prop := ∃ (t : List (List Int)) (l : List Nat) (W : Nat), as = [Dt K (DT t), Dt K (DS l)] ∧ Has t 0 ∧ Rect t W ∧ t.length ≤ 1000 ∧ W ≤ 1000 ∧ l.length ≤ 1000000 ∧ (∀ c ∈ l, Lett c) ∧ o = optT K (slidAllM t l)
theorem ok_slid_all {f : Addr} {fd : FuncData} {a_STEPS : Addr} (F : L2.Fun K "slid_all" "slid_all" s_slid_all f fd) (c_slid : Cl P w K mg base L2.CX0 2 "slid" (SpD 2 (R_slid K))) (g_STEPS : mg "STEPS" = some (.ref a_STEPS)) (hS : StepsOk w K a_STEPS) (n_list : mg "list" = none) :
    FnOk P w K mg base L2.CX0 3 f fd ["tray", "slides"] (SpD 2 (R_slid_all K)) := by
  refine def_ok F sc_slid_all rfl fun cdv A outer s Hf H as o E hr hR => ?_
  obtain ⟨t, l, W, rfl, h0, hRe, hl, hW, hll, hle, rfl⟩ := hR
  obtain ⟨es, n, kd_STEPS⟩ := hS.kd
  refine ⟨_, (pss_cons (ps_setLc (i := 2) (own := [("row", 4)]) (g := (gName 4)) (by rfl) sc_slid_all.nd rfl rfl (sw_true rfl rfl rfl (by decide +kernel)) (pi_listK K (pv 0)) (blkOk_by (N := ["tray", "slides", "found", "letter", "row"]) (sc := defScope s_slid_all) (own := [("row", 4)]) (by decide +kernel)) (fun _ _ _ _ _ => (pg_name (i := 4) sc_slid_all.nd rfl (by first | exact Or.inl rfl | exact Or.inr rfl))) (fun _ _ _ _ _ => pts_nil) (fun _ _ _ _ _ => (pe_callTy (call_listK K) (by rfl) n_list (by decide +kernel) (pa_cons (pv 4) pa_nil))))
      (pss_cons (ps_for PassesOwn.never rfl (pi_str (pv 1)) (pg_name (i := 3) sc_slid_all.nd rfl (by first | exact Or.inl rfl | exact Or.inr rfl)) (pss_cons (ps_if (pt_cmpR (op_notInKd K w kd_STEPS) (pv 3) (pe_glob (v := .ref a_STEPS) (by rfl) g_STEPS rfl) (by rfl)) (pss_one (ps_ret pe_non)) pss_nil)
      (pss_cons (ps_set (i := 2) sc_slid_all.nd rfl (by first | exact Or.inl rfl | exact Or.inr rfl) (by exact (pe_cl c_slid hr (by decide) (by rfl) (pa_cons (pv 2) (pa_cons (pv 3) pa_nil)))))
      (pss_one (ps_if (pt_cmpR op_isNone (pv 2) pe_non (nomark _)) (pss_one (ps_ret pe_non)) pss_nil)))))
      (pss_one (ps_ret (pv 2))))), ?_⟩
  -- found = [list(row) for row in tray]
  apply rn_seq
  refine rn_asgW (w := OT K t) (ew_copyT (by walk_at "ev") (by decide) (by simp [G0]) (by omega)) ?_
  dsimp only
  apply rn_seq
  refine rn_for (fun i Γ => ∃ t', slidAllM t (l.take i) = some t' ∧ Γ = [.as (Dt K (DT t)), .as (Dt K (DS l)), .ow (OT K t'), .un, .un]) (ei_str (by walk_at "ev")) ⟨t, rfl, rfl⟩ ?_ ?_
  · intro c' sb i a Γ1 hW1 ha
    obtain ⟨t', ht', rfl⟩ := hW1
    obtain ⟨e1, e2, e3⟩ := slidAll_ok ht' h0 hRe
    have ha' : (l.map fun c => Dt K (.str ⟨#[c]⟩))[i]? = some a := by unfold chs at ha; simpa using ha
    rw [List.getElem?_map] at ha'
    cases hc : l[i]? with
    | none => rw [hc] at ha'; cases ha'
    | some c =>
      rw [hc] at ha'
      obtain rfl := Option.some.inj ha'
      have hcm : c ∈ l := List.mem_of_getElem? hc
      obtain ⟨ov, ho, hoc⟩ := in_steps hS (hle c hcm)
      have hstep := slidAll_take (t := t) hc
      rw [ht', Option.bind_some] at hstep
      refine ⟨_, eg_name, ?_⟩
      apply rn_seq
      refine rn_if (ev_notInK (d := a_STEPS) (by walk_at "ev") ho |> eb_test) ?_ ?_
      all_goals intro hb
      · have hn : stepOf c = none := by
          cases hx : stepOf c with
          | none => rfl
          | some p => rw [hx] at hoc; rw [hoc] at hb; cases hb
        apply rn_ret
        · walk_at "ev"
        · rw [slidAll_stop (t := t) (l := l) (i := i + 1) (by rw [hstep]; exact slid_nostep hn)]
          exact As.le_refl _
      · have hsm : (stepOf c).isSome = true := by rw [← hoc]; cases ov <;> simp_all
        apply rn_next
        dsimp only
        refine rn_fixOT (i := 2) (tr := t') rfl ?_ sb.w
        apply rn_seq
        cases hs : slidM t' c with
        | none =>
          refine rn_asg (a := Dt K .none) (ev_call (as := [Dt K (DT t'), Dt K (.str ⟨#[c]⟩)]) (by walk_at "ev") ⟨t', c, W, rfl, e2, e3, by omega, hW, hsm, by rw [hs]; rfl⟩ rfl) ?_
          dsimp only
          apply rn_if
          · walk_at "ev"
          all_goals intro hb2
          · apply rn_ret
            · walk_at "ev"
            · rw [slidAll_stop (t := t) (l := l) (i := i + 1) (by rw [hstep]; exact hs)]
              exact As.le_refl _
          · cases hb2
        | some t2 =>
          refine rn_asgW (w := OT K t2) (ew_call (as := [Dt K (DT t'), Dt K (.str ⟨#[c]⟩)]) (by walk_at "ev") ⟨t', c, W, rfl, e2, e3, by omega, hW, hsm, by rw [hs]; rfl⟩ rfl) ?_
          dsimp only
          refine rn_if (eb_test (eb_isNoneO (tr := t2) rfl (by walk_at "ev"))) ?_ ?_
          all_goals intro hb2
          · cases hb2
          · apply rn_next
            exact ⟨[.as (Dt K (DT t)), .as (Dt K (DS l)), .ow (OT K t2), .un, .un], .cons (Sl.le_refl _) (.cons (Sl.le_refl _) (.cons (Sl.le_refl _) (.cons trivial (.cons trivial .nil)))), t2, by rw [hstep]; exact hs, rfl⟩
  · rintro Γ1 ⟨t', ht', rfl⟩
    dsimp only
    refine rn_retO rfl ?_
    have hl2 : l.take (chs K (SX.S l)).length = l := by
      apply List.take_of_length_le
      simp [chs]
    rw [hl2] at ht'
    rw [ht']
    exact fun _ _ _ _ h => h
end
theorem step_cases {c : Nat} {dr dc : Int} (h : stepOf c = some (dr, dc)) : (c = 117 ∧ dr = -1 ∧ dc = 0) ∨ (c = 100 ∧ dr = 1 ∧ dc = 0) ∨ (c = 108 ∧ dr = 0 ∧ dc = -1) ∨ (c = 114 ∧ dr = 0 ∧ dc = 1) := by
  unfold stepOf at h
  repeat' (split at h)
  all_goals first | (have h' := Prod.mk.inj (Option.some.inj h); omega) | cases h
theorem cut_to {α : Type} {xs : List α} {i : Int} {b : Nat} (hi : i = (b : Int)) : cutA xs none (some i) = xs.take b := by
  unfold cutA
  have e1 : HT.sIx xs.length 0 none = 0 := rfl
  have e2 : HT.sIx xs.length xs.length (some i) = min b xs.length := by rw [hi, HT.sIx_nat]
  rw [e1, e2, List.drop_zero, Nat.sub_zero]
  rcases Nat.le_total b xs.length with h | h
  · rw [Nat.min_eq_left h]
  · rw [Nat.min_eq_right h, List.take_of_length_le (Nat.le_refl _), List.take_of_length_le h]
theorem cut_from {α : Type} {xs : List α} {i : Int} {a : Nat} (hi : i = (a : Int)) : cutA xs (some i) none = xs.drop a := by
  unfold cutA
  have e1 : HT.sIx xs.length 0 (some i) = min a xs.length := by rw [hi, HT.sIx_nat]
  have e2 : HT.sIx xs.length xs.length none = xs.length := rfl
  rw [e1, e2]
  rcases Nat.le_total a xs.length with h | h
  · rw [Nat.min_eq_left h, List.take_of_length_le (by rw [List.length_drop]; omega)]
  · rw [Nat.min_eq_right h, List.drop_eq_nil_of_le (Nat.le_refl _), List.drop_eq_nil_of_le h]; simp
def upto (n : Nat) : List Int := (List.range n).map fun i => ((i : Nat) : Int)
/-- a tray as the document says -/
structure TrayOk (t : List (List Int)) (W : Nat) : Prop where
  len : 1 ≤ t.length ∧ t.length ≤ 6
  wid : 1 ≤ W ∧ W ≤ 6
  rect : Rect t W
  perm : t.flatten.Perm (upto (t.length * W))
theorem upto_mem {n : Nat} {x : Int} : x ∈ upto n ↔ 0 ≤ x ∧ x < (n : Int) := by
  unfold upto
  rw [List.mem_map]
  constructor
  · rintro ⟨i, hi, rfl⟩
    have := List.mem_range.mp hi
    omega
  · rintro ⟨h1, h2⟩
    exact ⟨x.toNat, List.mem_range.mpr (by omega), by omega⟩
theorem upto_len (n : Nat) : (upto n).length = n := by unfold upto; rw [List.length_map, List.length_range]
theorem flatten_len {t : List (List Int)} {W : Nat} : Rect t W → t.flatten.length = t.length * W := by
  induction t with
  | nil => intro _; simp
  | cons r t ih =>
    intro h
    rw [List.flatten_cons, List.length_append, ih (fun x hx => h x (List.mem_cons_of_mem _ hx)), h r (by simp), List.length_cons, Nat.succ_mul, Nat.add_comm]
theorem TrayOk.has {t : List (List Int)} {W : Nat} (h : TrayOk t W) {x : Int} (h1 : 0 ≤ x) (h2 : x < ((t.length * W : Nat) : Int)) : Has t x := by
  have : x ∈ t.flatten := h.perm.mem_iff.mpr (upto_mem.mpr ⟨h1, h2⟩)
  obtain ⟨r, hr, hx⟩ := List.mem_flatten.mp this
  exact ⟨r, hr, hx⟩
theorem TrayOk.pos {t : List (List Int)} {W : Nat} (h : TrayOk t W) : 0 < t.length * W := Nat.mul_pos h.len.1 h.wid.1
theorem TrayOk.has0 {t : List (List Int)} {W : Nat} (h : TrayOk t W) : Has t 0 := h.has (by omega) (by have := h.pos; omega)
abbrev s_law_order : Stmt := topS 14
theorem sc_law_order : FnScope ["_law_number", "_law_many", "_law_left", "_law_found"] ["_law_number", "_law_many"] (defScope s_law_order) :=
  ⟨rfl, rfl, rfl, by decide +kernel, rfl, by decide +kernel, by decide +kernel⟩
abbrev s_law_digits : Stmt := topS 15
theorem sc_law_digits : FnScope ["_law_cell", "_law_by", "_law_mixed", "_law_more"] ["_law_cell", "_law_by"] (defScope s_law_digits) :=
  ⟨rfl, rfl, rfl, by decide +kernel, rfl, by decide +kernel, by decide +kernel⟩
/-! an order of numbers by the digits of a number -/
def orderGo : Nat → Int → List Int → List Int
  | 0, _, _ => []
  | k + 1, n, left => left.getD (n % (left.length : Int)).toNat 0 :: orderGo k (n / (left.length : Int)) (left.eraseIdx (n % (left.length : Int)).toNat)
theorem erase_perm {α : Type} : ∀ {l : List α} {i : Nat} {x : α}, l[i]? = some x → (x :: l.eraseIdx i).Perm l
  | [], i, x, h => by simp at h
  | a :: l, 0, x, h => by obtain rfl := Option.some.inj h; exact .refl _
  | a :: l, i + 1, x, h => by
    have := erase_perm (l := l) (i := i) (x := x) h
    exact (List.Perm.swap a x _).trans (this.cons a)
theorem erase_map {α β : Type} (f : α → β) : ∀ (l : List α) (i : Nat), (l.map f).eraseIdx i = (l.eraseIdx i).map f
  | [], _ => rfl
  | _ :: _, 0 => rfl
  | a :: l, i + 1 => congrArg (f a :: ·) (erase_map f l i)
theorem order_perm : ∀ (k : Nat) (n : Int) (left : List Int), left.length = k → (orderGo k n left).Perm left
  | 0, n, left, h => by rw [List.length_eq_zero_iff.mp h]; exact .refl _
  | k + 1, n, left, h => by
    have hi : (n % (left.length : Int)).toNat < left.length := by
      have h1 := Int.emod_lt_of_pos n (show 0 < (left.length : Int) by omega)
      have h2 := Int.emod_nonneg n (show (left.length : Int) ≠ 0 by omega)
      omega
    have hp := erase_perm (getq 0 hi)
    have := order_perm k (n / (left.length : Int)) (left.eraseIdx (n % (left.length : Int)).toNat) (by rw [List.length_eraseIdx, if_pos hi]; omega)
    exact (this.cons _).trans hp
def orderM (n : Int) (m : Nat) : List Int := orderGo m n (upto m)
theorem orderM_perm (n : Int) (m : Nat) : (orderM n m).Perm (upto m) := order_perm m n (upto m) (upto_len m)
theorem orderM_len (n : Int) (m : Nat) : (orderM n m).length = m := by rw [(orderM_perm n m).length_eq, upto_len]
section
variable {P : Program} {w : World} {K : PySem.W.Frag} {mg : Str → Option Value} {base : Heap} {Γ : List Sl} {c : Cb} {k : Kt}
def R_law_order (K : PySem.W.Frag) (as : List As) (o : Outc) : Prop := ∃ (n : Int) (m : Nat), as = [Dt K (.int n), Dt K (.int (m : Nat))] ∧ m ≤ 1000 ∧ o = .ret (Dt K (DI (orderM n m)))
theorem ok_law_order {f : Addr} {fd : FuncData} (F : L2.Fun K "_law_order" "_law_order" s_law_order f fd) (n_list : mg "list" = none) (n_range : mg "range" = none) (n_len : mg "len" = none) : FnOk P w K mg base L2.CX0 1 f fd ["_law_number", "_law_many"] (SpD 2 (R_law_order K)) := by
  refine def_ok F sc_law_order rfl fun cdv A outer s Hf H as o E hr hR => ?_
  obtain ⟨n, m, rfl, hm, rfl⟩ := hR
  refine ⟨_, (pss_cons (ps_set (i := 2) sc_law_order.nd rfl (by first | exact Or.inl rfl | exact Or.inr rfl) (pe_listRg (by rfl) (by rfl) n_list (prg_1 (by rfl) n_range (pv 1))))
      (pss_cons (ps_set (i := 3) sc_law_order.nd rfl (by first | exact Or.inl rfl | exact Or.inr rfl) (pe_lst pa_nil))
      (pss_cons (ps_while PassesOwn.never (pt_cmpR (op_neDK K hr) (pv 2) (pe_lst pa_nil) (nomark _)) (pss_cons (ps_expr (by exact (pe_bmK K PySem.F.plainAttrs_list PySem.F.slot_list_append PySem.F.type_list_append mt_append (pv 3) (pa_cons (by exact (pe_bmK K PySem.F.plainAttrs_list PySem.F.slot_list_pop PySem.F.type_list_pop mt_popAt (pv 2) (pa_cons (pe_op op_mod (pv 0) (by exact (pe_callB (call_lenK K) (by rfl) n_len (by decide +kernel) (pa_cons (pv 2) pa_nil)))) pa_nil))) pa_nil))))
      (pss_one (ps_set (i := 0) sc_law_order.nd rfl (by first | exact Or.inl rfl | exact Or.inr rfl) (pe_op op_fdiv (pv 0) (pe_op op_add (by exact (pe_callB (call_lenK K) (by rfl) n_len (by decide +kernel) (pa_cons (pv 2) pa_nil))) pe_int))))))
      (pss_one (ps_ret (pv 3)))))), ?_⟩
  apply rn_seq
  refine rn_asgW (w := OL (((upto m).map PyData.int).map (Dt K))) ?_ ?_
  · have k := ew_listRg (K := K) (Γ := G0 4 [Dt K (.int n), Dt K (.int (m : Nat))]) (ta := tVar 1) (n := (m : Nat)) (ev_var rfl) (by omega)
    rw [Int.toNat_natCast] at k
    exact k
  dsimp only
  apply rn_seq
  refine rn_asgW (w := OL (([] : List PyData).map (Dt K))) (by walk_at "ev"; simp) ?_
  dsimp only
  apply rn_seq
  refine rn_while (fun k Γ => ∃ (n' : Int) (left found : List Int), left.length = k ∧ found ++ orderGo k n' left = orderM n m ∧ Γ = [.as (Dt K (.int n')), .as (Dt K (.int (m : Nat))), .ow (OL ((left.map PyData.int).map (Dt K))), .ow (OL ((found.map PyData.int).map (Dt K)))]) m ⟨n, upto m, [], upto_len m, rfl, rfl⟩ ?_
  rintro k Γ1 ⟨n', left, found, hk, hg, rfl⟩
  refine ⟨decide (left ≠ []), eb_test (K := K) ((ev_neL (ds := left.map PyData.int) (e := .list []) (el_ow rfl) (ev_lst (ds := []) es_nil (by simp)) (sh_DI.shaped left) rfl).is ?_), ?_, ?_⟩
  · cases left <;> simp [PyData.eqv, PyData.eqvAll]
  · intro hb
    have hne : left ≠ [] := by simpa using hb
    have hlp : 0 < left.length := List.length_pos_iff.mpr hne
    have hkm : found.length + k = m := by
      have := congrArg List.length hg
      rw [List.length_append, (order_perm k n' left hk).length_eq, orderM_len, hk] at this
      exact this
    have h1 := Int.emod_lt_of_pos n' (show 0 < (left.length : Int) by omega)
    have h2 := Int.emod_nonneg n' (show (left.length : Int) ≠ 0 by omega)
    have hi : (n' % (left.length : Int)).toNat < left.length := by omega
    apply rn_seq
    have kl := ev_lenLD (K := K) (Γ := [.as (Dt K (.int n')), .as (Dt K (.int (m : Nat))), .ow (OL ((left.map PyData.int).map (Dt K))), .ow (OL ((found.map PyData.int).map (Dt K)))]) (el_ow (i := 2) rfl)
    simp only [List.length_map] at kl
    refine rn_appendPop (m := (n' % (left.length : Int)).toNat) (x := Dt K (.int (left.getD (n' % (left.length : Int)).toNat 0))) (by decide) rfl rfl (ev_Ii (g := fun i j => i % j) (ev_var rfl) kl (by omega)) (by omega) (by rw [List.getElem?_map, List.getElem?_map, getq 0 hi]; rfl) (by simp only [List.length_map]; omega) (by simp only [List.length_map, sizeLine_eq]; omega) ?_
    dsimp only
    have kl2 := ev_lenLD (K := K) (Γ := [.as (Dt K (.int n')), .as (Dt K (.int (m : Nat))), .ow (OL (((left.map PyData.int).map (Dt K)).eraseIdx (n' % (left.length : Int)).toNat)), .ow (OL ((found.map PyData.int).map (Dt K) ++ [Dt K (.int (left.getD (n' % (left.length : Int)).toNat 0))]))]) (el_ow (i := 2) rfl)
    rw [List.length_eraseIdx, List.length_map, List.length_map, if_pos hi] at kl2
    refine rn_asg (a := Dt K (.int (n' / (left.length : Int)))) ((ev_Ii (g := fun i j => i / j) (j := ((left.length - 1 : Nat) : Int) + 1) (ev_var rfl) (ev_I0i kl2 ev_int) ⟨by omega, by omega⟩).is ?_) ?_
    · rw [show ((left.length - 1 : Nat) : Int) + 1 = (left.length : Int) by omega]
    · refine ⟨[.as (Dt K (.int (n' / (left.length : Int)))), .as (Dt K (.int (m : Nat))), .ow (OL (((left.eraseIdx (n' % (left.length : Int)).toNat).map PyData.int).map (Dt K))), .ow (OL (((found ++ [left.getD (n' % (left.length : Int)).toNat 0]).map PyData.int).map (Dt K)))], k - 1, by omega, ?_, n' / (left.length : Int), left.eraseIdx (n' % (left.length : Int)).toNat, found ++ [left.getD (n' % (left.length : Int)).toNat 0], ?_, ?_, rfl⟩
      · rw [erase_map, erase_map, List.map_append, List.map_append]
        walk_at "gle"
      · rw [List.length_eraseIdx, if_pos hi]; omega
      · rw [← hg, List.append_assoc]
        obtain ⟨j, rfl⟩ : ∃ j, k = j + 1 := ⟨k - 1, by omega⟩
        rfl
  · intro hb
    have hne : left = [] := by simpa using hb
    subst hne
    obtain rfl : k = 0 := by simpa using hk.symm
    dsimp only
    refine rn_fixD (i := 3) (ds := found.map PyData.int) rfl ?_
    refine rn_ret (ev_var rfl) ?_
    have : found = orderM n m := by rw [← hg]; simp [orderGo]
    rw [this]
    exact As.le_refl _
/-! a cell by its digits -/
def digitsM (c b : Int) : Int :=
  if 1000000000000000000 ≤ c then c / (b + 1)
  else
    let mixed := (c + 977 * b) * 48271 % 2147483647
    mixed * (c + 31 * b + 7) * (mixed + c * b + 13) * (mixed * mixed + b) / (1009 + b)
theorem add_bits {x y : Int} {a b c : Nat} (hx : x.natAbs < 2 ^ a) (hy : y.natAbs < 2 ^ b) (ha : a < c) (hb : b < c) : (x + y).natAbs < 2 ^ c := by
  have h1 : (2 : Nat) ^ a ≤ 2 ^ (c - 1) := Nat.pow_le_pow_right (by decide) (by omega)
  have h2 : (2 : Nat) ^ b ≤ 2 ^ (c - 1) := Nat.pow_le_pow_right (by decide) (by omega)
  have h3 : (2 : Nat) ^ c = 2 * 2 ^ (c - 1) := by
    obtain ⟨d, rfl⟩ : ∃ d, c = d + 1 := ⟨c - 1, by omega⟩
    rw [Nat.add_sub_cancel, Nat.pow_succ, Nat.mul_comm]
  omega
theorem mul_bits {x y : Int} {a b c : Nat} (hx : x.natAbs < 2 ^ a) (hy : y.natAbs < 2 ^ b) (h : a + b ≤ c) : (x * y).natAbs < 2 ^ c :=
  Nat.lt_of_lt_of_le (wide_lt hx hy) (Nat.pow_le_pow_right (by decide) h)
theorem up_bits {x : Int} {a c : Nat} (hx : x.natAbs < 2 ^ a) (h : a ≤ c) : x.natAbs < 2 ^ c := Nat.lt_of_lt_of_le hx (Nat.pow_le_pow_right (by decide) h)
def R_law_digits (K : PySem.W.Frag) (as : List As) (o : Outc) : Prop := ∃ (c b : Int) (B : Nat), as = [Dt K (.int c), Dt K (.int b)] ∧ c.natAbs < 2 ^ B ∧ 64 ≤ B ∧ B ≤ 2000000 ∧ 0 ≤ b ∧ b ≤ 1000 ∧ o = .ret (Dt K (.int (digitsM c b)))
theorem ok_law_digits {f : Addr} {fd : FuncData} (F : L2.Fun K "_law_digits" "_law_digits" s_law_digits f fd) : FnOk P w K mg base L2.CX0 1 f fd ["_law_cell", "_law_by"] (SpD 2 (R_law_digits K)) := by
  refine def_ok F sc_law_digits rfl fun cdv A outer s Hf H as o E hr hR => ?_
  obtain ⟨c, b, B, rfl, hc, hB0, hB, hb0, hb1, rfl⟩ := hR
  refine ⟨_, (pss_cons (ps_if (pt_cmpR op_ge (pv 0) (pe_op op_pow pe_int pe_int) (nomark _)) (pss_one (ps_ret (pe_op op_fdiv (pv 0) (pe_op op_add (pv 1) pe_int)))) pss_nil)
      (pss_cons (ps_set (i := 2) sc_law_digits.nd rfl (by first | exact Or.inl rfl | exact Or.inr rfl) (pe_op op_mod (pe_op op_mulB (pe_op op_add (pv 0) (pe_op op_mulB pe_int (pv 1))) pe_int) pe_int))
      (pss_cons (ps_set (i := 3) sc_law_digits.nd rfl (by first | exact Or.inl rfl | exact Or.inr rfl) (pe_op op_mulB (pv 2) (pe_op op_add (pe_op op_add (pv 0) (pe_op op_mulB pe_int (pv 1))) pe_int)))
      (pss_one (ps_ret (pe_op op_fdiv (pe_op op_mulB (pe_op op_mulB (pv 3) (pe_op op_add (pe_op op_add (pv 2) (pe_op op_mulB (pv 0) (pv 1))) pe_int)) (pe_op op_add (pe_op op_mulB (pv 2) (pv 2)) (pv 1))) (pe_op op_add pe_int (pv 1)))))))), ?_⟩
  have hb : b.natAbs < 2 ^ 10 := by have : (2 : Nat) ^ 10 = 1024 := by decide
                                    omega
  have s1 : (977 : Int).natAbs < 2 ^ 10 := by decide
  have s2 : (48271 : Int).natAbs < 2 ^ 16 := by decide
  have s3 : (31 : Int).natAbs < 2 ^ 10 := by decide
  apply rn_seq
  refine rn_if (b := decide (1000000000000000000 ≤ c)) (eb_test (K := K) ((ev_I0b (g := fun i j => decide (j ≤ i)) (ev_var rfl) (ev_Ii (g := fun i j => i ^ j.toNat) (i := 10) (j := 18) ev_int ev_int ⟨by decide, by decide, by decide⟩)).is (by rfl))) ?_ ?_
  · intro h
    refine rn_ret (ev_Ii (g := fun i j => i / j) (ev_var rfl) (ev_I0i (ev_var rfl) ev_int) ⟨by omega, by omega⟩) ?_
    unfold digitsM
    rw [if_pos (of_decide_eq_true h)]
    exact As.le_refl _
  · intro h
    have h1 := mul_bits (c := 20) s1 hb (by decide)
    have h2 := add_bits (c := B + 1) hc (up_bits h1 (show 20 ≤ B by omega)) (by omega) (by omega)
    have hm0 := Int.emod_nonneg ((c + 977 * b) * 48271) (show (2147483647 : Int) ≠ 0 by decide)
    have hm1 := Int.emod_lt_of_pos ((c + 977 * b) * 48271) (show (0 : Int) < 2147483647 by decide)
    apply rn_next
    apply rn_seq
    refine rn_asg (ev_Ii (g := fun i j => i % j) (ev_Ii (g := fun i j => i * j) (ev_I0i (ev_var rfl) (ev_Ii (g := fun i j => i * j) ev_int (ev_var rfl) (mulOk s1 hb (by decide) (by decide) (by decide)))) ev_int (mulOk h2 s2 (by omega) (by decide) (by omega))) ev_int (by decide)) ?_
    dsimp only
    generalize hmx : (c + 977 * b) * 48271 % 2147483647 = mx at hm0 hm1
    have hmb : mx.natAbs < 2 ^ 31 := by have : (2 : Nat) ^ 31 = 2147483648 := by decide
                                        omega
    have h3 := mul_bits (c := 20) s3 hb (by decide)
    have h4 := add_bits (c := B + 1) hc (up_bits h3 (show 20 ≤ B by omega)) (by omega) (by omega)
    have h5 := add_bits (c := B + 2) h4 (show (7 : Int).natAbs < 2 ^ 10 by decide) (by omega) (by omega)
    have h6 := mul_bits (c := B + 33) hmb h5 (by omega)
    have h7 := mul_bits (c := B + 10) hc hb (by omega)
    have h8 := add_bits (c := B + 11) (up_bits hmb (show 31 ≤ B by omega)) h7 (by omega) (by omega)
    have h9 := add_bits (c := B + 12) h8 (show (13 : Int).natAbs < 2 ^ 10 by decide) (by omega) (by omega)
    have h10 := mul_bits (c := B + B + 45) h6 h9 (by omega)
    have h11 := mul_bits (c := 62) hmb hmb (by decide)
    have h12 := add_bits (c := 63) h11 hb (by decide) (by decide)
    apply rn_seq
    refine rn_asg (ev_Ii (g := fun i j => i * j) (ev_var rfl) (ev_I0i (ev_I0i (ev_var rfl) (ev_Ii (g := fun i j => i * j) ev_int (ev_var rfl) (mulOk s3 hb (by decide) (by decide) (by decide)))) ev_int) (mulOk hmb h5 (by decide) (by omega) (by omega))) ?_
    dsimp only
    refine rn_ret (ev_Ii (g := fun i j => i / j) (ev_Ii (g := fun i j => i * j) (ev_Ii (g := fun i j => i * j) (ev_var rfl) (ev_I0i (ev_I0i (ev_var rfl) (ev_Ii (g := fun i j => i * j) (ev_var rfl) (ev_var rfl) (mulOk hc hb (by omega) (by decide) (by omega)))) ev_int) (mulOk h6 h9 (by omega) (by omega) (by omega)))
      (ev_I0i (ev_Ii (g := fun i j => i * j) (ev_var rfl) (ev_var rfl) (mulOk hmb hmb (by decide) (by decide) (by decide))) (ev_var rfl)) (mulOk h10 h12 (by omega) (by decide) (by omega))) (ev_I0i ev_int (ev_var rfl)) ⟨by omega, by omega⟩) ?_
    have e : digitsM c b = mx * (c + 31 * b + 7) * (mx + c * b + 13) * (mx * mx + b) / (1009 + b) := by
      unfold digitsM
      rw [if_neg (of_decide_eq_false h)]
      simp only [hmx]
    rw [e]
    exact As.le_refl _
end
abbrev s_law_tray : Stmt := topS 16
theorem sc_law_tray : FnScope ["_law_number", "_law_rows", "_law_columns", "_law_order_here", "_law_row"] ["_law_number", "_law_rows", "_law_columns"] (defScope s_law_tray) :=
  ⟨rfl, rfl, rfl, by decide +kernel, rfl, by decide +kernel, by decide +kernel⟩
abbrev s_law_place : Stmt := topS 17
theorem sc_law_place : FnScope ["_law_tray_here", "_law_piece", "_law_row", "_law_column"] ["_law_tray_here", "_law_piece"] (defScope s_law_place) :=
  ⟨rfl, rfl, rfl, by decide +kernel, rfl, by decide +kernel, by decide +kernel⟩
theorem cut_mid {α : Type} {xs : List α} {i j : Int} {a b : Nat} (hi : i = (a : Int)) (hj : j = (b : Int)) (h1 : a ≤ b) (h2 : b ≤ xs.length) : cutA xs (some i) (some j) = (xs.drop a).take (b - a) := by
  unfold cutA
  have e1 : HT.sIx xs.length 0 (some i) = a := by rw [hi, HT.sIx_nat]; omega
  have e2 : HT.sIx xs.length xs.length (some j) = b := by rw [hj, HT.sIx_nat]; omega
  rw [e1, e2]
def trayM (n : Int) (r w : Nat) : List (List Int) := (List.range r).map fun i => ((orderM n (r * w)).drop (i * w)).take w
theorem tray_row {n : Int} {r w i : Nat} (h : i < r) : (((orderM n (r * w)).drop (i * w)).take w).length = w := by
  rw [List.length_take, List.length_drop, orderM_len]
  have : (i + 1) * w ≤ r * w := Nat.mul_le_mul_right _ h
  rw [Nat.succ_mul] at this
  omega
theorem chunks (l : List Int) (w : Nat) : ∀ r : Nat, l.length = r * w → ((List.range r).map fun i => (l.drop (i * w)).take w).flatten = l := by
  intro r
  suffices h : ∀ k, k * w ≤ l.length → ((List.range k).map fun i => (l.drop (i * w)).take w).flatten = l.take (k * w) by
    intro e
    rw [h r (by omega), List.take_of_length_le (by omega)]
  intro k
  induction k with
  | zero => intro _; simp
  | succ k ih =>
    intro hk
    rw [Nat.succ_mul] at hk
    rw [List.range_succ, List.map_append, List.flatten_append, ih (by omega)]
    simp only [List.map_cons, List.map_nil, List.flatten_cons, List.flatten_nil, List.append_nil]
    rw [Nat.succ_mul, ← List.take_append_drop (k * w) (l.take (k * w + w)), List.take_take, Nat.min_eq_left (by omega), List.drop_take, Nat.add_sub_cancel_left]
theorem trayM_ok {n : Int} {r w : Nat} (hr : 1 ≤ r ∧ r ≤ 6) (hw : 1 ≤ w ∧ w ≤ 6) : TrayOk (trayM n r w) w := by
  have hl : (trayM n r w).length = r := by unfold trayM; rw [List.length_map, List.length_range]
  refine ⟨by rw [hl]; exact hr, hw, fun x hx => ?_, ?_⟩
  · obtain ⟨i, hi, rfl⟩ := List.mem_map.mp hx
    exact tray_row (List.mem_range.mp hi)
  · rw [hl]
    unfold trayM
    rw [chunks _ _ _ (orderM_len _ _)]
    exact orderM_perm _ _
section
variable {P : Program} {w : World} {K : PySem.W.Frag} {mg : Str → Option Value} {base : Heap} {Γ : List Sl} {c : Cb} {k : Kt}
def R_law_tray (K : PySem.W.Frag) (as : List As) (o : Outc) : Prop := ∃ (n : Int) (r w : Nat), as = [Dt K (.int n), Dt K (.int (r : Nat)), Dt K (.int (w : Nat))] ∧ (1 ≤ r ∧ r ≤ 6) ∧ (1 ≤ w ∧ w ≤ 6) ∧ o = .ret (Dt K (DT (trayM n r w)))
theorem ok_law_tray {f : Addr} {fd : FuncData} (F : L2.Fun K "_law_tray" "_law_tray" s_law_tray f fd) (c_law_order : Cl P w K mg base L2.CX0 1 "_law_order" (SpD 2 (R_law_order K))) (n_range : mg "range" = none) : FnOk P w K mg base L2.CX0 2 f fd ["_law_number", "_law_rows", "_law_columns"] (SpD 3 (R_law_tray K)) := by
  refine def_ok F sc_law_tray rfl fun cdv A outer s Hf H as o E hr hR => ?_
  obtain ⟨n, r, w', rfl, hr1, hw1, rfl⟩ := hR
  refine ⟨_, (pss_cons (ps_set (i := 3) sc_law_tray.nd rfl (by first | exact Or.inl rfl | exact Or.inr rfl) (by exact (pe_cl c_law_order hr (by decide) (by rfl) (pa_cons (pv 0) (pa_cons (pe_op op_mulB (pv 1) (pv 2)) pa_nil)))))
      (pss_one (ps_ret (pe_lc (own := [("_law_row", 4)]) (g := (gName 4)) (by rfl) sc_law_tray.nd (pi_range1 (by rfl) n_range (pa_cons (pv 1) pa_nil)) (blkOk_by (N := ["_law_number", "_law_rows", "_law_columns", "_law_order_here", "_law_row"]) (sc := defScope s_law_tray) (own := [("_law_row", 4)]) (by decide +kernel)) (fun _ _ _ _ _ => (pg_name (i := 4) sc_law_tray.nd rfl (by first | exact Or.inl rfl | exact Or.inr rfl))) (fun _ _ _ _ _ => pts_nil) (fun _ _ _ _ _ => (pe_slice (sl_listK K) (pv 3) (po_some (pe_op op_mulB (pv 4) (pv 2))) (po_some (pe_op op_add (pe_op op_mulB (pv 4) (pv 2)) (pv 2))))))))), ?_⟩
  have hrw : r * w' ≤ 36 := Nat.mul_le_mul hr1.2 hw1.2
  apply rn_seq
  refine rn_asg (a := Dt K (DI (orderM n (r * w')))) (ev_call (as := [Dt K (.int n), Dt K (.int ((r * w' : Nat) : Int))]) (es_cons (ev_var rfl) (es_cons ((ev_Ii (g := fun i j => i * j) (ev_var rfl) (ev_var rfl) (mulOk (a := 10) (b := 10) (by omega) (by omega) (by decide) (by decide) (by decide))).is (by simp)) es_nil)) ⟨n, r * w', rfl, by omega, rfl⟩ rfl) ?_
  dsimp only
  refine rn_ret (a := Dt K (DT (trayM n r w'))) ?_ (As.le_refl _)
  have k := ew_lcM (K := K) (Γ := (G0 5 [Dt K (.int n), Dt K (.int (r : Nat)), Dt K (.int (w' : Nat))]).set 3 (.as (Dt K (DI (orderM n (r * w')))))) (wi := iRng1 (tCons (tVar 1) tNil)) (g := gName 4) (vs := [4])
    (te := tSl (rSlL K) (tVar 3) (tPart (tOp (rI IntMulOk fun i j => V.int (i * j)) (tVar 4) (tVar 2))) (tPart (tOp (rI0 fun i j => V.int (i + j)) (tOp (rI IntMulOk fun i j => V.int (i * j)) (tVar 4) (tVar 2)) (tVar 2))))
    (List.range r) (fun i => Dt K (.int ((i : Nat) : Int))) (fun i => DI (((orderM n (r * w')).drop (i * w')).take w')) ?_ (gw_name (by decide)) (by rw [List.length_range]; omega) fun i hi => ⟨_, eg_name, ?_⟩
  · have e : ((List.range r).map fun i => DI (((orderM n (r * w')).drop (i * w')).take w')) = (trayM n r w').map DI := by unfold trayM; rw [List.map_map]; rfl
    rw [e] at k
    exact ev_fixD k
  · have j := ei_rng1 (K := K) (Γ := (G0 5 [Dt K (.int n), Dt K (.int (r : Nat)), Dt K (.int (w' : Nat))]).set 3 (.as (Dt K (DI (orderM n (r * w')))))) (t := tCons (tVar 1) tNil) (n := (r : Nat)) (es_cons (ev_var rfl) es_nil) (by omega)
    rw [Int.toNat_natCast] at j
    exact j
  · have hi := List.mem_range.mp hi
    have hm : IntMulOk ((i : Nat) : Int) ((w' : Nat) : Int) := mulOk (a := 10) (b := 10) (by omega) (by omega) (by decide) (by decide) (by decide)
    have hle : i * w' + w' ≤ r * w' := by
      have : (i + 1) * w' ≤ r * w' := Nat.mul_le_mul_right _ hi
      rwa [Nat.succ_mul] at this
    have j := ew_sl (K := K) (Γ := (wipeG ((G0 5 [Dt K (.int n), Dt K (.int (r : Nat)), Dt K (.int (w' : Nat))]).set 3 (.as (Dt K (DI (orderM n (r * w')))))) [4]).set 4 (.as (Dt K (.int ((i : Nat) : Int))))) (te := tVar 3) (as := ((orderM n (r * w')).map PyData.int).map (Dt K)) (el_dt (ev_var rfl))
      (eo_some (ev_Ii (K := K) (g := fun i j => i * j) (i := ((i : Nat) : Int)) (j := ((w' : Nat) : Int)) (ta := tVar 4) (tb := tVar 2) (ev_var rfl) (ev_var rfl) hm))
      (eo_some (ev_I0i (K := K) (g := fun i j => i + j) (ev_Ii (K := K) (g := fun i j => i * j) (i := ((i : Nat) : Int)) (j := ((w' : Nat) : Int)) (ta := tVar 4) (tb := tVar 2) (ev_var rfl) (ev_var rfl) hm) (ev_var (i := 2) rfl)))
    rw [cut_mid (a := i * w') (b := i * w' + w') (by simp) (by simp) (by omega) (by simp only [List.length_map, orderM_len]; exact hle), Nat.add_sub_cancel_left, ← List.map_drop, ← List.map_take, ← List.map_drop, ← List.map_take] at j
    exact ev_fixD j
theorem row_min {t : List (List Int)} {p : Int} {i : Nat} (h : i < rowOf t p) (hi : i < t.length) : p ∉ t.getD i [] := by
  have := List.not_of_lt_findIdx h
  rw [List.getD_eq_getElem?_getD, List.getElem?_eq_getElem hi, Option.getD_some]
  simpa using this
theorem col_min {r : List Int} {p : Int} {j : Nat} (h : j < r.idxOf p) (hj : j < r.length) : r.getD j 0 ≠ p := by
  have := List.not_of_lt_findIdx (p := (· == p)) h
  rw [List.getD_eq_getElem?_getD, List.getElem?_eq_getElem hj, Option.getD_some]
  simpa using this
theorem cell_place {t : List (List Int)} {p : Int} (h : Has t p) : cellAt t (rowOf t p) (colOf t p) = p := by
  have hm := row_mem h
  unfold cellAt colOf
  rw [List.getD_eq_getElem?_getD, List.getElem?_eq_getElem (List.idxOf_lt_length_of_mem hm), List.getElem_idxOf]; rfl
def R_law_place (K : PySem.W.Frag) (as : List As) (o : Outc) : Prop := ∃ (t : List (List Int)) (p : Int) (W : Nat), as = [Dt K (DT t), Dt K (.int p)] ∧ Has t p ∧ Rect t W ∧ t.length ≤ 1000 ∧ W ≤ 1000 ∧ o = .ret (Dt K (DP ((rowOf t p : Nat), (colOf t p : Nat))))
theorem ok_law_place {f : Addr} {fd : FuncData} (F : L2.Fun K "_law_place" "_law_place" s_law_place f fd) (n_range : mg "range" = none) (n_len : mg "len" = none) : FnOk P w K mg base L2.CX0 1 f fd ["_law_tray_here", "_law_piece"] (SpD 2 (R_law_place K)) := by
  refine def_ok F sc_law_place rfl fun cdv A outer s Hf H as o E hr hR => ?_
  obtain ⟨t, p, W, rfl, hp, hRe, hl, hW, rfl⟩ := hR
  refine ⟨_, (pss_cons (ps_for PassesOwn.never rfl (pi_range1 (by rfl) n_range (pa_cons (by exact (pe_callB (call_lenK K) (by rfl) n_len (by decide +kernel) (pa_cons (pv 0) pa_nil))) pa_nil)) (pg_name (i := 2) sc_law_place.nd rfl (by first | exact Or.inl rfl | exact Or.inr rfl)) (pss_one (ps_for PassesOwn.never rfl (pi_range1 (by rfl) n_range (pa_cons (by exact (pe_callB (call_lenK K) (by rfl) n_len (by decide +kernel) (pa_cons (pe_ix (ix_listK K) (pv 0) pe_int (fun _ _ => rfl)) pa_nil))) pa_nil)) (pg_name (i := 3) sc_law_place.nd rfl (by first | exact Or.inl rfl | exact Or.inr rfl)) (pss_one (ps_if (pt_cmpR op_eq (pe_ix (ix_listK K) (pe_ix (ix_listK K) (pv 0) (pv 2) (fun _ _ => rfl)) (pv 3) (fun _ _ => rfl)) (pv 1) (nomark _)) (pss_one (ps_ret (pe_tup (pa_cons (pv 2) (pa_cons (pv 3) pa_nil))))) pss_nil)))))
      (pss_one (ps_ret pe_non))), ?_⟩
  have hrl := row_lt hp
  have hcl := col_lt hp hRe
  have h0W : ∀ i, i < t.length → (t.getD i []).length = W := fun i hi => hRe _ (getD_mem hi)
  have k1 := ev_lenLD (K := K) (Γ := G0 4 [Dt K (DT t), Dt K (.int p)]) (el_dt (ds := t.map DI) (ev_var (i := 0) rfl))
  simp only [List.length_map] at k1
  have j1 := ei_rng1 (K := K) (es_cons k1 es_nil) (by omega)
  rw [Int.toNat_natCast] at j1
  apply rn_seq
  refine rn_for (fun i Γ => i ≤ rowOf t p ∧ Γ = [.as (Dt K (DT t)), .as (Dt K (.int p)), .un, .un]) j1 ⟨Nat.zero_le _, rfl⟩ ?_ ?_
  · rintro c' sb i a Γ1 ⟨hi, rfl⟩ ha
    have hil : i < t.length := by omega
    rw [List.getElem?_map, List.getElem?_range hil] at ha
    obtain rfl := Option.some.inj ha
    refine ⟨_, eg_name, ?_⟩
    dsimp only [List.set]
    have k2 := ev_lenLD (K := K) (Γ := [.as (Dt K (DT t)), .as (Dt K (.int p)), .as (Dt K (.int ((i : Nat) : Int))), .un]) (el_dt (ds := (t.getD 0 []).map PyData.int) (ev_ixLD (el_dt (ds := t.map DI) (ev_var (i := 0) rfl)) (ev_int (i := 0)) (at_row (getq [] (by omega : 0 < t.length)) rfl)))
    simp only [List.length_map, h0W 0 (by omega)] at k2
    have j2 := ei_rng1 (K := K) (es_cons k2 es_nil) (by omega)
    rw [Int.toNat_natCast] at j2
    refine rn_for (fun j Γ => (i = rowOf t p → j ≤ colOf t p) ∧ Γ = [.as (Dt K (DT t)), .as (Dt K (.int p)), .as (Dt K (.int ((i : Nat) : Int))), .un]) j2 ⟨fun _ => Nat.zero_le _, rfl⟩ ?_ ?_
    · rintro c2 sb2 j a Γ1 ⟨hj, rfl⟩ ha
      have hjl : j < W := by
        have := (List.getElem?_eq_some_iff.mp ha).1
        simpa using this
      rw [List.getElem?_map, List.getElem?_range hjl] at ha
      obtain rfl := Option.some.inj ha
      refine ⟨_, eg_name, ?_⟩
      dsimp only [List.set]
      have hjr : j < (t.getD i []).length := by rw [h0W i hil]; exact hjl
      refine rn_if (b := decide (cellAt t i j = p)) (eb_test (K := K) (ev_eqI (ev_ixLD (el_dt (ds := (t.getD i []).map PyData.int) (ev_ixLD (el_dt (ds := t.map DI) (ev_var rfl)) (ev_var rfl) (at_row (getq [] hil) rfl))) (ev_var rfl) (at_int (getq 0 hjr) rfl)) (ev_var rfl))) ?_ ?_
      · intro hb
        have hb := of_decide_eq_true hb
        have hmem : p ∈ t.getD i [] := by rw [← hb]; exact getD_mem hjr
        have e1 : i = rowOf t p := by
          rcases Nat.lt_or_ge i (rowOf t p) with h | h
          · exact absurd hmem (row_min h hil)
          · omega
        have e2 : j = colOf t p := by
          rcases Nat.lt_or_ge j (colOf t p) with h | h
          · unfold colOf at h
            rw [← e1] at h
            exact absurd hb (col_min h hjr)
          · have := hj e1
            omega
        refine rn_ret (ev_tupD (ed_cons (ev_var rfl) (ed_cons (ev_var rfl) ed_nil)) (by simp [sizeLine_eq])) ?_
        rw [e1, e2]
        exact As.le_refl _
      · intro hb
        have hb := of_decide_eq_false hb
        apply rn_next
        refine ⟨[.as (Dt K (DT t)), .as (Dt K (.int p)), .as (Dt K (.int ((i : Nat) : Int))), .un], by walk_at "gle", fun e => ?_, rfl⟩
        have h1 := hj e
        rcases Nat.lt_or_ge j (colOf t p) with h | h
        · exact h
        · have : j = colOf t p := by omega
          rw [e, this] at hb
          exact absurd (cell_place hp) hb
    · rintro Γ1 ⟨hj, rfl⟩
      rw [List.length_map, List.length_range] at hj
      refine ⟨[.as (Dt K (DT t)), .as (Dt K (.int p)), .un, .un], by walk_at "gle", ?_, rfl⟩
      rcases Nat.lt_or_ge i (rowOf t p) with h | h
      · exact h
      · have := hj (by omega)
        omega
  · rintro Γ1 ⟨hi, rfl⟩
    rw [List.length_map, List.length_range] at hi
    omega
end
abbrev s_law_slid : Stmt := topS 18
theorem sc_law_slid : FnScope ["_law_tray_here", "_law_slides", "_law_found", "_law_row", "_law_column", "_law_letter", "_law_down", "_law_right_here", "_law_high", "_law_wide"] ["_law_tray_here", "_law_slides"] (defScope s_law_slid) :=
  ⟨rfl, rfl, rfl, by decide +kernel, rfl, by decide +kernel, by decide +kernel⟩
/-! the one empty place -/
structure Uni (t : List (List Int)) (W r k : Nat) : Prop where
  rect : Rect t W
  hr : r < t.length
  hk : k < W
  un : ∀ i j, i < t.length → j < W → (cellAt t i j = 0 ↔ i = r ∧ j = k)
theorem Uni.has {t : List (List Int)} {W r k : Nat} (h : Uni t W r k) : Has t 0 := by
  have hl : (t.getD r []).length = W := h.rect _ (getD_mem h.hr)
  refine ⟨t.getD r [], getD_mem h.hr, ?_⟩
  have := (h.un r k h.hr h.hk).mpr ⟨rfl, rfl⟩
  rw [← this]
  exact getD_mem (by rw [hl]; exact h.hk)
theorem Uni.place {t : List (List Int)} {W r k : Nat} (h : Uni t W r k) : rowOf t 0 = r ∧ colOf t 0 = k :=
  (h.un _ _ (row_lt h.has) (col_lt h.has h.rect)).mp (cell_place h.has)
theorem cell_put {t : List (List Int)} {W r k i j : Nat} {z : Int} (hR : Rect t W) (hr : r < t.length) (hk : k < W) : cellAt (putAt t r k z) i j = if i = r ∧ j = k then z else cellAt t i j := by
  unfold cellAt putAt
  have hl : (t.getD r []).length = W := hR _ (getD_mem hr)
  by_cases c : i = r
  · subst c
    have e : (t.set i ((t.getD i []).set k z)).getD i [] = (t.getD i []).set k z := by rw [List.getD_eq_getElem?_getD, List.getElem?_set_self hr]; rfl
    rw [e]
    by_cases d : j = k
    · subst d
      rw [List.getD_eq_getElem?_getD, List.getElem?_set_self (by omega), if_pos ⟨rfl, rfl⟩]; rfl
    · rw [List.getD_eq_getElem?_getD, List.getElem?_set_ne (fun z => d z.symm), if_neg (fun h => d h.2), ← List.getD_eq_getElem?_getD]
  · have e : (t.set r ((t.getD r []).set k z)).getD i [] = t.getD i [] := by rw [List.getD_eq_getElem?_getD, List.getElem?_set_ne (fun z => c z.symm), ← List.getD_eq_getElem?_getD]
    rw [e, if_neg (fun h => c h.1)]
theorem put_len {t : List (List Int)} {r k : Nat} {z : Int} : (putAt t r k z).length = t.length := by show (List.set _ _ _).length = _; rw [List.length_set]
theorem Uni.slide {t : List (List Int)} {W r k hi wi : Nat} (h : Uni t W r k) (h1 : hi < t.length) (h2 : wi < W) (hne : ¬ (hi = r ∧ wi = k)) : Uni (putAt (putAt t r k (cellAt t hi wi)) hi wi 0) W hi wi where
  rect := putAt_rect (putAt_rect h.rect h.hr) (by rw [put_len]; exact h1)
  hr := by rw [put_len, put_len]; exact h1
  hk := h2
  un := fun i j hi' hj => by
    rw [put_len, put_len] at hi'
    rw [cell_put (putAt_rect h.rect h.hr) (by rw [put_len]; exact h1) h2, cell_put h.rect h.hr h.hk]
    by_cases c : i = hi ∧ j = wi
    · simp [c]
    · rw [if_neg c]
      by_cases d : i = r ∧ j = k
      · rw [if_pos d]
        exact ⟨fun e => absurd ((h.un hi wi h1 h2).mp e) hne, fun e => absurd e c⟩
      · rw [if_neg d, h.un i j hi' hj]
        exact ⟨fun e => absurd e d, fun e => absurd e c⟩
theorem flat_get {W : Nat} : ∀ {t : List (List Int)} {i j : Nat}, Rect t W → i < t.length → j < W → t.flatten[i * W + j]? = some (cellAt t i j)
  | [], i, j, _, h, _ => by simp at h
  | r :: t, 0, j, hR, _, hj => by
    have hl := hR r (by simp)
    rw [List.flatten_cons, Nat.zero_mul, Nat.zero_add, List.getElem?_append_left (by omega), getq 0 (by omega)]; rfl
  | r :: t, i + 1, j, hR, hi, hj => by
    have hl := hR r (by simp)
    rw [List.flatten_cons, List.getElem?_append_right (by rw [Nat.succ_mul]; omega)]
    have e : (i + 1) * W + j - r.length = i * W + j := by rw [Nat.succ_mul]; omega
    rw [e, flat_get (fun x hx => hR x (by simp [hx])) (by simpa using hi) hj]; rfl
theorem upto_nodup (n : Nat) : (upto n).Nodup := by
  unfold upto
  rw [List.nodup_iff_pairwise_ne, List.pairwise_map]
  exact List.pairwise_lt_range.imp (fun h => by omega)
theorem TrayOk.nodup {t : List (List Int)} {W : Nat} (h : TrayOk t W) : t.flatten.Nodup := h.perm.nodup_iff.mpr (upto_nodup _)
theorem TrayOk.inj {t : List (List Int)} {W i j i' j' : Nat} (h : TrayOk t W) (hi : i < t.length) (hj : j < W) (hi' : i' < t.length) (hj' : j' < W) (e : cellAt t i j = cellAt t i' j') : i = i' ∧ j = j' := by
  have a := flat_get h.rect hi hj
  have b := flat_get h.rect hi' hj'
  rw [e, ← b] at a
  obtain ⟨hl, _⟩ := List.getElem?_eq_some_iff.mp b
  have hle : i * W + j < t.flatten.length := by
    rw [flatten_len h.rect]
    have : (i + 1) * W ≤ t.length * W := Nat.mul_le_mul_right _ hi
    rw [Nat.succ_mul] at this
    omega
  have := (List.getElem?_inj hle h.nodup).mp a
  have hW := h.wid.1
  have q1 : (i * W + j) / W = i := by rw [Nat.mul_comm, Nat.mul_add_div (by omega), Nat.div_eq_of_lt hj, Nat.add_zero]
  have q2 : (i' * W + j') / W = i' := by rw [Nat.mul_comm, Nat.mul_add_div (by omega), Nat.div_eq_of_lt hj', Nat.add_zero]
  have hii : i = i' := by rw [← q1, ← q2, this]
  subst hii
  exact ⟨rfl, by omega⟩
theorem TrayOk.uni {t : List (List Int)} {W : Nat} (h : TrayOk t W) : Uni t W (rowOf t 0) (colOf t 0) where
  rect := h.rect
  hr := row_lt h.has0
  hk := col_lt h.has0 h.rect
  un := fun i j hi hj => ⟨fun e => h.inj hi hj (row_lt h.has0) (col_lt h.has0 h.rect) (e.trans (cell_place h.has0).symm), fun ⟨e1, e2⟩ => by rw [e1, e2]; exact cell_place h.has0⟩
theorem slid_uni {t t' : List (List Int)} {W r k c : Nat} (h : Uni t W r k) (hs : slidM t c = some t') : ∃ (dr dc : Int) (hi wi : Nat), stepOf c = some (dr, dc) ∧ (hi : Int) = r + dr ∧ (wi : Int) = k + dc ∧ hi < t.length ∧ wi < W ∧
    t' = putAt (putAt t r k (cellAt t hi wi)) hi wi 0 ∧ Uni t' W hi wi := by
  obtain ⟨dr, dc, hi, wi, h1, h2, h3, h4, h5, h6⟩ := slid_some hs
  obtain ⟨e1, e2⟩ := h.place
  rw [e1] at h2 h6
  rw [e2] at h3 h6
  have hw : (t.getD 0 []).length = W := h.rect _ (getD_mem (by omega))
  rw [hw] at h5
  refine ⟨dr, dc, hi, wi, h1, h2, h3, h4, h5, h6, ?_⟩
  rw [h6]
  refine h.slide h4 h5 ?_
  rintro ⟨rfl, rfl⟩
  rcases step_cases h1 with ⟨_, rfl, rfl⟩ | ⟨_, rfl, rfl⟩ | ⟨_, rfl, rfl⟩ | ⟨_, rfl, rfl⟩ <;> omega
theorem slid_uni_of {t : List (List Int)} {W r k c : Nat} {dr dc : Int} {hi wi : Nat} (h : Uni t W r k) (hs : stepOf c = some (dr, dc)) (e1 : (hi : Int) = r + dr) (e2 : (wi : Int) = k + dc) (h1 : hi < t.length) (h2 : wi < W) :
    slidM t c = some (putAt (putAt t r k (cellAt t hi wi)) hi wi 0) := by
  obtain ⟨p1, p2⟩ := h.place
  have := slid_of (t := t) (c := c) (hi := hi) (wi := wi) hs (by rw [p1]; exact e1) (by rw [p2]; exact e2) h1 (by rw [h.rect _ (getD_mem (by have := h.hr; omega))]; exact h2)
  rw [p1, p2] at this
  exact this
section
variable {P : Program} {w : World} {K : PySem.W.Frag} {mg : Str → Option Value} {base : Heap} {Γ : List Sl} {c : Cb} {k : Kt}
def optD : Option (List (List Int)) → PyData
  | none => .none
  | some t => DT t
def moveOf (c : Nat) : Int × Int := (stepOf c).getD (9, 9)
theorem ev_moves {ty : TE} {ch : Nat} (hy : EvA ty Γ (Dt K (.str ⟨#[ch]⟩))) : EvA (tDGet2 (tDisp [(tC (V.str "u"), tTup (tCons (tUn (rU fun i => V.int (-i)) (tC (V.int 1))) (tCons (tC (V.int 0)) tNil))), (tC (V.str "d"), tTup (tCons (tC (V.int 1)) (tCons (tC (V.int 0)) tNil))),
    (tC (V.str "l"), tTup (tCons (tC (V.int 0)) (tCons (tUn (rU fun i => V.int (-i)) (tC (V.int 1))) tNil))), (tC (V.str "r"), tTup (tCons (tC (V.int 0)) (tCons (tC (V.int 1)) tNil)))]) ty (tTup (tCons (tC (V.int 9)) (tCons (tC (V.int 9)) tNil)))) Γ (Dt K (DP (moveOf ch))) := by
  have two : ∀ {x y : TE} {a b : Int}, EvA x Γ (Dt K (.int a)) → EvA y Γ (Dt K (.int b)) → EvA (tTup (tCons x (tCons y tNil))) Γ (Dt K (DP (a, b))) := fun h1 h2 => ev_tupD (ed_cons h1 (ed_cons h2 ed_nil)) (by simp [sizeLine_eq])
  have m1 : EvA (tUn (rU fun i => V.int (-i)) (tC (V.int 1))) Γ (Dt K (.int (-1))) := ev_negI ev_int
  refine ev_dget2 (k := .inr ⟨#[ch]⟩) (ev_disp (K := K) (ep_cons (K := K) (k := .inr "u") ev_str (two m1 ev_int) (ep_cons (K := K) (k := .inr "d") ev_str (two ev_int ev_int) (ep_cons (K := K) (k := .inr "l") ev_str (two ev_int m1) (ep_cons (K := K) (k := .inr "r") ev_str (two ev_int ev_int) (ep_nil (K := K)))))) (by simp) (by simp only [List.map_cons, List.map_nil]; decide)) hy (two ev_int ev_int) ?_ ?_
  · intro a ha
    have hS : ∀ (x : Str) (n : Nat), x = ⟨#[n]⟩ → (decide ((Sum.inr x : Key) = .inr ⟨#[ch]⟩) = decide (n = ch)) := by
      rintro x n rfl
      exact decide_eq_decide.mpr ⟨fun h => by injection h with h; injection h with h; simpa using h, fun h => by rw [h]⟩
    simp only [List.find?_cons, hS "u" 117 rfl, hS "d" 100 rfl, hS "l" 108 rfl, hS "r" 114 rfl, List.find?_nil] at ha
    unfold moveOf stepOf
    by_cases c1 : ch = 117
    · subst c1; simp at ha; subst ha; exact As.le_refl _
    by_cases c2 : ch = 100
    · subst c2; simp at ha; subst ha; exact As.le_refl _
    by_cases c3 : ch = 108
    · subst c3; simp at ha; subst ha; exact As.le_refl _
    by_cases c4 : ch = 114
    · subst c4; simp at ha; subst ha; exact As.le_refl _
    simp [Ne.symm c1, Ne.symm c2, Ne.symm c3, Ne.symm c4] at ha
  · intro ha
    have hS : ∀ (x : Str) (n : Nat), x = ⟨#[n]⟩ → (decide ((Sum.inr x : Key) = .inr ⟨#[ch]⟩) = decide (n = ch)) := by
      rintro x n rfl
      exact decide_eq_decide.mpr ⟨fun h => by injection h with h; injection h with h; simpa using h, fun h => by rw [h]⟩
    simp only [List.find?_cons, hS "u" 117 rfl, hS "d" 100 rfl, hS "l" 108 rfl, hS "r" 114 rfl, List.find?_nil] at ha
    unfold moveOf stepOf
    by_cases c1 : ch = 117
    · subst c1; simp at ha
    by_cases c2 : ch = 100
    · subst c2; simp at ha
    by_cases c3 : ch = 108
    · subst c3; simp at ha
    by_cases c4 : ch = 114
    · subst c4; simp at ha
    simp only [c1, c2, c3, c4, if_false]
    exact As.le_refl _
def R_law_slid (K : PySem.W.Frag) (as : List As) (o : Outc) : Prop := ∃ (t : List (List Int)) (l : List Nat) (W r k : Nat), as = [Dt K (DT t), Dt K (DS l)] ∧ Uni t W r k ∧ t.length ≤ 6 ∧ W ≤ 6 ∧ l.length ≤ 1000000 ∧ o = .ret (Dt K (optD (slidAllM t l)))
theorem ok_law_slid {f : Addr} {fd : FuncData} (F : L2.Fun K "_law_slid" "_law_slid" s_law_slid f fd) (c_law_place : Cl P w K mg base L2.CX0 1 "_law_place" (SpD 2 (R_law_place K))) (n_list : mg "list" = none) (n_len : mg "len" = none) : FnOk P w K mg base L2.CX0 2 f fd ["_law_tray_here", "_law_slides"] (SpD 2 (R_law_slid K)) := by
  refine def_ok F sc_law_slid rfl fun cdv A outer s Hf H as o E hr hR => ?_
  obtain ⟨t, l, W, r, k, rfl, hU, hl, hW, hll, rfl⟩ := hR
  refine ⟨_, (pss_cons (ps_setLc (i := 2) (own := [("_law_row", 3)]) (g := (gName 3)) (by rfl) sc_law_slid.nd rfl rfl (sw_true rfl rfl rfl (by decide +kernel)) (pi_listK K (pv 0)) (blkOk_by (N := ["_law_tray_here", "_law_slides", "_law_found", "_law_row", "_law_column", "_law_letter", "_law_down", "_law_right_here", "_law_high", "_law_wide"]) (sc := defScope s_law_slid) (own := [("_law_row", 3)]) (by decide +kernel)) (fun _ _ _ _ _ => (pg_name (i := 3) sc_law_slid.nd rfl (by first | exact Or.inl rfl | exact Or.inr rfl))) (fun _ _ _ _ _ => pts_nil) (fun _ _ _ _ _ => (pe_callTy (call_listK K) (by rfl) n_list (by decide +kernel) (pa_cons (pv 3) pa_nil))))
      (pss_cons (ps_asg (by exact (pe_cl c_law_place hr (by decide) (by rfl) (pa_cons (pv 0) (pa_cons pe_int pa_nil)))) (pg_tupK K (n := 2) (pgs_cons (pg_name (i := 3) sc_law_slid.nd rfl (by first | exact Or.inl rfl | exact Or.inr rfl)) (pgs_cons (pg_name (i := 4) sc_law_slid.nd rfl (by first | exact Or.inl rfl | exact Or.inr rfl)) pgs_nil))))
      (pss_cons (ps_for PassesOwn.never rfl (pi_str (pv 1)) (pg_name (i := 5) sc_law_slid.nd rfl (by first | exact Or.inl rfl | exact Or.inr rfl)) (pss_cons (ps_asg (pe_dget2 (hu_of hr) (pe_disp (pps_cons pe_str (pe_tup (pa_cons (pe_un un_neg pe_int) (pa_cons pe_int pa_nil))) (pps_cons pe_str (pe_tup (pa_cons pe_int (pa_cons pe_int pa_nil))) (pps_cons pe_str (pe_tup (pa_cons pe_int (pa_cons (pe_un un_neg pe_int) pa_nil))) (pps_cons pe_str (pe_tup (pa_cons pe_int (pa_cons pe_int pa_nil))) pps_nil)))) (by rfl) (by rfl) (fun z => by cases z) (by decide)) (pv 5) (pe_tup (pa_cons pe_int (pa_cons pe_int pa_nil))) ⟨rfl, rfl, rfl, rfl⟩) (pg_tupK K (n := 2) (pgs_cons (pg_name (i := 6) sc_law_slid.nd rfl (by first | exact Or.inl rfl | exact Or.inr rfl)) (pgs_cons (pg_name (i := 7) sc_law_slid.nd rfl (by first | exact Or.inl rfl | exact Or.inr rfl)) pgs_nil))))
      (pss_cons (ps_par (i := 8) (j := 9) (by rfl) sc_law_slid.nd rfl rfl (by decide) rfl rfl (pa_cons (pe_op op_add (pv 3) (pv 6)) (pa_cons (pe_op op_add (pv 4) (pv 7)) pa_nil)) (by rfl))
      (pss_cons (ps_if (PW.pt (pw_or (pt_not (pt_chain op_le op_lt pe_int (pv 8) (by exact (pe_callB (call_lenK K) (by rfl) n_len (by decide +kernel) (pa_cons (pv 0) pa_nil))))) (pw_or1 (pt_not (pt_chain op_le op_lt pe_int (pv 9) (by exact (pe_callB (call_lenK K) (by rfl) n_len (by decide +kernel) (pa_cons (pe_ix (ix_listK K) (pv 0) pe_int (fun _ _ => rfl)) pa_nil)))))))) (pss_one (ps_ret pe_non)) pss_nil)
      (pss_cons (ps_asg (pe_ix (ix_listK K) (pe_ix (ix_listK K) (pv 2) (pv 8) (fun _ _ => rfl)) (pv 9) (fun _ _ => rfl)) (pg_sub (pe_ix (ix_listK K) (pv 2) (pv 3) (fun _ _ => rfl)) (pv 4) set_list))
      (pss_cons (ps_asg pe_int (pg_sub (pe_ix (ix_listK K) (pv 2) (pv 8) (fun _ _ => rfl)) (pv 9) set_list))
      (pss_one (ps_par (i := 3) (j := 4) (by rfl) sc_law_slid.nd rfl rfl (by decide) rfl rfl (pa_cons (pv 8) (pa_cons (pv 9) pa_nil)) (by rfl)))))))))
      (pss_one (ps_ret (pv 2)))))), ?_⟩
  have h0 := hU.has
  apply rn_seq
  refine rn_asgW (w := OT K t) (ew_copyT (by walk_at "ev") (by decide) (by simp [G0]) (by omega)) ?_
  dsimp only
  apply rn_seq
  refine rn_asgG (a := Dt K (DP ((rowOf t 0 : Nat), (colOf t 0 : Nat)))) (ev_call (as := [Dt K (DT t), Dt K (.int 0)]) (by walk_at "ev") ⟨t, 0, W, rfl, h0, hU.rect, by omega, by omega, rfl⟩ rfl) (by walk_at "eg") ?_
  dsimp only
  rw [hU.place.1, hU.place.2]
  apply rn_seq
  refine rn_for (fun i Γ => ∃ t' r' k', slidAllM t (l.take i) = some t' ∧ t'.length = t.length ∧ Uni t' W r' k' ∧ Γ = [.as (Dt K (DT t)), .as (Dt K (DS l)), .ow (OT K t'), .as (Dt K (.int ((r' : Nat) : Int))), .as (Dt K (.int ((k' : Nat) : Int))), .un, .un, .un, .un, .un]) (ei_str (by walk_at "ev")) ⟨t, r, k, rfl, rfl, hU, rfl⟩ ?_ ?_
  · rintro c' sb i a Γ1 ⟨t', r', k', ht', hl', hU', rfl⟩ ha
    have ha' : (l.map fun c => Dt K (.str ⟨#[c]⟩))[i]? = some a := by unfold chs at ha; simpa using ha
    rw [List.getElem?_map] at ha'
    cases hc : l[i]? with
    | none => rw [hc] at ha'; cases ha'
    | some ch =>
      rw [hc] at ha'
      obtain rfl := Option.some.inj ha'
      have hstep := slidAll_take (t := t) hc
      rw [ht', Option.bind_some] at hstep
      refine ⟨_, eg_name, ?_⟩
      dsimp only [List.set]
      apply rn_seq
      refine rn_asgG (a := Dt K (DP (moveOf ch))) (ev_moves (ev_var rfl)) (by walk_at "eg") ?_
      dsimp only [List.set]
      generalize hmv : moveOf ch = mv
      obtain ⟨dr, dc⟩ := mv
      apply rn_seq
      refine rn_par (es_cons (ev_I0i (g := fun i j => i + j) (ev_var rfl) (ev_var rfl)) (es_cons (ev_I0i (g := fun i j => i + j) (ev_var rfl) (ev_var rfl)) es_nil)) ?_
      dsimp only [List.set]
      have hrl := hU'.hr
      have hkl := hU'.hk
      have h0W : ∀ i, i < t.length → (t.getD i []).length = W := fun i hi => hU.rect _ (getD_mem hi)
      have h0W' : ∀ i, i < t'.length → (t'.getD i []).length = W := fun i hi => hU'.rect _ (getD_mem hi)
      have kl := fun Γ0 => ev_lenLD (K := K) (Γ := .as (Dt K (DT t)) :: Γ0) (el_dt (ds := t.map DI) (ev_var (i := 0) rfl))
      have kw := fun Γ0 => ev_lenLD (K := K) (Γ := .as (Dt K (DT t)) :: Γ0) (el_dt (ds := (t.getD 0 []).map PyData.int) (ev_ixLD (el_dt (ds := t.map DI) (ev_var (i := 0) rfl)) (ev_int (i := 0)) (at_row (getq [] (by omega : 0 < t.length)) rfl)))
      simp only [List.length_map, h0W 0 (by omega)] at kl kw
      apply rn_seq
      refine rn_if (b := !(decide (0 ≤ (r' : Int) + dr) && decide ((r' : Int) + dr < (t.length : Int))) || !(decide (0 ≤ (k' : Int) + dc) && decide ((k' : Int) + dc < (W : Int)))) (eb_or' (eb_not (eb_test (ev_chain (g := fun i j => decide (i ≤ j)) (g' := fun i j => decide (i < j)) ev_int (ev_var rfl) (kl _)))) (eb_not (eb_test (ev_chain (g := fun i j => decide (i ≤ j)) (g' := fun i j => decide (i < j)) ev_int (ev_var rfl) (kw _))))) ?_ ?_
      · intro hb
        refine rn_ret (a := Dt K .none) ev_non ?_
        rw [slidAll_stop (t := t) (l := l) (i := i + 1) ?_]
        · exact As.le_refl _
        · rw [hstep]
          cases hs : slidM t' ch with
          | none => rfl
          | some u =>
            obtain ⟨dr2, dc2, hi, wi, h1, h2, h3, h4, h5, _, _⟩ := slid_uni hU' hs
            unfold moveOf at hmv
            rw [h1] at hmv
            obtain ⟨rfl, rfl⟩ := Prod.mk.inj hmv
            simp at hb
            omega
      · intro hb
        have hin : 0 ≤ (r' : Int) + dr ∧ (r' : Int) + dr < (t.length : Int) ∧ 0 ≤ (k' : Int) + dc ∧ (k' : Int) + dc < (W : Int) := by
          simp at hb
          omega
        obtain ⟨i1, i2, i3, i4⟩ := hin
        have hst : stepOf ch = some (dr, dc) := by
          unfold moveOf at hmv
          cases hs : stepOf ch with
          | none =>
            rw [hs] at hmv
            obtain ⟨rfl, rfl⟩ := Prod.mk.inj hmv
            omega
          | some p => rw [hs] at hmv; rw [← hmv]; rfl
        have e1 : (r' : Int) + dr = (((r' : Int) + dr).toNat : Nat) := by omega
        have e2 : (k' : Int) + dc = (((k' : Int) + dc).toNat : Nat) := by omega
        generalize hh : ((r' : Int) + dr).toNat = hi at e1
        generalize hw : ((k' : Int) + dc).toNat = wi at e2
        have hhl : hi < t'.length := by omega
        have hwl : wi < W := by omega
        have hsl := slid_uni_of hU' hst e1.symm e2.symm hhl hwl
        have hU2 := (slid_uni hU' hsl)
        obtain ⟨dr2, dc2, hi2, wi2, g1, g2, g3, g4, g5, g6, hU2⟩ := hU2
        rw [hst] at g1
        obtain ⟨rfl, rfl⟩ := Prod.mk.inj (Option.some.inj g1)
        obtain rfl : hi2 = hi := by omega
        obtain rfl : wi2 = wi := by omega
        apply rn_next
        apply rn_seq
        refine rn_setOT (m := r') (n := k') (row := t'.getD r' []) (z := cellAt t' hi2 wi2) rfl (ev_ixLD (el_OT rfl (ev_var rfl) e1 (getq [] hhl)) (ev_var rfl) (at_int (getq 0 (by rw [h0W' _ hhl]; exact hwl)) e2)) (ev_var rfl) (ev_var rfl) rfl rfl (getq [] hrl) (by rw [h0W' _ hrl]; exact hkl) ?_
        dsimp only [List.set]
        apply rn_seq
        refine rn_setOT (m := hi2) (n := wi2) (row := (putAt t' r' k' (cellAt t' hi2 wi2)).getD hi2 []) (z := 0) rfl ev_int (ev_var rfl) (ev_var rfl) e1 e2 (getq [] (by show hi2 < (List.set _ _ _).length; rw [List.length_set]; exact hhl)) (by rw [put_row hU'.rect hrl hhl]; exact hwl) ?_
        dsimp only [List.set]
        refine rn_par (es_cons (ev_var rfl) (es_cons (ev_var rfl) es_nil)) ?_
        refine ⟨[.as (Dt K (DT t)), .as (Dt K (DS l)), .ow (OT K (putAt (putAt t' r' k' (cellAt t' hi2 wi2)) hi2 wi2 0)), .as (Dt K (.int ((hi2 : Nat) : Int))), .as (Dt K (.int ((wi2 : Nat) : Int))), .un, .un, .un, .un, .un], ?_, _, hi2, wi2, by rw [hstep]; exact hsl, by rw [put_len, put_len]; exact hl', hU2, rfl⟩
        rw [← e1, ← e2]
        dsimp only [List.set]
        walk_at "gle"
  · rintro Γ1 ⟨t', r', k', ht', hl', hU', rfl⟩
    dsimp only
    have hl2 : l.take (chs K (SX.S l)).length = l := List.take_of_length_le (by simp [chs])
    rw [hl2] at ht'
    rw [ht']
    refine rn_fixOT (i := 2) (tr := t') rfl ?_
    exact rn_ret (a := Dt K (DT t')) (ev_var rfl) (As.le_refl _)
end
abbrev s_law_walk : Stmt := topS 19
theorem sc_law_walk : FnScope ["_law_tray_here", "_law_cells", "_law_row", "_law_column", "_law_found", "_law_cell", "_law_letter"] ["_law_tray_here", "_law_cells"] (defScope s_law_walk) :=
  ⟨rfl, rfl, rfl, by decide +kernel, rfl, by decide +kernel, by decide +kernel⟩
/-! a walk that stays on the tray -/
def letterOf (c : Int) : Nat := [117, 100, 108, 114].getD (c % 4).toNat 0
def bendTo (r h a : Nat) (x y : Nat) : Nat := if r = 0 then x else if r = h - 1 then y else a
structure WS where
  r : Nat
  k : Nat
  l : List Nat
def wStep (h w : Nat) (s : WS) (c : Int) : WS :=
  let a := letterOf c
  if a = 117 ∨ a = 100 then
    if 1 < h then let b := bendTo s.r h a 100 117; ⟨if b = 100 then s.r + 1 else s.r - 1, s.k, s.l ++ [b]⟩ else s
  else
    if 1 < w then let b := bendTo s.k w a 114 108; ⟨s.r, if b = 114 then s.k + 1 else s.k - 1, s.l ++ [b]⟩ else s
def walkS (h w r k : Nat) (cs : List Int) : WS := cs.foldl (wStep h w) ⟨r, k, []⟩
theorem letter_cases (c : Int) : letterOf c = 117 ∨ letterOf c = 100 ∨ letterOf c = 108 ∨ letterOf c = 114 := by
  unfold letterOf
  have h1 := Int.emod_lt_of_pos c (show (0 : Int) < 4 by decide)
  have h2 := Int.emod_nonneg c (show (4 : Int) ≠ 0 by decide)
  have : (c % 4).toNat = 0 ∨ (c % 4).toNat = 1 ∨ (c % 4).toNat = 2 ∨ (c % 4).toNat = 3 := by omega
  rcases this with h | h | h | h <;> rw [h] <;> simp
theorem bend_cases (r h a x y : Nat) : bendTo r h a x y = x ∨ bendTo r h a x y = y ∨ bendTo r h a x y = a := by
  unfold bendTo
  split
  · exact .inl rfl
  · split
    · exact .inr (.inl rfl)
    · exact .inr (.inr rfl)
structure WSok (t : List (List Int)) (W : Nat) (s : WS) (n : Nat) : Prop where
  to : ∃ t', slidAllM t s.l = some t' ∧ Uni t' W s.r s.k ∧ t'.length = t.length
  ln : s.l.length ≤ n
  ud : ∀ c ∈ s.l, (stepOf c).isSome = true
theorem slidAll_snoc {t t' : List (List Int)} {l : List Nat} {c : Nat} (h : slidAllM t l = some t') : slidAllM t (l ++ [c]) = slidM t' c := by
  unfold slidAllM at h ⊢
  rw [List.foldlM_append, h]
  show (List.foldlM slidM t' [c]) = slidM t' c
  rw [List.foldlM_cons]
  cases slidM t' c <;> rfl
theorem WSok.go {t : List (List Int)} {W r k c : Nat} {l : List Nat} {n : Nat} {dr dc : Int} {hi wi : Nat} (h : WSok t W ⟨r, k, l⟩ n) (hs : stepOf c = some (dr, dc)) (e1 : (hi : Int) = r + dr) (e2 : (wi : Int) = k + dc) (h1 : hi < t.length) (h2 : wi < W) : WSok t W ⟨hi, wi, l ++ [c]⟩ (n + 1) := by
  obtain ⟨⟨t', h3, h4, h5⟩, h6, h7⟩ := h
  have hsl := slid_uni_of h4 hs e1 e2 (by omega) h2
  obtain ⟨dr2, dc2, hi2, wi2, g1, g2, g3, g4, g5, g6, hU2⟩ := slid_uni h4 hsl
  rw [hs] at g1
  obtain ⟨rfl, rfl⟩ := Prod.mk.inj (Option.some.inj g1)
  dsimp only at g2 g3 e1 e2 h6 h7
  obtain rfl : hi2 = hi := by omega
  obtain rfl : wi2 = wi := by omega
  refine ⟨⟨_, (slidAll_snoc h3).trans hsl, hU2, by rw [put_len, put_len]; exact h5⟩, by simp; omega, fun x hx => ?_⟩
  rcases List.mem_append.mp hx with hx | hx
  · exact h7 x hx
  · obtain rfl : x = c := by simpa using hx
    rw [hs]; rfl
theorem WSok.step {t : List (List Int)} {W : Nat} {s : WS} {n : Nat} {c : Int} (h : WSok t W s n) : WSok t W (wStep t.length W s c) (n + 1) := by
  have hs : WSok t W s (n + 1) := ⟨h.to, Nat.le_succ_of_le h.ln, h.ud⟩
  obtain ⟨r, k, l⟩ := s
  have hrk : r < t.length ∧ k < W := by
    obtain ⟨t', _, h4, h5⟩ := h.to
    exact ⟨by have := h4.hr; dsimp only at this; omega, h4.hk⟩
  obtain ⟨hr, hk⟩ := hrk
  unfold wStep
  dsimp only
  have hl := letter_cases c
  by_cases c1 : letterOf c = 117 ∨ letterOf c = 100
  · rw [if_pos c1]
    by_cases c2 : 1 < t.length
    · rw [if_pos c2]
      by_cases c3 : bendTo r t.length (letterOf c) 100 117 = 100
      · rw [if_pos c3, c3]
        refine h.go (dr := 1) (dc := 0) rfl (by omega) (by omega) ?_ hk
        unfold bendTo at c3
        split at c3
        · omega
        · split at c3
          · omega
          · omega
      · rw [if_neg c3]
        have e : bendTo r t.length (letterOf c) 100 117 = 117 := by
          rcases bend_cases r t.length (letterOf c) 100 117 with h | h | h <;> omega
        rw [e]
        have hr0 : r ≠ 0 := fun z => c3 (by unfold bendTo; rw [if_pos z])
        exact h.go (dr := -1) (dc := 0) rfl (by omega) (by omega) (by omega) hk
    · rw [if_neg c2]; exact hs
  · rw [if_neg c1]
    by_cases c2 : 1 < W
    · rw [if_pos c2]
      by_cases c3 : bendTo k W (letterOf c) 114 108 = 114
      · rw [if_pos c3, c3]
        refine h.go (dr := 0) (dc := 1) rfl (by omega) (by omega) hr ?_
        unfold bendTo at c3
        split at c3
        · omega
        · split at c3
          · omega
          · omega
      · rw [if_neg c3]
        have e : bendTo k W (letterOf c) 114 108 = 108 := by
          rcases bend_cases k W (letterOf c) 114 108 with h | h | h <;> omega
        rw [e]
        have hr0 : k ≠ 0 := fun z => c3 (by unfold bendTo; rw [if_pos z])
        exact h.go (dr := 0) (dc := -1) rfl (by omega) (by omega) hr (by omega)
    · rw [if_neg c2]; exact hs
theorem mud (x : Nat) : decide (x ∈ ("ud" : Str).cps.toList) = decide (x = 117 ∨ x = 100) := by
  show decide (x ∈ [117, 100]) = _
  simp
theorem mlr (x : Nat) : decide (x ∈ ("lr" : Str).cps.toList) = decide (x = 108 ∨ x = 114) := by
  show decide (x ∈ [108, 114]) = _
  simp
theorem ifr {i : Int} {n : Nat} {c : Prop} [Decidable c] {b : Bool} (hb : b = decide c) (h1 : c → True) {x y : Int} {m : Nat} (e1 : c → x = (m : Nat)) (e2 : ¬ c → y = (m : Nat)) : (if b = true then PyData.int x else PyData.int y) = PyData.int (m : Nat) := by
  subst hb
  by_cases h : c
  · rw [if_pos (decide_eq_true h), e1 h]
  · rw [if_neg (by rw [decide_eq_false h]; exact Bool.false_ne_true), e2 h]
theorem walk_ok {t : List (List Int)} {W r k : Nat} (h : Uni t W r k) : ∀ cs : List Int, WSok t W (walkS t.length W r k cs) cs.length := by
  suffices g : ∀ (cs : List Int) (s : WS) (n : Nat), WSok t W s n → WSok t W (cs.foldl (wStep t.length W) s) (n + cs.length) by
    intro cs
    have := g cs ⟨r, k, []⟩ 0 ⟨⟨t, rfl, h, rfl⟩, Nat.le_refl _, fun _ h => nomatch h⟩
    rwa [Nat.zero_add] at this
  intro cs
  induction cs with
  | nil => intro s n h; exact h
  | cons c cs ih =>
    intro s n h
    rw [List.foldl_cons, List.length_cons, Nat.add_comm cs.length 1, ← Nat.add_assoc]
    exact ih _ _ h.step
section
variable {P : Program} {w : World} {K : PySem.W.Frag} {mg : Str → Option Value} {base : Heap} {Γ : List Sl} {c : Cb} {k : Kt}
theorem ev_ifD {tt : TT} {ta tb : TE} {c : Bool} {d e : PyData} (h : EvB tt Γ c) (h1 : EvA ta Γ (Dt K d)) (h2 : EvA tb Γ (Dt K e)) : EvA (tIf tt ta tb) Γ (Dt K (if c = true then d else e)) := by
  cases c with
  | true => exact ev_if h (fun _ => h1) (fun h => nomatch h)
  | false => exact ev_if h (fun h => nomatch h) (fun _ => h2)
theorem ev_letter {te : TE} {c : Int} (h : EvA te Γ (Dt K (.int c))) : EvA (tOp rIxS (tC (V.str "udlr")) (tOp (rI (fun _ j => 0 < j) fun i j => V.int (i % j)) te (tC (V.int 4)))) Γ (Dt K (.str ⟨#[letterOf c]⟩)) := by
  refine ev_ixS ev_str (ev_Ii (g := fun i j => i % j) h ev_int (by decide)) (by decide) ?_
  have h1 := Int.emod_lt_of_pos c (show (0 : Int) < 4 by decide)
  have h2 := Int.emod_nonneg c (show (4 : Int) ≠ 0 by decide)
  unfold letterOf
  generalize c % 4 = m at h1 h2 ⊢
  obtain rfl | rfl | rfl | rfl : m = 0 ∨ m = 1 ∨ m = 2 ∨ m = 3 := by omega
  all_goals rfl
def R_law_walk (K : PySem.W.Frag) (as : List As) (o : Outc) : Prop := ∃ (t : List (List Int)) (cs : List Int) (W r k : Nat), as = [Dt K (DT t), Dt K (DI cs)] ∧ Uni t W r k ∧ t.length ≤ 6 ∧ W ≤ 6 ∧ cs.length ≤ 1000000 ∧ o = .ret (Dt K (DS (walkS t.length W r k cs).l))
theorem ok_law_walk {f : Addr} {fd : FuncData} (F : L2.Fun K "_law_walk" "_law_walk" s_law_walk f fd) (c_law_place : Cl P w K mg base L2.CX0 1 "_law_place" (SpD 2 (R_law_place K))) (n_len : mg "len" = none) : FnOk P w K mg base L2.CX0 2 f fd ["_law_tray_here", "_law_cells"] (SpD 2 (R_law_walk K)) := by
  refine def_ok F sc_law_walk rfl fun cdv A outer s Hf H as o E hr hR => ?_
  obtain ⟨t, cs, W, r, k, rfl, hU, hl, hW, hll, rfl⟩ := hR
  refine ⟨_, (pss_cons (ps_asg (by exact (pe_cl c_law_place hr (by decide) (by rfl) (pa_cons (pv 0) (pa_cons pe_int pa_nil)))) (pg_tupK K (n := 2) (pgs_cons (pg_name (i := 2) sc_law_walk.nd rfl (by first | exact Or.inl rfl | exact Or.inr rfl)) (pgs_cons (pg_name (i := 3) sc_law_walk.nd rfl (by first | exact Or.inl rfl | exact Or.inr rfl)) pgs_nil))))
      (pss_cons (ps_set (i := 4) sc_law_walk.nd rfl (by first | exact Or.inl rfl | exact Or.inr rfl) pe_str)
      (pss_cons (ps_for PassesOwn.never rfl (pi_listK K (pv 1)) (pg_name (i := 5) sc_law_walk.nd rfl (by first | exact Or.inl rfl | exact Or.inr rfl)) (pss_cons (ps_set (i := 6) sc_law_walk.nd rfl (by first | exact Or.inl rfl | exact Or.inr rfl) (pe_ix ix_str pe_str (pe_op op_mod (pv 5) pe_int) (fun _ _ => rfl)))
      (pss_one (ps_if (PW.pt (pw_and (pt_cmpR op_inSg (pv 6) pe_str (by rfl)) (pw_and1 (pt_cmpR op_gt (by exact (pe_callB (call_lenK K) (by rfl) n_len (by decide +kernel) (pa_cons (pv 0) pa_nil))) pe_int (nomark _))))) (pss_cons (ps_set (i := 6) sc_law_walk.nd rfl (by first | exact Or.inl rfl | exact Or.inr rfl) (pe_ifExp (pt_cmpR op_eq (pv 2) pe_int (nomark _)) pe_str (pe_ifExp (pt_cmpR op_eq (pv 2) (pe_op op_sub (by exact (pe_callB (call_lenK K) (by rfl) n_len (by decide +kernel) (pa_cons (pv 0) pa_nil))) pe_int) (nomark _)) pe_str (pv 6))))
      (pss_cons (ps_set (i := 2) sc_law_walk.nd rfl (by first | exact Or.inl rfl | exact Or.inr rfl) (pe_ifExp (pt_cmpR op_eq (pv 6) pe_str (nomark _)) (pe_op op_add (pv 2) pe_int) (pe_op op_sub (pv 2) pe_int)))
      (pss_one (ps_set (i := 4) sc_law_walk.nd rfl (by first | exact Or.inl rfl | exact Or.inr rfl) (pe_op op_addStr (pv 4) (pv 6)))))) (pss_one (ps_if (PW.pt (pw_and (pt_cmpR op_inSg (pv 6) pe_str (by rfl)) (pw_and1 (pt_cmpR op_gt (by exact (pe_callB (call_lenK K) (by rfl) n_len (by decide +kernel) (pa_cons (pe_ix (ix_listK K) (pv 0) pe_int (fun _ _ => rfl)) pa_nil))) pe_int (nomark _))))) (pss_cons (ps_set (i := 6) sc_law_walk.nd rfl (by first | exact Or.inl rfl | exact Or.inr rfl) (pe_ifExp (pt_cmpR op_eq (pv 3) pe_int (nomark _)) pe_str (pe_ifExp (pt_cmpR op_eq (pv 3) (pe_op op_sub (by exact (pe_callB (call_lenK K) (by rfl) n_len (by decide +kernel) (pa_cons (pe_ix (ix_listK K) (pv 0) pe_int (fun _ _ => rfl)) pa_nil))) pe_int) (nomark _)) pe_str (pv 6))))
      (pss_cons (ps_set (i := 3) sc_law_walk.nd rfl (by first | exact Or.inl rfl | exact Or.inr rfl) (pe_ifExp (pt_cmpR op_eq (pv 6) pe_str (nomark _)) (pe_op op_add (pv 3) pe_int) (pe_op op_sub (pv 3) pe_int)))
      (pss_one (ps_set (i := 4) sc_law_walk.nd rfl (by first | exact Or.inl rfl | exact Or.inr rfl) (pe_op op_addStr (pv 4) (pv 6)))))) pss_nil))))))
      (pss_one (ps_ret (pv 4)))))), ?_⟩
  have h0 := hU.has
  apply rn_seq
  refine rn_asgG (a := Dt K (DP ((rowOf t 0 : Nat), (colOf t 0 : Nat)))) (ev_call (as := [Dt K (DT t), Dt K (.int 0)]) (by walk_at "ev") ⟨t, 0, W, rfl, h0, hU.rect, by omega, by omega, rfl⟩ rfl) (by walk_at "eg") ?_
  dsimp only
  rw [hU.place.1, hU.place.2]
  apply rn_seq
  refine rn_asg (a := Dt K (DS [])) ev_str ?_
  dsimp only
  apply rn_seq
  refine rn_for (fun i Γ => ∃ s : WS, s = walkS t.length W r k (cs.take i) ∧ Γ = [.as (Dt K (DT t)), .as (Dt K (DI cs)), .as (Dt K (.int ((s.r : Nat) : Int))), .as (Dt K (.int ((s.k : Nat) : Int))), .as (Dt K (DS s.l)), .un, .un]) (ei_listD (by walk_at "ev")) ⟨⟨r, k, []⟩, rfl, rfl⟩ ?_ ?_
  · rintro c' sb i a Γ1 ⟨s, hs, rfl⟩ ha
    rw [List.getElem?_map, List.getElem?_map] at ha
    cases hc : cs[i]? with
    | none => rw [hc] at ha; cases ha
    | some ce =>
      rw [hc] at ha
      obtain rfl := Option.some.inj ha
      have hil : i < cs.length := (List.getElem?_eq_some_iff.mp hc).1
      have hok := walk_ok hU (cs.take i)
      have hstep : walkS t.length W r k (cs.take (i + 1)) = wStep t.length W s ce := by rw [hs]; unfold walkS; rw [List.take_add_one, hc, List.foldl_append]; rfl
      have hln := hok.ln
      rw [← hs] at hok hln
      rw [List.length_take] at hln
      have hrk : s.r < t.length ∧ s.k < W := by
        obtain ⟨t', _, h4, h5⟩ := hok.to
        exact ⟨by have := h4.hr; omega, h4.hk⟩
      obtain ⟨hrl, hkl⟩ := hrk
      refine ⟨_, eg_name, ?_⟩
      dsimp only [List.set]
      apply rn_seq
      refine rn_asg (ev_letter (ev_var rfl)) ?_
      dsimp only [List.set]
      have hlc := letter_cases ce
      have kl := fun Γ0 => ev_lenLD (K := K) (Γ := .as (Dt K (DT t)) :: Γ0) (el_dt (ds := t.map DI) (ev_var (i := 0) rfl))
      have kw := fun Γ0 => ev_lenLD (K := K) (Γ := .as (Dt K (DT t)) :: Γ0) (el_dt (ds := (t.getD 0 []).map PyData.int) (ev_ixLD (el_dt (ds := t.map DI) (ev_var (i := 0) rfl)) (ev_int (i := 0)) (at_row (getq [] (by omega : 0 < t.length)) rfl)))
      simp only [List.length_map, hU.rect _ (getD_mem (by omega : 0 < t.length))] at kl kw
      unfold wStep at hstep
      dsimp only at hstep
      generalize letterOf ce = le at hlc hstep ⊢
      refine rn_if (b := decide (le ∈ ("ud" : Str).cps.toList) && decide (1 < t.length)) (eb_and' (eb_test (K := K) (ev_inSg (ev_var rfl) ev_str)) (eb_test (K := K) ((ev_I0b (g := fun i j => decide (j < i)) (kl _) ev_int).is (by rw [decide_eq_decide.mpr (show (1 : Int) < (t.length : Int) ↔ 1 < t.length by omega)])))) ?_ ?_
      · intro hb
        have hb : (le = 117 ∨ le = 100) ∧ 1 < t.length := by
          rw [mud, Bool.and_eq_true, decide_eq_true_eq, decide_eq_true_eq] at hb
          exact hb
        rw [if_pos hb.1, if_pos hb.2] at hstep
        generalize hbe : bendTo s.r t.length le 100 117 = be at hstep
        apply rn_seq
        refine rn_asg (a := Dt K (.str ⟨#[be]⟩)) ((ev_ifD (eb_test (K := K) (ev_eqI (ev_var rfl) ev_int)) ev_str (ev_ifD (eb_test (K := K) (ev_eqI (ev_var rfl) (ev_I0i (kl _) ev_int))) ev_str (ev_var rfl))).is ?_) ?_
        · rw [← hbe]
          unfold bendTo
          by_cases c1 : s.r = 0
          · rw [if_pos c1, if_pos (by simp [c1])]; rfl
          · rw [if_neg c1, if_neg (by simp [c1])]
            by_cases c2 : s.r = t.length - 1
            · rw [if_pos c2, if_pos (by rw [decide_eq_true_eq]; omega)]; rfl
            · rw [if_neg c2, if_neg (by rw [decide_eq_true_eq]; omega)]
        dsimp only [List.set]
        apply rn_seq
        refine rn_asg (a := Dt K (.int (((if be = 100 then s.r + 1 else s.r - 1 : Nat)) : Int))) ((ev_ifD (eb_test (K := K) (ev_eqT (ev_var rfl) ev_str)) (ev_I0i (ev_var rfl) ev_int) (ev_I0i (ev_var rfl) ev_int)).is ?_) ?_
        · by_cases c1 : be = 100
          · subst c1; rw [if_pos (by decide), if_pos rfl]; simp
          · rw [if_neg c1, if_neg (by rw [decide_eq_true_eq]; intro h; have h := SX.S_inj (a := [be]) (b := [100]) h; simp at h; exact c1 h)]
            have hr0 : s.r ≠ 0 := fun z => c1 (by rw [← hbe]; unfold bendTo; rw [if_pos z])
            congr 1; omega
        dsimp only [List.set]
        refine rn_asg (a := Dt K (DS (s.l ++ [be]))) ((ev_addStr (x := SX.S s.l) (ev_var rfl) (ev_var rfl) (by rw [SX.S_len, sizeLine_eq]; simp [Str.length]; omega)).is ?_) ?_
        · show PyData.str (SX.S s.l ++ SX.S [be]) = _
          rw [SX.S_cat]
        · refine ⟨[.as (Dt K (DT t)), .as (Dt K (DI cs)), .as (Dt K (.int (((if be = 100 then s.r + 1 else s.r - 1 : Nat)) : Int))), .as (Dt K (.int ((s.k : Nat) : Int))), .as (Dt K (DS (s.l ++ [be]))), .un, .un], by walk_at "gle", _, hstep.symm, rfl⟩
      · intro hb
        refine rn_if (b := decide (le ∈ ("lr" : Str).cps.toList) && decide (1 < W)) (eb_and' (eb_test (K := K) (ev_inSg (ev_var rfl) ev_str)) (eb_test (K := K) ((ev_I0b (g := fun i j => decide (j < i)) (kw _) ev_int).is (by rw [decide_eq_decide.mpr (show (1 : Int) < (W : Int) ↔ 1 < W by omega)])))) ?_ ?_
        · intro hb2
          have hb : ¬ (le = 117 ∨ le = 100) ∧ 1 < W := by
            rw [mlr, Bool.and_eq_true, decide_eq_true_eq, decide_eq_true_eq] at hb2
            exact ⟨by omega, hb2.2⟩
          rw [if_neg hb.1, if_pos hb.2] at hstep
          generalize hbe : bendTo s.k W le 114 108 = be at hstep
          apply rn_seq
          refine rn_asg (a := Dt K (.str ⟨#[be]⟩)) ((ev_ifD (eb_test (K := K) (ev_eqI (ev_var rfl) ev_int)) ev_str (ev_ifD (eb_test (K := K) (ev_eqI (ev_var rfl) (ev_I0i (kw _) ev_int))) ev_str (ev_var rfl))).is ?_) ?_
          · rw [← hbe]
            unfold bendTo
            by_cases c1 : s.k = 0
            · rw [if_pos c1, if_pos (by simp [c1])]; rfl
            · rw [if_neg c1, if_neg (by simp [c1])]
              by_cases c2 : s.k = W - 1
              · rw [if_pos c2, if_pos (by rw [decide_eq_true_eq]; omega)]; rfl
              · rw [if_neg c2, if_neg (by rw [decide_eq_true_eq]; omega)]
          dsimp only [List.set]
          apply rn_seq
          refine rn_asg (a := Dt K (.int (((if be = 114 then s.k + 1 else s.k - 1 : Nat)) : Int))) ((ev_ifD (eb_test (K := K) (ev_eqT (ev_var rfl) ev_str)) (ev_I0i (ev_var rfl) ev_int) (ev_I0i (ev_var rfl) ev_int)).is ?_) ?_
          · by_cases c1 : be = 114
            · subst c1; rw [if_pos (by decide), if_pos rfl]; simp
            · rw [if_neg c1, if_neg (by rw [decide_eq_true_eq]; intro h; have h := SX.S_inj (a := [be]) (b := [114]) h; simp at h; exact c1 h)]
              have hr0 : s.k ≠ 0 := fun z => c1 (by rw [← hbe]; unfold bendTo; rw [if_pos z])
              congr 1; omega
          dsimp only [List.set]
          refine rn_asg (a := Dt K (DS (s.l ++ [be]))) ((ev_addStr (x := SX.S s.l) (ev_var rfl) (ev_var rfl) (by rw [SX.S_len, sizeLine_eq]; simp [Str.length]; omega)).is ?_) ?_
          · show PyData.str (SX.S s.l ++ SX.S [be]) = _
            rw [SX.S_cat]
          · refine ⟨[.as (Dt K (DT t)), .as (Dt K (DI cs)), .as (Dt K (.int ((s.r : Nat) : Int))), .as (Dt K (.int (((if be = 114 then s.k + 1 else s.k - 1 : Nat)) : Int))), .as (Dt K (DS (s.l ++ [be]))), .un, .un], by walk_at "gle", _, hstep.symm, rfl⟩
        · intro hb2
          have hsame : walkS t.length W r k (cs.take (i + 1)) = s := by
            rw [hstep]
            rw [mud, Bool.and_eq_false_iff, decide_eq_false_iff_not, decide_eq_false_iff_not] at hb
            rw [mlr, Bool.and_eq_false_iff, decide_eq_false_iff_not, decide_eq_false_iff_not] at hb2
            by_cases c1 : le = 117 ∨ le = 100
            · rw [if_pos c1, if_neg (by omega)]
            · rw [if_neg c1, if_neg (by omega)]
          apply rn_next
          refine ⟨[.as (Dt K (DT t)), .as (Dt K (DI cs)), .as (Dt K (.int ((s.r : Nat) : Int))), .as (Dt K (.int ((s.k : Nat) : Int))), .as (Dt K (DS s.l)), .un, .un], by walk_at "gle", s, hsame.symm, rfl⟩
  · rintro Γ1 ⟨s, hs, rfl⟩
    dsimp only
    have hl2 : cs.take ((cs.map PyData.int).map (Dt K)).length = cs := List.take_of_length_le (by simp)
    rw [hl2] at hs
    refine rn_ret (a := Dt K (DS s.l)) (ev_var rfl) ?_
    rw [hs]
    exact As.le_refl _
end
/-! slides and their way back -/
theorem flat_put {W : Nat} {z : Int} : ∀ {t : List (List Int)} {r k : Nat}, Rect t W → r < t.length → k < W → (putAt t r k z).flatten = t.flatten.set (r * W + k) z
  | [], r, k, _, h, _ => by simp at h
  | x :: t, 0, k, hR, _, hk => by
    have hl := hR x (by simp)
    show ((x.set k z) :: t).flatten = _
    rw [List.flatten_cons, List.flatten_cons, Nat.zero_mul, Nat.zero_add, List.set_append_left _ _ (by omega)]
  | x :: t, r + 1, k, hR, hr, hk => by
    have hl := hR x (by simp)
    have ih := flat_put (z := z) (t := t) (r := r) (k := k) (fun y hy => hR y (by simp [hy])) (by simpa using hr) hk
    show (x :: putAt t r k z).flatten = _
    rw [List.flatten_cons, List.flatten_cons, ih, List.set_append_right _ _ (by rw [Nat.succ_mul]; omega)]
    congr 2
    rw [Nat.succ_mul]; omega
theorem flat_idx {t : List (List Int)} {W i j : Nat} (hR : Rect t W) (hi : i < t.length) (hj : j < W) : i * W + j < t.flatten.length := by
  rw [flatten_len hR]
  have : (i + 1) * W ≤ t.length * W := Nat.mul_le_mul_right _ hi
  rw [Nat.succ_mul] at this
  omega
theorem flat_elem {t : List (List Int)} {W i j : Nat} (hR : Rect t W) (hi : i < t.length) (hj : j < W) : t.flatten[i * W + j]'(flat_idx hR hi hj) = cellAt t i j := by
  have := flat_get hR hi hj
  rw [List.getElem?_eq_getElem (flat_idx hR hi hj)] at this
  exact Option.some.inj this
theorem swap_perm {t : List (List Int)} {W r k hi wi : Nat} (hR : Rect t W) (hr : r < t.length) (hk : k < W) (h1 : hi < t.length) (h2 : wi < W) : (putAt (putAt t r k (cellAt t hi wi)) hi wi (cellAt t r k)).flatten.Perm t.flatten := by
  rw [flat_put (putAt_rect hR hr) (by rw [put_len]; exact h1) h2, flat_put hR hr hk, ← flat_elem hR h1 h2, ← flat_elem hR hr hk]
  exact List.set_set_perm _ _
theorem slid_tray {t t' : List (List Int)} {W c : Nat} (h : TrayOk t W) (hs : slidM t c = some t') : TrayOk t' W := by
  obtain ⟨dr, dc, hi, wi, _, _, _, h1, h2, h6, hU⟩ := slid_uni h.uni hs
  have hz : cellAt t (rowOf t 0) (colOf t 0) = 0 := cell_place h.has0
  have hp := swap_perm h.rect h.uni.hr h.uni.hk h1 h2
  rw [hz, ← h6] at hp
  have hl : t'.length = t.length := slid_len hs
  exact ⟨by rw [hl]; exact h.len, h.wid, hU.rect, by rw [hl]; exact hp.trans h.perm⟩
theorem slidAll_tray {W : Nat} : ∀ {l : List Nat} {t t' : List (List Int)}, TrayOk t W → slidAllM t l = some t' → TrayOk t' W
  | [], t, t', h, hs => by obtain rfl := Option.some.inj hs; exact h
  | c :: l, t, t', h, hs => by
    unfold slidAllM at hs
    rw [List.foldlM_cons] at hs
    cases hc : slidM t c with
    | none => rw [hc] at hs; cases hs
    | some u => rw [hc] at hs; exact slidAll_tray (l := l) (slid_tray h hc) hs
abbrev s_laid : Stmt := topS 7
theorem sc_laid : FnScope ["tray", "found", "row"] ["tray"] (defScope s_laid) :=
  ⟨rfl, rfl, rfl, by decide +kernel, rfl, by decide +kernel, by decide +kernel⟩
abbrev s_crossings : Stmt := topS 8
theorem sc_crossings : FnScope ["one", "other", "there", "order", "number", "at", "second", "first"] ["one", "other"] (defScope s_crossings) :=
  ⟨rfl, rfl, rfl, by decide +kernel, rfl, by decide +kernel, by decide +kernel⟩
abbrev s_way_between : Stmt := topS 9
theorem sc_way_between : FnScope ["one", "other", "mine", "theirs"] ["one", "other"] (defScope s_way_between) :=
  ⟨rfl, rfl, rfl, by decide +kernel, rfl, by decide +kernel, by decide +kernel⟩
/-! pairs that stand the other way about -/
def ordM (a b : List Int) : List Int := a.map fun x => ((b.idxOf x : Nat) : Int)
def invAt (os : List Int) (i : Nat) : Nat := ((os.take i).filter fun f => decide (os.getD i 0 < f)).length
def invsM (os : List Int) : Nat := ((List.range os.length).map (invAt os)).sum
def crossM (a b : List (List Int)) : Nat := invsM (ordM a.flatten b.flatten)
def dist (i j : Nat) : Nat := (i - j) + (j - i)
def stepsM (a b : List (List Int)) : Nat := dist (rowOf a 0) (rowOf b 0) + dist (colOf a 0) (colOf b 0)
theorem dist_abs (i j : Nat) : (if ((i : Nat) : Int) - (j : Nat) < 0 then -(((i : Nat) : Int) - (j : Nat)) else ((i : Nat) : Int) - (j : Nat)) = ((dist i j : Nat) : Int) := by
  unfold dist
  split <;> omega
theorem sum_cast (l : List Nat) : (l.map fun n => ((n : Nat) : Int)).sum = ((l.sum : Nat) : Int) := by
  induction l with
  | nil => rfl
  | cons a l ih => rw [List.map_cons, List.sum_cons, ih, List.sum_cons]; omega
section
variable {P : Program} {w : World} {K : PySem.W.Frag} {mg : Str → Option Value} {base : Heap} {Γ : List Sl} {c : Cb} {k : Kt}
theorem flat_small {t : List (List Int)} {W : Nat} (h : Rect t W) (h1 : t.length ≤ 6) (h2 : W ≤ 6) : t.flatten.length ≤ 36 := by
  rw [flatten_len h]
  exact Nat.mul_le_mul h1 h2
def R_laid (K : PySem.W.Frag) (as : List As) (o : Outc) : Prop := ∃ (t : List (List Int)), as = [Dt K (DT t)] ∧ t.flatten.length ≤ 1000 ∧ o = .own (OL ((t.flatten.map PyData.int).map (Dt K)))
theorem ok_laid {f : Addr} {fd : FuncData} (F : L2.Fun K "laid" "laid" s_laid f fd) : FnOk P w K mg base L2.CX0 1 f fd ["tray"] (SpD 1 (R_laid K)) := by
  refine def_ok F sc_laid rfl fun cdv A outer s Hf H as o E hr hR => ?_
  obtain ⟨t, rfl, hl, rfl⟩ := hR
  refine ⟨_, (pss_cons (ps_set (i := 1) sc_laid.nd rfl (by first | exact Or.inl rfl | exact Or.inr rfl) (pe_lst pa_nil))
      (pss_cons (ps_for PassesOwn.never rfl (pi_listK K (pv 0)) (pg_name (i := 2) sc_laid.nd rfl (by first | exact Or.inl rfl | exact Or.inr rfl)) (pss_one (ps_expr (by exact (pe_bmK K PySem.F.plainAttrs_list PySem.F.slot_list_extend PySem.F.type_list_extend mt_extend (pv 1) (pa_cons (pv 2) pa_nil))))))
      (pss_one (ps_ret (pv 1))))), ?_⟩
  change Rn _ _ [.as (Dt K (DT t)), .un, .un] _
  apply rn_seq
  refine rn_asgW (w := OL (([] : List PyData).map (Dt K))) (by walk_at "ev"; simp) ?_
  dsimp only [List.set]
  apply rn_seq
  refine rn_for (fun i Γ => Γ = [.as (Dt K (DT t)), .ow (OL (((t.take i).flatten.map PyData.int).map (Dt K))), .un]) (ei_listD (ds := t.map DI) (ev_var rfl)) rfl ?_ ?_
  · rintro c' sb i a Γ1 rfl ha
    rw [List.getElem?_map, List.getElem?_map] at ha
    cases hc : t[i]? with
    | none => rw [hc] at ha; cases ha
    | some r =>
      rw [hc] at ha
      obtain rfl := Option.some.inj ha
      refine ⟨_, eg_name, ?_⟩
      dsimp only [List.set]
      have e : (t.take (i + 1)).flatten = (t.take i).flatten ++ r := by rw [List.take_add_one, hc, List.flatten_append]; simp
      have hle : (t.take (i + 1)).flatten.length ≤ t.flatten.length := by
        conv => rhs; rw [← List.take_append_drop (i + 1) t, List.flatten_append, List.length_append]
        omega
      rw [e, List.length_append] at hle
      refine rn_extend rfl (el_dt (ds := r.map PyData.int) (ev_var rfl)) (by simp only [List.length_map, sizeLine_eq]; omega) ?_
      refine ⟨[.as (Dt K (DT t)), .ow (OL (((t.take (i + 1)).flatten.map PyData.int).map (Dt K))), .un], ?_, rfl⟩
      rw [e, List.map_append, List.map_append]
      walk_at "gle"
  · rintro Γ1 rfl
    dsimp only
    have hl2 : t.take ((t.map DI).map (Dt K)).length = t := List.take_of_length_le (by simp)
    rw [hl2]
    exact rn_retO rfl fun _ _ _ _ h => h
def R_crossings (K : PySem.W.Frag) (as : List As) (o : Outc) : Prop := ∃ (a b : List (List Int)), as = [Dt K (DT a), Dt K (DT b)] ∧ a.flatten.length ≤ 1000 ∧ b.flatten.length ≤ 1000 ∧ (∀ x ∈ a.flatten, x ∈ b.flatten) ∧ o = .ret (Dt K (.int ((crossM a b : Nat) : Int)))
theorem ok_crossings {f : Addr} {fd : FuncData} (F : L2.Fun K "crossings" "crossings" s_crossings f fd) (c_laid : Cl P w K mg base L2.CX0 1 "laid" (SpD 1 (R_laid K))) (n_sum : mg "sum" = none) (n_len : mg "len" = none) (n_enumerate : mg "enumerate" = none) : FnOk P w K mg base L2.CX0 2 f fd ["one", "other"] (SpD 2 (R_crossings K)) := by
  refine def_ok F sc_crossings rfl fun cdv A outer s Hf H as o E hr hR => ?_
  obtain ⟨a, b, rfl, ha1, hb1, hab, rfl⟩ := hR
  refine ⟨_, (pss_cons (ps_set (i := 2) sc_crossings.nd rfl (by first | exact Or.inl rfl | exact Or.inr rfl) (by exact (pe_cl c_laid hr (by decide) (by rfl) (pa_cons (pv 1) pa_nil))))
      (pss_cons (ps_set (i := 3) sc_crossings.nd rfl (by first | exact Or.inl rfl | exact Or.inr rfl) (pe_lc (own := [("number", 4)]) (g := (gName 4)) (by rfl) sc_crossings.nd (pi_listK K (by exact (pe_cl c_laid hr (by decide) (by rfl) (pa_cons (pv 0) pa_nil)))) (blkOk_by (N := ["one", "other", "there", "order", "number", "at", "second", "first"]) (sc := defScope s_crossings) (own := [("number", 4)]) (by decide +kernel)) (fun _ _ _ _ _ => (pg_name (i := 4) sc_crossings.nd rfl (by first | exact Or.inl rfl | exact Or.inr rfl))) (fun _ _ _ _ _ => pts_nil) (fun _ _ _ _ _ => (by exact (pe_bmK K PySem.F.plainAttrs_list PySem.F.slot_list_index PySem.F.type_list_index (mt_indexDK K hr) (pv 2) (pa_cons (pv 4) pa_nil))))))
      (pss_one (ps_ret (by exact (pe_callB (cr_sumK K) (by rfl) n_sum (by decide +kernel) (pa_cons (pe_lc (own := [("at", 5), ("second", 6)]) (g := (gTup K 2 (gCons (gName 5) (gCons (gName 6) gNil)))) (by rfl) sc_crossings.nd (pi_enumK K (by rfl) n_enumerate (pa_cons (pv 3) pa_nil)) (blkOk_by (N := ["one", "other", "there", "order", "number", "at", "second", "first"]) (sc := defScope s_crossings) (own := [("at", 5), ("second", 6)]) (by decide +kernel)) (fun _ _ _ _ _ => (pg_tupK K (n := 2) (pgs_cons (pg_name (i := 5) sc_crossings.nd rfl (by first | exact Or.inl rfl | exact Or.inr rfl)) (pgs_cons (pg_name (i := 6) sc_crossings.nd rfl (by first | exact Or.inl rfl | exact Or.inr rfl)) pgs_nil)))) (fun _ _ _ _ _ => pts_nil) (fun _ _ _ _ _ => (by exact (pe_callB (call_lenK K) (by rfl) n_len (by decide +kernel) (pa_cons (pe_lc (own := [("first", 7)]) (g := (gName 7)) (by rfl) sc_crossings.nd (pi_listK K (pe_slice (sl_listK K) (pv 3) po_none (po_some (pv 5)))) (blkOk_by (N := ["one", "other", "there", "order", "number", "at", "second", "first"]) (sc := ⟨.function, [(".0", .local), ("at", .local), ("second", .cell), ("len", .globalImplicit), ("order", .cell)], false, false, []⟩) (own := [("first", 7)]) (by decide +kernel)) (fun _ _ _ _ _ => (pg_name (i := 7) sc_crossings.nd rfl (by first | exact Or.inl rfl | exact Or.inr rfl))) (fun _ _ _ _ _ => (pts_one (pt_cmpR op_gt (pv 7) (pv 6) (nomark _)))) (fun _ _ _ _ _ => (pv 7))) pa_nil))))) pa_nil))))))), ?_⟩
  change Rn _ _ [.as (Dt K (DT a)), .as (Dt K (DT b)), .un, .un, .un, .un, .un, .un] _
  apply rn_seq
  refine rn_asgW (w := OL ((b.flatten.map PyData.int).map (Dt K))) (ew_call (as := [Dt K (DT b)]) (es_cons (ev_var rfl) es_nil) ⟨b, rfl, hb1, rfl⟩ rfl) ?_
  refine rn_fixD (i := 2) (ds := b.flatten.map PyData.int) rfl ?_
  dsimp only [List.set]
  obtain ⟨os, hos⟩ : ∃ os, os = ordM a.flatten b.flatten := ⟨_, rfl⟩
  have hol : os.length = a.flatten.length := by rw [hos]; exact List.length_map ..
  apply rn_seq
  refine rn_asgW (w := OL ((os.map PyData.int).map (Dt K))) ?_ ?_
  · have k := ew_lcM (K := K) (Γ := [.as (Dt K (DT a)), .as (Dt K (DT b)), .as (Dt K (.list (b.flatten.map PyData.int))), .un, .un, .un, .un, .un]) (wi := iList K (tCall (SpD 1 (R_laid K)) [] L2.E0 (tCons (tVar 0) tNil))) (g := gName 4) (vs := [4]) (te := tBM K "list" (rIndexD K) (tVar 2) (tCons (tVar 4) tNil)) a.flatten (fun x => Dt K (.int x)) (fun x => .int ((b.flatten.idxOf x : Nat) : Int)) ?_ (gw_name (by decide)) (by omega) fun x hx => ⟨_, eg_name, ?_⟩
    · have e : (a.flatten.map fun x => PyData.int ((b.flatten.idxOf x : Nat) : Int)) = os.map PyData.int := by rw [hos]; unfold ordM; rw [List.map_map]; rfl
      rw [e] at k
      exact k
    · have j := ei_listD (K := K) (ds := a.flatten.map PyData.int) (ev_fixD (ew_call (as := [Dt K (DT a)]) (E := L2.E0) (R := R_laid K) (n := 1) (Γ := [.as (Dt K (DT a)), .as (Dt K (DT b)), .as (Dt K (.list (b.flatten.map PyData.int))), .un, .un, .un, .un, .un]) (es_cons (ev_var (i := 0) rfl) es_nil) ⟨a, rfl, ha1, rfl⟩ rfl))
      rw [List.map_map] at j
      exact j
    · exact ev_index eq_int' sh_int (xs := b.flatten) (ev_var (a := Dt K (.list (b.flatten.map PyData.int))) rfl) (ev_var (a := Dt K (.int x)) rfl) (hab x hx)
  refine rn_fixD (i := 3) (ds := os.map PyData.int) rfl ?_
  dsimp only [List.set]
  have hcr : crossM a b = invsM os := by rw [hos]; rfl
  rw [hcr]
  refine rn_ret (a := Dt K (.int ((invsM os : Nat) : Int))) ?_ (As.le_refl _)
  have k := ew_lcM (K := K) (Γ := [.as (Dt K (DT a)), .as (Dt K (DT b)), .as (Dt K (.list (b.flatten.map PyData.int))), .as (Dt K (.list (os.map PyData.int))), .un, .un, .un, .un]) (wi := iEnum K (tCons (tVar 3) tNil)) (g := gTup K 2 (gCons (gName 5) (gCons (gName 6) gNil))) (vs := [5, 6])
    (te := tCB (rLenSq K) (tCons (tLc (iList K (tSl (rSlL K) (tVar 3) tNoPart (tPart (tVar 5)))) (gName 7) (tTest (tOp (rI0 fun i j => V.bl (decide (j < i))) (tVar 7) (tVar 6))) (tVar 7) [7]) tNil)) (List.range os.length) (fun i => Dt K (.tuple [.int ((i : Nat) : Int), (os.map PyData.int).getD i .none])) (fun i => .int ((invAt os i : Nat) : Int)) ?_ (by walk_at "gw") (by simp; omega) fun i hi => ?_
  · have e : ((List.range os.length).map fun i => PyData.int ((invAt os i : Nat) : Int)) = (((List.range os.length).map (invAt os)).map fun n => ((n : Nat) : Int)).map PyData.int := by rw [List.map_map, List.map_map]; rfl
    rw [e] at k
    have j := ev_sum (K := K) (ns := ((List.range os.length).map (invAt os)).map fun n => ((n : Nat) : Int)) (by
      have k2 := el_w k
      rw [List.map_map] at k2
      exact k2)
    rw [sum_cast] at j
    exact j
  · have j := ei_enumD (K := K) (Γ := [.as (Dt K (DT a)), .as (Dt K (DT b)), .as (Dt K (.list (b.flatten.map PyData.int))), .as (Dt K (.list (os.map PyData.int))), .un, .un, .un, .un]) (te := tVar 3) (ds := os.map PyData.int) (ev_var rfl)
    rw [List.length_map] at j
    exact j
  · have hi := List.mem_range.mp hi
    have e : (os.map PyData.int).getD i .none = .int (os.getD i 0) := by rw [List.getD_eq_getElem?_getD, List.getElem?_map, getq 0 hi]; rfl
    rw [e]
    refine ⟨_, eg_tup (ds := [_, _]) (eg_cons eg_name (eg_cons eg_name eg_nil)) rfl, ?_⟩
    dsimp only [List.set, wipeG]
    have k2 := ew_lcP (K := K) (Γ := [.as (Dt K (DT a)), .as (Dt K (DT b)), .as (Dt K (.list (b.flatten.map PyData.int))), .as (Dt K (.list (os.map PyData.int))), .un, .as (Dt K (.int ((i : Nat) : Int))), .as (Dt K (.int (os.getD i 0))), .un]) (wi := iList K (tSl (rSlL K) (tVar 3) tNoPart (tPart (tVar 5)))) (g := gName 7) (vs := [7]) (tt := tTest (tOp (rI0 fun i j => V.bl (decide (j < i))) (tVar 7) (tVar 6))) (te := tVar 7) (os.take i) (fun x => Dt K (.int x)) (fun x => decide (os.getD i 0 < x)) (fun x => .int x) ?_ (gw_name (by decide)) (by rw [List.length_take]; omega) fun x hx => ⟨_, eg_name, ?_, fun _ => ev_var rfl⟩
    · have j := ev_lenLD (K := K) (el_w k2)
      have e2 : (((os.take i).filter fun x => decide (os.getD i 0 < x)).map fun x => Dt K (.int x)).length = invAt os i := by rw [List.length_map]; rfl
      exact j.is (by rw [List.length_map, List.length_map]; rfl)
    · have j := ew_sl (K := K) (Γ := [.as (Dt K (DT a)), .as (Dt K (DT b)), .as (Dt K (.list (b.flatten.map PyData.int))), .as (Dt K (.list (os.map PyData.int))), .un, .as (Dt K (.int ((i : Nat) : Int))), .as (Dt K (.int (os.getD i 0))), .un]) (te := tVar 3) (as := (os.map PyData.int).map (Dt K)) (el_dt (ev_var rfl)) eo_none (eo_some (K := K) (i := ((i : Nat) : Int)) (te := tVar 5) (ev_var rfl))
      rw [cut_to (b := i) rfl, ← List.map_take, ← List.map_take] at j
      have j2 := ei_listD (K := K) (ds := (os.take i).map PyData.int) (ev_fixD j)
      rw [List.map_map] at j2
      exact j2
    · exact eb_test (K := K) (ev_I0b (g := fun i j => decide (j < i)) (ev_var (a := Dt K (.int x)) rfl) (ev_var (a := Dt K (.int (os.getD i 0))) rfl))
def R_way_between (K : PySem.W.Frag) (as : List As) (o : Outc) : Prop := ∃ (a b : List (List Int)), as = [Dt K (DT a), Dt K (DT b)] ∧ Has a 0 ∧ Has b 0 ∧ a.length ≤ 1000 ∧ b.length ≤ 1000 ∧ o = .ret (Dt K (.int ((stepsM a b : Nat) : Int)))
theorem ok_way_between {f : Addr} {fd : FuncData} (F : L2.Fun K "way_between" "way_between" s_way_between f fd) (c_place_of : Cl P w K mg base L2.CX0 1 "place_of" (SpD 2 (R_place_of K))) (n_abs : mg "abs" = none) : FnOk P w K mg base L2.CX0 2 f fd ["one", "other"] (SpD 2 (R_way_between K)) := by
  refine def_ok F sc_way_between rfl fun cdv A outer s Hf H as o E hr hR => ?_
  obtain ⟨a, b, rfl, ha, hb, hla, hlb, rfl⟩ := hR
  refine ⟨_, (pss_cons (ps_par (i := 2) (j := 3) (by rfl) sc_way_between.nd rfl rfl (by decide) rfl rfl (pa_cons (by exact (pe_cl c_place_of hr (by decide) (by rfl) (pa_cons (pv 0) (pa_cons pe_int pa_nil)))) (pa_cons (by exact (pe_cl c_place_of hr (by decide) (by rfl) (pa_cons (pv 1) (pa_cons pe_int pa_nil)))) pa_nil)) (by rfl))
      (pss_one (ps_ret (pe_op op_add (by exact (pe_callB call_abs (by rfl) n_abs (by decide +kernel) (pa_cons (pe_op op_sub (pe_ix (ix_tupK K) (pv 2) pe_int (fun _ _ => rfl)) (pe_ix (ix_tupK K) (pv 3) pe_int (fun _ _ => rfl))) pa_nil))) (by exact (pe_callB call_abs (by rfl) n_abs (by decide +kernel) (pa_cons (pe_op op_sub (pe_ix (ix_tupK K) (pv 2) pe_int (fun _ _ => rfl)) (pe_ix (ix_tupK K) (pv 3) pe_int (fun _ _ => rfl))) pa_nil))))))), ?_⟩
  change Rn _ _ [.as (Dt K (DT a)), .as (Dt K (DT b)), .un, .un] _
  apply rn_seq
  refine rn_par (es_cons (ev_call (as := [Dt K (DT a), Dt K (.int 0)]) (a := Dt K (DP ((rowOf a 0 : Nat), (colOf a 0 : Nat)))) (es_cons (ev_var rfl) (es_cons ev_int es_nil)) ⟨a, 0, rfl, ha, hla, rfl⟩ rfl) (es_cons (ev_call (as := [Dt K (DT b), Dt K (.int 0)]) (a := Dt K (DP ((rowOf b 0 : Nat), (colOf b 0 : Nat)))) (es_cons (ev_var rfl) (es_cons ev_int es_nil)) ⟨b, 0, rfl, hb, hlb, rfl⟩ rfl) es_nil)) ?_
  dsimp only [List.set]
  refine rn_ret (a := Dt K (.int ((stepsM a b : Nat) : Int))) ?_ (As.le_refl _)
  have g0 : ∀ {Γ : List Sl} {i : Nat} {x y : Int}, Γ[i]? = some (.as (Dt K (DP (x, y)))) → EvA (tOp (rIxT K) (tVar i) (tC (V.int 0))) Γ (Dt K (.int x)) := fun h => ev_ixT (ds := [.int _, .int _]) (ev_var h) (ev_int (i := 0)) rfl
  have g1 : ∀ {Γ : List Sl} {i : Nat} {x y : Int}, Γ[i]? = some (.as (Dt K (DP (x, y)))) → EvA (tOp (rIxT K) (tVar i) (tC (V.int 1))) Γ (Dt K (.int y)) := fun h => ev_ixT (ds := [.int _, .int _]) (ev_var h) (ev_int (i := 1)) rfl
  exact (ev_I0i (g := fun i j => i + j) ((ev_abs (ev_I0i (g := fun i j => i - j) (g0 rfl) (g0 rfl)) rfl).is (by rw [dist_abs])) ((ev_abs (ev_I0i (g := fun i j => i - j) (g1 rfl) (g1 rfl)) rfl).is (by rw [dist_abs]))).is (by unfold stepsM; simp)
end
abbrev s_Led_init : Stmt := inClass (topS 10) 0
theorem sc_Led_init : FnScope ["self", "slides"] ["self", "slides"] (defScope s_Led_init) :=
  ⟨rfl, rfl, rfl, by decide +kernel, rfl, by decide +kernel, by decide +kernel⟩
abbrev s_Odd_init : Stmt := inClass (topS 11) 0
theorem sc_Odd_init : FnScope ["self", "crossed", "steps"] ["self", "crossed", "steps"] (defScope s_Odd_init) :=
  ⟨rfl, rfl, rfl, by decide +kernel, rfl, by decide +kernel, by decide +kernel⟩
abbrev s_Passed_init : Stmt := inClass (topS 12) 0
theorem sc_Passed_init : FnScope ["self", "one", "other"] ["self", "one", "other"] (defScope s_Passed_init) :=
  ⟨rfl, rfl, rfl, by decide +kernel, rfl, by decide +kernel, by decide +kernel⟩
abbrev s_Led_shows : Stmt := inClass (topS 10) 1
theorem sc_Led_shows : FnScope ["self", "one", "other"] ["self", "one", "other"] (defScope s_Led_shows) :=
  ⟨rfl, rfl, rfl, by decide +kernel, rfl, by decide +kernel, by decide +kernel⟩
abbrev s_Odd_shows : Stmt := inClass (topS 11) 1
theorem sc_Odd_shows : FnScope ["self", "one", "other"] ["self", "one", "other"] (defScope s_Odd_shows) :=
  ⟨rfl, rfl, rfl, by decide +kernel, rfl, by decide +kernel, by decide +kernel⟩
abbrev s_Passed_shows : Stmt := inClass (topS 12) 1
theorem sc_Passed_shows : FnScope ["self", "one", "other", "mine", "theirs", "ahead"] ["self", "one", "other"] (defScope s_Passed_shows) :=
  ⟨rfl, rfl, rfl, by decide +kernel, rfl, by decide +kernel, by decide +kernel⟩
section
variable {P : Program} {w : World} {K : PySem.W.Frag} {mg : Str → Option Value} {base : Heap} {Γ : List Sl} {c : Cb} {k : Kt}
theorem ok_Led_init {f : Addr} {fd : FuncData} {C : Addr} (F : L2.Fun K "__init__" "Led.__init__" s_Led_init f fd) (C_Led : Cls K C) (n_Led_slides : NoAttr K C "slides") : FnOk P w K mg base L2.CX0 1 f fd ["self", "slides"] (SpI C ["slides"]) := by
  refine F.ok sc_Led_init (fun vs H Q E ⟨x, dx, args, e, hl, _⟩ => by rw [e, List.length_cons, hl]; rfl) fun cdv A outer s H vs Q E hr ⟨x, dx, args, e, hl, hx, q⟩ => ⟨_, pss_one (ps_fld (pv 0) (pv 1) rfl), ?_⟩
  subst e
  match args, hl with
  | [a], _ => exact ⟨a, rfl, .ref x, rfl, x, C, dx, [], rfl, hx, C_Led, n_Led_slides, by decide, q _ upd_same fun b hb => upd_ne hb⟩
theorem two_init {K : PySem.W.Frag} {C : Addr} {f1 f2 : Str} {x dx : Addr} {a b : V} {H : Hp} {Q : VK} (hC : Cls K C) (n1 : NoAttr K C f1) (n2 : NoAttr K C f2) (hne : (f2 == f1) = false) (hx : H x = some (.ins C dx [])) (q : ∀ H', H' x = some (.ins C dx [(f1, a), (f2, b)]) → (∀ a, a ≠ x → H' a = H a) → Q .non H') :
    tSeq (sFld K (tVar 0) (tVar 1) f1) (sFld K (tVar 0) (tVar 2) f2) { nx := fun _ H' => Q .non H', rt := Q } [some (.ref x), some a, some b] H := by
  refine ⟨a, rfl, .ref x, rfl, x, C, dx, [], rfl, hx, hC, n1, by decide, b, rfl, .ref x, rfl, x, C, dx, putF f1 a [], rfl, upd_same, hC, n2, ?_, ?_⟩
  · show (putF f1 a []).length < 1000
    exact (by decide : 1 < 1000)
  · rw [upd_upd]
    refine q _ ?_ fun b hb => upd_ne hb
    rw [upd_same]
    have : putF f2 b (putF f1 a []) = [(f1, a), (f2, b)] := by
      show (if f1 = f2 then (f1, b) :: [] else (f1, a) :: putF f2 b []) = _
      rw [if_neg (fun e => by rw [e, beq_self_eq_true] at hne; cases hne)]
      rfl
    rw [this]
theorem ok_Odd_init {f : Addr} {fd : FuncData} {C : Addr} (F : L2.Fun K "__init__" "Odd.__init__" s_Odd_init f fd) (C_Odd : Cls K C) (n_Odd_crossed : NoAttr K C "crossed") (n_Odd_steps : NoAttr K C "steps") : FnOk P w K mg base L2.CX0 1 f fd ["self", "crossed", "steps"] (SpI C ["crossed", "steps"]) := by
  refine F.ok sc_Odd_init (fun vs H Q E ⟨x, dx, args, e, hl, _⟩ => by rw [e, List.length_cons, hl]; rfl) fun cdv A outer s H vs Q E hr ⟨x, dx, args, e, hl, hx, q⟩ => ⟨_, pss_cons (ps_fld (pv 0) (pv 1) rfl) (pss_one (ps_fld (pv 0) (pv 2) rfl)), ?_⟩
  subst e
  match args, hl with
  | [a, b], _ => exact two_init C_Odd n_Odd_crossed n_Odd_steps (by decide) hx q
theorem ok_Passed_init {f : Addr} {fd : FuncData} {C : Addr} (F : L2.Fun K "__init__" "Passed.__init__" s_Passed_init f fd) (C_Passed : Cls K C) (n_Passed_one : NoAttr K C "one") (n_Passed_other : NoAttr K C "other") : FnOk P w K mg base L2.CX0 1 f fd ["self", "one", "other"] (SpI C ["one", "other"]) := by
  refine F.ok sc_Passed_init (fun vs H Q E ⟨x, dx, args, e, hl, _⟩ => by rw [e, List.length_cons, hl]; rfl) fun cdv A outer s H vs Q E hr ⟨x, dx, args, e, hl, hx, q⟩ => ⟨_, pss_cons (ps_fld (pv 0) (pv 1) rfl) (pss_one (ps_fld (pv 0) (pv 2) rfl)), ?_⟩
  subst e
  match args, hl with
  | [a, b], _ => exact two_init C_Passed n_Passed_one n_Passed_other (by decide) hx q
/-! what the answers say -/
def LedA (K : PySem.W.Frag) (C : Addr) (l : List Nat) : As := ObA C [("slides", Dt K (DS l))]
def OddA (K : PySem.W.Frag) (C : Addr) (x y : Int) : As := ObA C [("crossed", Dt K (.int x)), ("steps", Dt K (.int y))]
def PassA (K : PySem.W.Frag) (C : Addr) (x y : Int) : As := ObA C [("one", Dt K (.int x)), ("other", Dt K (.int y))]
theorem shaped_opt (o : Option (List (List Int))) : SeqAt.shaped (optD o) = true := by
  cases o with
  | none => rfl
  | some t => exact sh_DT.shaped t
theorem eqv_opt (o : Option (List (List Int))) (u : List (List Int)) : PyData.eqv (optD o) (DT u) = decide (o = some u) := by
  cases o with
  | none =>
    show PyData.eqv .none (.list (u.map DI)) = _
    rw [PyData.eqv]
    simp
  | some t => rw [show optD (some t) = DT t from rfl, eq_DT]; simp
theorem ev_slid_all {t : List (List Int)} {l : List Nat} {W : Nat} {ta tb : TE} (ha : EvA ta Γ (Dt K (DT t))) (hb : EvA tb Γ (Dt K (DS l))) (h0 : Has t 0) (hR : Rect t W) (h1 : t.length ≤ 6) (h2 : W ≤ 6) (hl : ∀ c ∈ l, Lett c) (hll : l.length ≤ 1000000) :
    EvA (tCall (SpD 2 (R_slid_all K)) [] L2.E0 (tCons ta (tCons tb tNil))) Γ (Dt K (optD (slidAllM t l))) := by
  have hR : ∀ o, o = optT K (slidAllM t l) → R_slid_all K [Dt K (DT t), Dt K (DS l)] o := fun o e => ⟨t, l, W, rfl, h0, hR, by omega, by omega, hll, hl, e⟩
  cases hs : slidAllM t l with
  | none => exact ev_call (as := [_, _]) (es_cons ha (es_cons hb es_nil)) (hR _ (by rw [hs]; rfl)) rfl
  | some u => exact ev_fixOT (ew_call (as := [_, _]) (es_cons ha (es_cons hb es_nil)) (hR _ (by rw [hs]; rfl)) rfl)
def R_Led_shows (K : PySem.W.Frag) (C : Addr) (as : List As) (o : Outc) : Prop := ∃ (l : List Nat) (a b : List (List Int)) (W : Nat), as = [LedA K C l, Dt K (DT a), Dt K (DT b)] ∧ TrayOk a W ∧ (∀ c ∈ l, Lett c) ∧ l.length ≤ 1000000 ∧ o = .ret (Dt K (.bool (decide (slidAllM a l = some b))))
theorem ok_Led_shows {f : Addr} {fd : FuncData} {C : Addr} (F : L2.Fun K "shows" "Led.shows" s_Led_shows f fd) (c_slid_all : Cl P w K mg base L2.CX0 3 "slid_all" (SpD 2 (R_slid_all K))) (C_Led : Cls K C) (n_Led_slides : NoAttr K C "slides") : FnOk P w K mg base L2.CX0 4 f fd ["self", "one", "other"] (SpD 3 (R_Led_shows K C)) := by
  refine def_ok F sc_Led_shows rfl fun cdv A outer s Hf H as o E hr hR => ?_
  obtain ⟨l, a, b, W, rfl, ha, hl, hll, rfl⟩ := hR
  refine ⟨_, (pss_one (ps_ret (pe_cmpR (op_eqDK K hr) (by exact (pe_cl c_slid_all hr (by decide) (by rfl) (pa_cons (pv 1) (pa_cons (pe_fldK K (pv 0)) pa_nil)))) (pv 2) (nomark _)))), ?_⟩
  refine rn_ret ((ev_eqD (d := optD (slidAllM a l)) (e := DT b) (ev_slid_all (ev_var rfl) (ev_fld (C := C) (ev_var rfl) C_Led n_Led_slides rfl) ha.has0 ha.rect ha.len.2 ha.wid.2 hl hll) (ev_var rfl) (shaped_opt _) (sh_DT.shaped _)).is (by rw [eqv_opt])) (As.le_refl _)
def minSide (a : List (List Int)) (W : Nat) : Nat := min a.length W
theorem ev_minSide {a : List (List Int)} {W i : Nat} (hi : Γ[i]? = some (.as (Dt K (DT a)))) (h : TrayOk a W) : EvA (tCB rMin2 (tCons (tCB (rLenSq K) (tCons (tVar i) tNil)) (tCons (tCB (rLenSq K) (tCons (tOp (rIxL K) (tVar i) (tC (V.int 0))) tNil)) tNil))) Γ (Dt K (.int ((minSide a W : Nat) : Int))) := by
  have hl := h.len
  have k1 := ev_lenLD (K := K) (el_dt (K := K) (ds := a.map DI) (ev_var hi))
  have k2 := ev_lenLD (K := K) (el_dt (K := K) (ds := (a.getD 0 []).map PyData.int) (ev_ixLD (el_dt (ds := a.map DI) (ev_var hi)) (ev_int (i := 0)) (at_row (getq [] (by omega : 0 < a.length)) rfl)))
  simp only [List.length_map, h.rect _ (getD_mem (by omega : 0 < a.length))] at k1 k2
  refine (ev_min2 k1 k2).is ?_
  unfold minSide
  congr 1
  split <;> omega
def oddM (a b : List (List Int)) (W : Nat) (x y : Int) : Bool := !(decide (minSide a W = 1)) && decide (y = ((stepsM a b : Nat) : Int)) && (decide (x = ((crossM a b : Nat) : Int)) && decide ((x + y) % 2 = 1))
def R_Odd_shows (K : PySem.W.Frag) (C : Addr) (as : List As) (o : Outc) : Prop := ∃ (x y : Int) (a b : List (List Int)) (W : Nat), as = [OddA K C x y, Dt K (DT a), Dt K (DT b)] ∧ TrayOk a W ∧ TrayOk b W ∧ a.length = b.length ∧ o = .ret (Dt K (.bool (oddM a b W x y)))
theorem same_mem {a b : List (List Int)} {W : Nat} (ha : TrayOk a W) (hb : TrayOk b W) (hl : a.length = b.length) : ∀ x, x ∈ a.flatten ↔ x ∈ b.flatten := fun x => by
  rw [ha.perm.mem_iff, hb.perm.mem_iff, hl]
theorem cross_ok {a b : List (List Int)} {W : Nat} (ha : TrayOk a W) (hb : TrayOk b W) (hl : a.length = b.length) : R_crossings K [Dt K (DT a), Dt K (DT b)] (.ret (Dt K (.int ((crossM a b : Nat) : Int)))) :=
  ⟨a, b, rfl, Nat.le_trans (flat_small ha.rect ha.len.2 ha.wid.2) (by omega), Nat.le_trans (flat_small hb.rect hb.len.2 hb.wid.2) (by omega), fun x => (same_mem ha hb hl x).mp, rfl⟩
theorem steps_ok {a b : List (List Int)} {W : Nat} (ha : TrayOk a W) (hb : TrayOk b W) : R_way_between K [Dt K (DT a), Dt K (DT b)] (.ret (Dt K (.int ((stepsM a b : Nat) : Int)))) :=
  ⟨a, b, rfl, ha.has0, hb.has0, by have := ha.len; omega, by have := hb.len; omega, rfl⟩
theorem ok_Odd_shows {f : Addr} {fd : FuncData} {C : Addr} (F : L2.Fun K "shows" "Odd.shows" s_Odd_shows f fd) (c_crossings : Cl P w K mg base L2.CX0 2 "crossings" (SpD 2 (R_crossings K))) (c_way_between : Cl P w K mg base L2.CX0 2 "way_between" (SpD 2 (R_way_between K))) (C_Odd : Cls K C) (n_Odd_crossed : NoAttr K C "crossed") (n_Odd_steps : NoAttr K C "steps")
    (n_min : mg "min" = none) (n_len : mg "len" = none) : FnOk P w K mg base L2.CX0 3 f fd ["self", "one", "other"] (SpD 3 (R_Odd_shows K C)) := by
  refine def_ok F sc_Odd_shows rfl fun cdv A outer s Hf H as o E hr hR => ?_
  obtain ⟨x, y, a, b, W, rfl, ha, hb, hl, rfl⟩ := hR
  refine ⟨_, (pss_cons (ps_if (PW.pt (pw_or (pt_cmpR op_eq (by exact (pe_callB (cr_min2 (by rfl)) (by rfl) n_min (by decide +kernel) (pa_cons (by exact (pe_callB (call_lenK K) (by rfl) n_len (by decide +kernel) (pa_cons (pv 1) pa_nil))) (pa_cons (by exact (pe_callB (call_lenK K) (by rfl) n_len (by decide +kernel) (pa_cons (pe_ix (ix_listK K) (pv 1) pe_int (fun _ _ => rfl)) pa_nil))) pa_nil)))) pe_int (nomark _)) (pw_or1 (pt_cmpR op_ne (pe_fldK K (pv 0)) (by exact (pe_cl c_way_between hr (by decide) (by rfl) (pa_cons (pv 1) (pa_cons (pv 2) pa_nil)))) (nomark _))))) (pss_one (ps_ret pe_bl)) pss_nil)
      (pss_one (ps_ret (pe_and (pe_cmpR op_eq (pe_fldK K (pv 0)) (by exact (pe_cl c_crossings hr (by decide) (by rfl) (pa_cons (pv 1) (pa_cons (pv 2) pa_nil)))) (nomark _)) (pe_one (pe_cmpR op_eq (pe_op op_mod (pe_op op_add (pe_fldK K (pv 0)) (pe_fldK K (pv 0))) pe_int) pe_int (nomark _))))))), ?_⟩
  apply rn_seq
  refine rn_if (b := decide (((minSide a W : Nat) : Int) = 1) || !decide (y = ((stepsM a b : Nat) : Int))) (eb_or' (eb_test (K := K) (ev_eqI (ev_minSide (i := 1) rfl ha) ev_int)) (eb_test (K := K) (ev_neI (ev_fld (C := C) (f := "steps") (ev_var rfl) C_Odd n_Odd_steps rfl) (ev_call (as := [Dt K (DT a), Dt K (DT b)]) (es_cons (ev_var rfl) (es_cons (ev_var rfl) es_nil)) (steps_ok ha hb) rfl)))) (fun hb2 => ?_) fun hb2 => ?_
  · refine rn_ret (a := Dt K (.bool false)) ev_bl ?_
    have : oddM a b W x y = false := by
      unfold oddM
      rw [Bool.or_eq_true, decide_eq_true_eq, Bool.not_eq_true', decide_eq_false_iff_not] at hb2
      rcases hb2 with h | h
      · rw [decide_eq_true (show minSide a W = 1 by omega)]; rfl
      · rw [decide_eq_false h, Bool.and_false, Bool.false_and]
    rw [this]
    exact As.le_refl _
  · apply rn_next
    have h2 : minSide a W ≠ 1 ∧ y = ((stepsM a b : Nat) : Int) := by
      rw [Bool.or_eq_false_iff, decide_eq_false_iff_not, Bool.not_eq_false', decide_eq_true_eq] at hb2
      exact ⟨by omega, hb2.2⟩
    refine rn_ret (a := Dt K (.bool (oddM a b W x y))) ((ev_andV (ev_eqI (ev_fld (C := C) (f := "crossed") (ev_var rfl) C_Odd n_Odd_crossed rfl) (ev_call (as := [Dt K (DT a), Dt K (DT b)]) (es_cons (ev_var rfl) (es_cons (ev_var rfl) es_nil)) (cross_ok ha hb hl) rfl)) fun _ => ev_eqI (ev_Ii (g := fun i j => i % j) (ev_I0i (g := fun i j => i + j) (ev_fld (C := C) (f := "crossed") (ev_var rfl) C_Odd n_Odd_crossed rfl) (ev_fld (C := C) (f := "steps") (ev_var rfl) C_Odd n_Odd_steps rfl)) ev_int (by decide)) ev_int).is ?_) (As.le_refl _)
    unfold oddM
    rw [decide_eq_false h2.1, decide_eq_true h2.2]
    rfl
def passM (a b : List (List Int)) (W : Nat) (x y : Int) : Bool :=
  if 1 < minSide a W ∨ ¬ (0 < x ∧ x < ((a.flatten.length : Nat) : Int)) ∨ ¬ (0 < y ∧ y < ((a.flatten.length : Nat) : Int)) ∨ x = y then false
  else decide (a.flatten.idxOf x < a.flatten.idxOf y) != decide (b.flatten.idxOf x < b.flatten.idxOf y)
def R_Passed_shows (K : PySem.W.Frag) (C : Addr) (as : List As) (o : Outc) : Prop := ∃ (x y : Int) (a b : List (List Int)) (W : Nat), as = [PassA K C x y, Dt K (DT a), Dt K (DT b)] ∧ TrayOk a W ∧ TrayOk b W ∧ a.length = b.length ∧ o = .ret (Dt K (.bool (passM a b W x y)))
theorem piece_mem {a : List (List Int)} {W : Nat} (ha : TrayOk a W) {x : Int} (h : 0 < x ∧ x < ((a.flatten.length : Nat) : Int)) : x ∈ a.flatten := by
  rw [flatten_len ha.rect] at h
  exact ha.perm.mem_iff.mpr (upto_mem.mpr ⟨by omega, h.2⟩)
theorem ok_Passed_shows {f : Addr} {fd : FuncData} {C : Addr} (F : L2.Fun K "shows" "Passed.shows" s_Passed_shows f fd) (c_laid : Cl P w K mg base L2.CX0 1 "laid" (SpD 1 (R_laid K))) (C_Passed : Cls K C) (n_Passed_one : NoAttr K C "one") (n_Passed_other : NoAttr K C "other")
    (n_min : mg "min" = none) (n_len : mg "len" = none) : FnOk P w K mg base L2.CX0 2 f fd ["self", "one", "other"] (SpD 3 (R_Passed_shows K C)) := by
  refine def_ok F sc_Passed_shows rfl fun cdv A outer s Hf H as o E hr hR => ?_
  obtain ⟨x, y, a, b, W, rfl, ha, hb, hl, rfl⟩ := hR
  refine ⟨_, (pss_cons (ps_par (i := 3) (j := 4) (by rfl) sc_Passed_shows.nd rfl rfl (by decide) rfl rfl (pa_cons (by exact (pe_cl c_laid hr (by decide) (by rfl) (pa_cons (pv 1) pa_nil))) (pa_cons (by exact (pe_cl c_laid hr (by decide) (by rfl) (pa_cons (pv 2) pa_nil))) pa_nil)) (by rfl))
      (pss_cons (ps_if (PW.pt (pw_or (pt_cmpR op_gt (by exact (pe_callB (cr_min2 (by rfl)) (by rfl) n_min (by decide +kernel) (pa_cons (by exact (pe_callB (call_lenK K) (by rfl) n_len (by decide +kernel) (pa_cons (pv 1) pa_nil))) (pa_cons (by exact (pe_callB (call_lenK K) (by rfl) n_len (by decide +kernel) (pa_cons (pe_ix (ix_listK K) (pv 1) pe_int (fun _ _ => rfl)) pa_nil))) pa_nil)))) pe_int (nomark _)) (pw_or (pt_not (pt_chain op_lt op_lt pe_int (pe_fldK K (pv 0)) (by exact (pe_callB (call_lenK K) (by rfl) n_len (by decide +kernel) (pa_cons (pv 3) pa_nil))))) (pw_or1 (pt_not (pt_chain op_lt op_lt pe_int (pe_fldK K (pv 0)) (by exact (pe_callB (call_lenK K) (by rfl) n_len (by decide +kernel) (pa_cons (pv 3) pa_nil))))))))) (pss_one (ps_ret pe_bl)) pss_nil)
      (pss_cons (ps_set (i := 5) sc_Passed_shows.nd rfl (by first | exact Or.inl rfl | exact Or.inr rfl) (pe_cmpR op_lt (by exact (pe_bmK K PySem.F.plainAttrs_list PySem.F.slot_list_index PySem.F.type_list_index (mt_indexDK K hr) (pv 3) (pa_cons (pe_fldK K (pv 0)) pa_nil))) (by exact (pe_bmK K PySem.F.plainAttrs_list PySem.F.slot_list_index PySem.F.type_list_index (mt_indexDK K hr) (pv 3) (pa_cons (pe_fldK K (pv 0)) pa_nil))) (nomark _)))
      (pss_one (ps_ret (pe_and (pe_cmpR op_ne (pe_fldK K (pv 0)) (pe_fldK K (pv 0)) (nomark _)) (pe_one (pe_cmpR op_ne (pv 5) (pe_cmpR op_lt (by exact (pe_bmK K PySem.F.plainAttrs_list PySem.F.slot_list_index PySem.F.type_list_index (mt_indexDK K hr) (pv 4) (pa_cons (pe_fldK K (pv 0)) pa_nil))) (by exact (pe_bmK K PySem.F.plainAttrs_list PySem.F.slot_list_index PySem.F.type_list_index (mt_indexDK K hr) (pv 4) (pa_cons (pe_fldK K (pv 0)) pa_nil))) (nomark _)) (nomark _))))))))), ?_⟩
  change Rn _ _ [.as (PassA K C x y), .as (Dt K (DT a)), .as (Dt K (DT b)), .un, .un, .un] _
  have hal : a.flatten.length ≤ 36 := flat_small ha.rect ha.len.2 ha.wid.2
  have hbl : b.flatten.length ≤ 36 := flat_small hb.rect hb.len.2 hb.wid.2
  apply rn_seq
  refine rn_par (a := Dt K (DI a.flatten)) (b := Dt K (DI b.flatten)) (es_cons (ev_fixD (ew_call (as := [Dt K (DT a)]) (es_cons (ev_var rfl) es_nil) ⟨a, rfl, by omega, rfl⟩ rfl)) (es_cons (ev_fixD (ew_call (as := [Dt K (DT b)]) (es_cons (ev_var rfl) es_nil) ⟨b, rfl, by omega, rfl⟩ rfl)) es_nil)) ?_
  dsimp only [List.set]
  have fx : ∀ {Γ : List Sl}, Γ[0]? = some (.as (PassA K C x y)) → EvA (tFld K (tVar 0) "one") Γ (Dt K (.int x)) := fun h => ev_fld (C := C) (ev_var h) C_Passed n_Passed_one rfl
  have fy : ∀ {Γ : List Sl}, Γ[0]? = some (.as (PassA K C x y)) → EvA (tFld K (tVar 0) "other") Γ (Dt K (.int y)) := fun h => ev_fld (C := C) (ev_var h) C_Passed n_Passed_other rfl
  have ll : ∀ {Γ : List Sl}, Γ[3]? = some (.as (Dt K (DI a.flatten))) → EvA (tCB (rLenSq K) (tCons (tVar 3) tNil)) Γ (Dt K (.int ((a.flatten.length : Nat) : Int))) := fun h => (ev_lenLD (el_dt (ds := a.flatten.map PyData.int) (ev_var h))).is (by rw [List.length_map, List.length_map])
  apply rn_seq
  refine rn_if (b := decide ((1 : Int) < ((minSide a W : Nat) : Int)) || (!(decide (0 < x) && decide (x < ((a.flatten.length : Nat) : Int))) || !(decide (0 < y) && decide (y < ((a.flatten.length : Nat) : Int))))) (eb_or' (eb_test (K := K) (ev_I0b (g := fun i j => decide (j < i)) (ev_minSide (i := 1) rfl ha) ev_int)) (eb_or' (eb_not (eb_test (K := K) (ev_chain (g := fun i j => decide (i < j)) (g' := fun i j => decide (i < j)) ev_int (fx rfl) (ll rfl)))) (eb_not (eb_test (K := K) (ev_chain (g := fun i j => decide (i < j)) (g' := fun i j => decide (i < j)) ev_int (fy rfl) (ll rfl)))))) (fun hb2 => ?_) fun hb2 => ?_
  · refine rn_ret (a := Dt K (.bool false)) ev_bl ?_
    have : passM a b W x y = false := by
      unfold passM
      rw [if_pos]
      simp only [Bool.or_eq_true, Bool.not_eq_true', Bool.and_eq_false_iff, decide_eq_true_eq, decide_eq_false_iff_not] at hb2
      omega
    rw [this]
    exact As.le_refl _
  · simp only [Bool.or_eq_false_iff, Bool.not_eq_false', Bool.and_eq_true, decide_eq_true_eq, decide_eq_false_iff_not] at hb2
    obtain ⟨h1, ⟨h2, h3⟩, h4, h5⟩ := hb2
    have mx := piece_mem ha ⟨h2, h3⟩
    have my := piece_mem ha ⟨h4, h5⟩
    have mxb := (same_mem ha hb hl x).mp mx
    have myb := (same_mem ha hb hl y).mp my
    apply rn_next
    have ix : ∀ {Γ : List Sl} {i : Nat} {t : List Int} {te : TE} {z : Int}, Γ[i]? = some (.as (Dt K (DI t))) → EvA te Γ (Dt K (.int z)) → z ∈ t → EvA (tBM K "list" (rIndexD K) (tVar i) (tCons te tNil)) Γ (Dt K (.int ((t.idxOf z : Nat) : Int))) := fun {Γ i t te z} h hz hm => ev_index eq_int' sh_int (xs := t) (ev_var (a := Dt K (.list (t.map PyData.int))) h) hz hm
    apply rn_seq
    refine rn_asg (a := Dt K (.bool (decide (a.flatten.idxOf x < a.flatten.idxOf y)))) ((ev_I0b (g := fun i j => decide (i < j)) (ix rfl (fx rfl) mx) (ix rfl (fy rfl) my)).is (by simp)) ?_
    dsimp only [List.set]
    refine rn_ret (a := Dt K (.bool (passM a b W x y))) ((ev_andV (ev_neI (fx rfl) (fy rfl)) fun _ => ev_neB (ev_var rfl) ((ev_I0b (g := fun i j => decide (i < j)) (ix rfl (fx rfl) mxb) (ix rfl (fy rfl) myb)).is (d' := .bool (decide (b.flatten.idxOf x < b.flatten.idxOf y))) (by simp))).is ?_) (As.le_refl _)
    unfold passM
    by_cases e : x = y
    · rw [if_pos (by omega), decide_eq_true e]; rfl
    · rw [if_neg (by omega), decide_eq_false e]; rfl
end
abbrev s_law_crossed : Stmt := topS 20
theorem sc_law_crossed : FnScope ["_law_one", "_law_other", "_law_mine", "_law_theirs", "_law_found", "_law_at", "_law_ahead"] ["_law_one", "_law_other"] (defScope s_law_crossed) :=
  ⟨rfl, rfl, rfl, by decide +kernel, rfl, by decide +kernel, by decide +kernel⟩
abbrev s_law_steps : Stmt := topS 21
theorem sc_law_steps : FnScope ["_law_one", "_law_other", "_law_here", "_law_there"] ["_law_one", "_law_other"] (defScope s_law_steps) :=
  ⟨rfl, rfl, rfl, by decide +kernel, rfl, by decide +kernel, by decide +kernel⟩
abbrev s_law_passed : Stmt := topS 22
theorem sc_law_passed : FnScope ["_law_one", "_law_other", "_law_first", "_law_second", "_law_mine", "_law_theirs", "_law_ahead"] ["_law_one", "_law_other", "_law_first", "_law_second"] (defScope s_law_passed) :=
  ⟨rfl, rfl, rfl, by decide +kernel, rfl, by decide +kernel, by decide +kernel⟩
abbrev s_law_says : Stmt := topS 23
theorem sc_law_says : FnScope ["_law_said", "_law_due"] ["_law_said", "_law_due"] (defScope s_law_says) :=
  ⟨rfl, rfl, rfl, by decide +kernel, rfl, by decide +kernel, by decide +kernel⟩
section
variable {P : Program} {w : World} {K : PySem.W.Frag} {mg : Str → Option Value} {base : Heap} {Γ : List Sl} {c : Cb} {k : Kt}
def R_law_crossed (K : PySem.W.Frag) (as : List As) (o : Outc) : Prop := ∃ (a b : List (List Int)) (W : Nat), as = [Dt K (DT a), Dt K (DT b)] ∧ TrayOk a W ∧ TrayOk b W ∧ a.length = b.length ∧ o = .ret (Dt K (.int ((crossM a b : Nat) : Int)))
theorem tray_ne {a : List (List Int)} {W : Nat} (h : TrayOk a W) : a ≠ [] := fun z => by
  have := h.len
  rw [z] at this
  simp at this
theorem filter_take {os : List Int} {v : Int} {j : Nat} (h : j < os.length) : ((os.take (j + 1)).filter fun f => decide (v < f)).length = ((os.take j).filter fun f => decide (v < f)).length + if v < os.getD j 0 then 1 else 0 := by
  rw [List.take_add_one, getq 0 h, List.filter_append, List.length_append]
  congr 1
  show (List.filter _ [os.getD j 0]).length = _
  by_cases c : v < os.getD j 0
  · rw [if_pos c]; simp only [List.filter_cons, List.filter_nil, decide_eq_true c, if_true]; rfl
  · rw [if_neg c]; simp only [List.filter_cons, List.filter_nil, decide_eq_false c, Bool.false_eq_true, if_false]; rfl
def invTo (os : List Int) (n : Nat) : Nat := ((List.range n).map (invAt os)).sum
theorem invTo_succ (os : List Int) (n : Nat) : invTo os (n + 1) = invTo os n + invAt os n := by
  unfold invTo
  rw [List.range_succ, List.map_append, List.sum_append]
  simp
theorem ok_law_crossed {f : Addr} {fd : FuncData} (F : L2.Fun K "_law_crossed" "_law_crossed" s_law_crossed f fd) (n_sum : mg "sum" = none) (n_range : mg "range" = none) (n_len : mg "len" = none) : FnOk P w K mg base L2.CX0 1 f fd ["_law_one", "_law_other"] (SpD 2 (R_law_crossed K)) := by
  refine def_ok F sc_law_crossed rfl fun cdv A outer s Hf H as o E hr hR => ?_
  obtain ⟨a, b, W, rfl, ha, hb, hl, rfl⟩ := hR
  refine ⟨_, (pss_cons (ps_set (i := 2) sc_law_crossed.nd rfl (by first | exact Or.inl rfl | exact Or.inr rfl) (by exact (pe_callB (cr_sumLK K (by rfl)) (by rfl) n_sum (by decide +kernel) (pa_cons (pv 0) (pa_cons (pe_lst pa_nil) pa_nil)))))
      (pss_cons (ps_set (i := 3) sc_law_crossed.nd rfl (by first | exact Or.inl rfl | exact Or.inr rfl) (by exact (pe_callB (cr_sumLK K (by rfl)) (by rfl) n_sum (by decide +kernel) (pa_cons (pv 1) (pa_cons (pe_lst pa_nil) pa_nil)))))
      (pss_cons (ps_set (i := 4) sc_law_crossed.nd rfl (by first | exact Or.inl rfl | exact Or.inr rfl) pe_int)
      (pss_cons (ps_for PassesOwn.never rfl (pi_range1 (by rfl) n_range (pa_cons (by exact (pe_callB (call_lenK K) (by rfl) n_len (by decide +kernel) (pa_cons (pv 2) pa_nil))) pa_nil)) (pg_name (i := 5) sc_law_crossed.nd rfl (by first | exact Or.inl rfl | exact Or.inr rfl)) (pss_one (ps_for PassesOwn.never rfl (pi_range1 (by rfl) n_range (pa_cons (pv 5) pa_nil)) (pg_name (i := 6) sc_law_crossed.nd rfl (by first | exact Or.inl rfl | exact Or.inr rfl)) (pss_one (ps_if (pt_cmpR op_gt (by exact (pe_bmK K PySem.F.plainAttrs_list PySem.F.slot_list_index PySem.F.type_list_index (mt_indexDK K hr) (pv 3) (pa_cons (pe_ix (ix_listK K) (pv 2) (pv 6) (fun _ _ => rfl)) pa_nil))) (by exact (pe_bmK K PySem.F.plainAttrs_list PySem.F.slot_list_index PySem.F.type_list_index (mt_indexDK K hr) (pv 3) (pa_cons (pe_ix (ix_listK K) (pv 2) (pv 5) (fun _ _ => rfl)) pa_nil))) (nomark _)) (pss_one (ps_set (i := 4) sc_law_crossed.nd rfl (by first | exact Or.inl rfl | exact Or.inr rfl) (pe_op op_add (pv 4) pe_int))) pss_nil)))))
      (pss_one (ps_ret (pv 4))))))), ?_⟩
  change Rn _ _ [.as (Dt K (DT a)), .as (Dt K (DT b)), .un, .un, .un, .un, .un] _
  have hal : a.flatten.length ≤ 36 := flat_small ha.rect ha.len.2 ha.wid.2
  have hbl : b.flatten.length ≤ 36 := flat_small hb.rect hb.len.2 hb.wid.2
  have hm := same_mem ha hb hl
  obtain ⟨xs, hxs⟩ : ∃ xs, xs = a.flatten := ⟨_, rfl⟩
  obtain ⟨ys, hys⟩ : ∃ ys, ys = b.flatten := ⟨_, rfl⟩
  obtain ⟨os, hos⟩ : ∃ os, os = ordM xs ys := ⟨_, rfl⟩
  have hcr : crossM a b = invTo os xs.length := by
    rw [hos, hxs, hys]
    unfold crossM invsM invTo
    rw [show (ordM a.flatten b.flatten).length = a.flatten.length from List.length_map ..]
  rw [hcr]
  rw [← hxs] at hal hm
  rw [← hys] at hbl hm
  have hol : os.length = xs.length := by rw [hos]; exact List.length_map ..
  have hog : ∀ j, j < xs.length → os.getD j 0 = ((ys.idxOf (xs.getD j 0) : Nat) : Int) := fun j hj => by
    rw [hos]
    unfold ordM
    rw [List.getD_eq_getElem?_getD, List.getElem?_map, getq 0 hj]; rfl
  apply rn_seq
  refine rn_asg (a := Dt K (DI xs)) (by rw [hxs]; exact ev_fixD (ew_sumL (ev_var rfl) (tray_ne ha) (by rw [← hxs]; omega))) ?_
  dsimp only [List.set]
  apply rn_seq
  refine rn_asg (a := Dt K (DI ys)) (by rw [hys]; exact ev_fixD (ew_sumL (ev_var rfl) (tray_ne hb) (by rw [← hys]; omega))) ?_
  dsimp only [List.set]
  apply rn_seq
  refine rn_asg (a := Dt K (.int ((0 : Nat) : Int))) ev_int ?_
  dsimp only [List.set]
  have ix : ∀ {Γ : List Sl} {te : TE} {j : Nat}, Γ[2]? = some (.as (Dt K (DI xs))) → Γ[3]? = some (.as (Dt K (DI ys))) → EvA te Γ (Dt K (.int ((j : Nat) : Int))) → j < xs.length → EvA (tBM K "list" (rIndexD K) (tVar 3) (tCons (tOp (rIxL K) (tVar 2) te) tNil)) Γ (Dt K (.int (os.getD j 0))) := fun {Γ te j} h2 h3 hz hj => by
    rw [hog j hj]
    exact ev_index eq_int' sh_int (xs := ys) (ev_var (a := Dt K (.list (ys.map PyData.int))) h3) (ev_ixLD (el_dt (ds := xs.map PyData.int) (ev_var h2)) hz (at_int (getq 0 hj) rfl)) ((hm _).mp (getD_mem hj))
  apply rn_seq
  have j1 := ei_rng1 (K := K) (Γ := [.as (Dt K (DT a)), .as (Dt K (DT b)), .as (Dt K (DI xs)), .as (Dt K (DI ys)), .as (Dt K (.int ((0 : Nat) : Int))), .un, .un]) (es_cons ((ev_lenLD (el_dt (ds := xs.map PyData.int) (ev_var (i := 2) rfl))).is (d' := .int ((xs.length : Nat) : Int)) (by rw [List.length_map, List.length_map])) es_nil) (by omega)
  rw [Int.toNat_natCast] at j1
  refine rn_for (fun i Γ => Γ = [.as (Dt K (DT a)), .as (Dt K (DT b)), .as (Dt K (DI xs)), .as (Dt K (DI ys)), .as (Dt K (.int ((invTo os i : Nat) : Int))), .un, .un]) j1 rfl ?_ ?_
  · rintro c' sb i v Γ1 rfl hv
    have hi : i < xs.length := by
      have := (List.getElem?_eq_some_iff.mp hv).1
      simpa using this
    rw [List.getElem?_map, List.getElem?_range hi] at hv
    obtain rfl := Option.some.inj hv
    refine ⟨_, eg_name, ?_⟩
    dsimp only [List.set]
    have j2 := ei_rng1 (K := K) (Γ := [.as (Dt K (DT a)), .as (Dt K (DT b)), .as (Dt K (DI xs)), .as (Dt K (DI ys)), .as (Dt K (.int ((invTo os i : Nat) : Int))), .as (Dt K (.int ((i : Nat) : Int))), .un]) (es_cons (ev_var (i := 5) rfl) es_nil) (by omega)
    rw [Int.toNat_natCast] at j2
    refine rn_for (fun j Γ => Γ = [.as (Dt K (DT a)), .as (Dt K (DT b)), .as (Dt K (DI xs)), .as (Dt K (DI ys)), .as (Dt K (.int ((invTo os i + ((os.take j).filter fun f => decide (os.getD i 0 < f)).length : Nat) : Int))), .as (Dt K (.int ((i : Nat) : Int))), .un]) j2 rfl ?_ ?_
    · rintro c2 sb2 j v Γ1 rfl hv
      have hj : j < i := by
        have := (List.getElem?_eq_some_iff.mp hv).1
        simpa using this
      rw [List.getElem?_map, List.getElem?_range hj] at hv
      obtain rfl := Option.some.inj hv
      refine ⟨_, eg_name, ?_⟩
      dsimp only [List.set]
      rw [filter_take (by omega)]
      refine rn_if (b := decide (os.getD i 0 < os.getD j 0)) (eb_test (K := K) (ev_I0b (g := fun i j => decide (j < i)) (ix rfl rfl (ev_var rfl) (by omega)) (ix rfl rfl (ev_var rfl) (by omega)))) (fun hb2 => ?_) fun hb2 => ?_
      · have hb2 := of_decide_eq_true hb2
        rw [if_pos hb2]
        refine rn_asg (ev_I0i (g := fun i j => i + j) (ev_var rfl) ev_int) ?_
        refine ⟨_, ?_, rfl⟩
        dsimp only [List.set]
        rw [show ((invTo os i + (List.filter (fun f => decide (os.getD i 0 < f)) (List.take j os)).length : Nat) : Int) + 1 = ((invTo os i + ((List.filter (fun f => decide (os.getD i 0 < f)) (List.take j os)).length + 1) : Nat) : Int) by omega]
        walk_at "gle"
      · have hb2 := of_decide_eq_false hb2
        rw [if_neg hb2]
        apply rn_next
        exact ⟨_, by walk_at "gle", rfl⟩
    · rintro Γ1 rfl
      rw [List.length_map, List.length_range]
      refine ⟨_, ?_, rfl⟩
      rw [invTo_succ]
      walk_at "gle"
  · rintro Γ1 rfl
    dsimp only
    rw [List.length_map, List.length_range]
    exact rn_ret (ev_var rfl) (As.le_refl _)
def R_law_steps (K : PySem.W.Frag) (as : List As) (o : Outc) : Prop := ∃ (a b : List (List Int)) (W : Nat), as = [Dt K (DT a), Dt K (DT b)] ∧ TrayOk a W ∧ TrayOk b W ∧ o = .ret (Dt K (.int ((stepsM a b : Nat) : Int)))
theorem ok_law_steps {f : Addr} {fd : FuncData} (F : L2.Fun K "_law_steps" "_law_steps" s_law_steps f fd) (c_law_place : Cl P w K mg base L2.CX0 1 "_law_place" (SpD 2 (R_law_place K))) (n_abs : mg "abs" = none) : FnOk P w K mg base L2.CX0 2 f fd ["_law_one", "_law_other"] (SpD 2 (R_law_steps K)) := by
  refine def_ok F sc_law_steps rfl fun cdv A outer s Hf H as o E hr hR => ?_
  obtain ⟨a, b, W, rfl, ha, hb, rfl⟩ := hR
  refine ⟨_, (pss_cons (ps_set (i := 2) sc_law_steps.nd rfl (by first | exact Or.inl rfl | exact Or.inr rfl) (by exact (pe_cl c_law_place hr (by decide) (by rfl) (pa_cons (pv 0) (pa_cons pe_int pa_nil)))))
      (pss_cons (ps_set (i := 3) sc_law_steps.nd rfl (by first | exact Or.inl rfl | exact Or.inr rfl) (by exact (pe_cl c_law_place hr (by decide) (by rfl) (pa_cons (pv 1) (pa_cons pe_int pa_nil)))))
      (pss_one (ps_ret (pe_op op_add (by exact (pe_callB call_abs (by rfl) n_abs (by decide +kernel) (pa_cons (pe_op op_sub (pe_ix (ix_tupK K) (pv 2) pe_int (fun _ _ => rfl)) (pe_ix (ix_tupK K) (pv 3) pe_int (fun _ _ => rfl))) pa_nil))) (by exact (pe_callB call_abs (by rfl) n_abs (by decide +kernel) (pa_cons (pe_op op_sub (pe_ix (ix_tupK K) (pv 2) pe_int (fun _ _ => rfl)) (pe_ix (ix_tupK K) (pv 3) pe_int (fun _ _ => rfl))) pa_nil)))))))), ?_⟩
  change Rn _ _ [.as (Dt K (DT a)), .as (Dt K (DT b)), .un, .un] _
  have hla := ha.len
  have hlb := hb.len
  have hw := ha.wid
  apply rn_seq
  refine rn_asg (a := Dt K (DP ((rowOf a 0 : Nat), (colOf a 0 : Nat)))) (ev_call (as := [Dt K (DT a), Dt K (.int 0)]) (es_cons (ev_var rfl) (es_cons ev_int es_nil)) ⟨a, 0, W, rfl, ha.has0, ha.rect, by omega, by omega, rfl⟩ rfl) ?_
  dsimp only [List.set]
  apply rn_seq
  refine rn_asg (a := Dt K (DP ((rowOf b 0 : Nat), (colOf b 0 : Nat)))) (ev_call (as := [Dt K (DT b), Dt K (.int 0)]) (es_cons (ev_var rfl) (es_cons ev_int es_nil)) ⟨b, 0, W, rfl, hb.has0, hb.rect, by omega, by omega, rfl⟩ rfl) ?_
  dsimp only [List.set]
  refine rn_ret (a := Dt K (.int ((stepsM a b : Nat) : Int))) ?_ (As.le_refl _)
  have g0 : ∀ {Γ : List Sl} {i : Nat} {x y : Int}, Γ[i]? = some (.as (Dt K (DP (x, y)))) → EvA (tOp (rIxT K) (tVar i) (tC (V.int 0))) Γ (Dt K (.int x)) := fun h => ev_ixT (ds := [.int _, .int _]) (ev_var h) (ev_int (i := 0)) rfl
  have g1 : ∀ {Γ : List Sl} {i : Nat} {x y : Int}, Γ[i]? = some (.as (Dt K (DP (x, y)))) → EvA (tOp (rIxT K) (tVar i) (tC (V.int 1))) Γ (Dt K (.int y)) := fun h => ev_ixT (ds := [.int _, .int _]) (ev_var h) (ev_int (i := 1)) rfl
  exact (ev_I0i (g := fun i j => i + j) ((ev_abs (ev_I0i (g := fun i j => i - j) (g0 rfl) (g0 rfl)) rfl).is (by rw [dist_abs])) ((ev_abs (ev_I0i (g := fun i j => i - j) (g1 rfl) (g1 rfl)) rfl).is (by rw [dist_abs]))).is (by unfold stepsM; simp)
def R_law_passed (K : PySem.W.Frag) (as : List As) (o : Outc) : Prop := ∃ (x y : Int) (a b : List (List Int)) (W : Nat), as = [Dt K (DT a), Dt K (DT b), Dt K (.int x), Dt K (.int y)] ∧ TrayOk a W ∧ TrayOk b W ∧ a.length = b.length ∧ o = .ret (Dt K (.bool (passM a b W x y)))
theorem ok_law_passed {f : Addr} {fd : FuncData} (F : L2.Fun K "_law_passed" "_law_passed" s_law_passed f fd) (n_sum : mg "sum" = none) (n_min : mg "min" = none) (n_len : mg "len" = none) : FnOk P w K mg base L2.CX0 1 f fd ["_law_one", "_law_other", "_law_first", "_law_second"] (SpD 4 (R_law_passed K)) := by
  refine def_ok F sc_law_passed rfl fun cdv A outer s Hf H as o E hr hR => ?_
  obtain ⟨x, y, a, b, W, rfl, ha, hb, hl, rfl⟩ := hR
  refine ⟨_, (pss_cons (ps_set (i := 4) sc_law_passed.nd rfl (by first | exact Or.inl rfl | exact Or.inr rfl) (by exact (pe_callB (cr_sumLK K (by rfl)) (by rfl) n_sum (by decide +kernel) (pa_cons (pv 0) (pa_cons (pe_lst pa_nil) pa_nil)))))
      (pss_cons (ps_set (i := 5) sc_law_passed.nd rfl (by first | exact Or.inl rfl | exact Or.inr rfl) (by exact (pe_callB (cr_sumLK K (by rfl)) (by rfl) n_sum (by decide +kernel) (pa_cons (pv 1) (pa_cons (pe_lst pa_nil) pa_nil)))))
      (pss_cons (ps_if (PW.pt (pw_or (pt_cmpR op_gt (by exact (pe_callB (cr_min2 (by rfl)) (by rfl) n_min (by decide +kernel) (pa_cons (by exact (pe_callB (call_lenK K) (by rfl) n_len (by decide +kernel) (pa_cons (pv 0) pa_nil))) (pa_cons (by exact (pe_callB (call_lenK K) (by rfl) n_len (by decide +kernel) (pa_cons (pe_ix (ix_listK K) (pv 0) pe_int (fun _ _ => rfl)) pa_nil))) pa_nil)))) pe_int (nomark _)) (pw_or (pt_cmpR op_eq (pv 2) (pv 3) (nomark _)) (pw_or (pt_not (pt_chain op_lt op_lt pe_int (pv 2) (by exact (pe_callB (call_lenK K) (by rfl) n_len (by decide +kernel) (pa_cons (pv 4) pa_nil))))) (pw_or1 (pt_not (pt_chain op_lt op_lt pe_int (pv 3) (by exact (pe_callB (call_lenK K) (by rfl) n_len (by decide +kernel) (pa_cons (pv 4) pa_nil)))))))))) (pss_one (ps_ret pe_bl)) pss_nil)
      (pss_cons (ps_set (i := 6) sc_law_passed.nd rfl (by first | exact Or.inl rfl | exact Or.inr rfl) (pe_cmpR op_lt (by exact (pe_bmK K PySem.F.plainAttrs_list PySem.F.slot_list_index PySem.F.type_list_index (mt_indexDK K hr) (pv 4) (pa_cons (pv 2) pa_nil))) (by exact (pe_bmK K PySem.F.plainAttrs_list PySem.F.slot_list_index PySem.F.type_list_index (mt_indexDK K hr) (pv 4) (pa_cons (pv 3) pa_nil))) (nomark _)))
      (pss_one (ps_ret (pe_cmpR op_ne (pv 6) (pe_cmpR op_lt (by exact (pe_bmK K PySem.F.plainAttrs_list PySem.F.slot_list_index PySem.F.type_list_index (mt_indexDK K hr) (pv 5) (pa_cons (pv 2) pa_nil))) (by exact (pe_bmK K PySem.F.plainAttrs_list PySem.F.slot_list_index PySem.F.type_list_index (mt_indexDK K hr) (pv 5) (pa_cons (pv 3) pa_nil))) (nomark _)) (nomark _)))))))), ?_⟩
  change Rn _ _ [.as (Dt K (DT a)), .as (Dt K (DT b)), .as (Dt K (.int x)), .as (Dt K (.int y)), .un, .un, .un] _
  have hal : a.flatten.length ≤ 36 := flat_small ha.rect ha.len.2 ha.wid.2
  have hbl : b.flatten.length ≤ 36 := flat_small hb.rect hb.len.2 hb.wid.2
  apply rn_seq
  refine rn_asg (a := Dt K (DI a.flatten)) (ev_fixD (ew_sumL (ev_var rfl) (tray_ne ha) (by omega))) ?_
  dsimp only [List.set]
  apply rn_seq
  refine rn_asg (a := Dt K (DI b.flatten)) (ev_fixD (ew_sumL (ev_var rfl) (tray_ne hb) (by omega))) ?_
  dsimp only [List.set]
  have ll : ∀ {Γ : List Sl}, Γ[4]? = some (.as (Dt K (DI a.flatten))) → EvA (tCB (rLenSq K) (tCons (tVar 4) tNil)) Γ (Dt K (.int ((a.flatten.length : Nat) : Int))) := fun h => (ev_lenLD (el_dt (ds := a.flatten.map PyData.int) (ev_var h))).is (by rw [List.length_map, List.length_map])
  apply rn_seq
  refine rn_if (b := decide ((1 : Int) < ((minSide a W : Nat) : Int)) || (decide (x = y) || (!(decide (0 < x) && decide (x < ((a.flatten.length : Nat) : Int))) || !(decide (0 < y) && decide (y < ((a.flatten.length : Nat) : Int)))))) (eb_or' (eb_test (K := K) (ev_I0b (g := fun i j => decide (j < i)) (ev_minSide (i := 0) rfl ha) ev_int)) (eb_or' (eb_test (K := K) (ev_eqI (ev_var rfl) (ev_var rfl))) (eb_or' (eb_not (eb_test (K := K) (ev_chain (g := fun i j => decide (i < j)) (g' := fun i j => decide (i < j)) ev_int (ev_var rfl) (ll rfl)))) (eb_not (eb_test (K := K) (ev_chain (g := fun i j => decide (i < j)) (g' := fun i j => decide (i < j)) ev_int (ev_var rfl) (ll rfl))))))) (fun hb2 => ?_) fun hb2 => ?_
  · refine rn_ret (a := Dt K (.bool false)) ev_bl ?_
    have : passM a b W x y = false := by
      unfold passM
      rw [if_pos]
      simp only [Bool.or_eq_true, Bool.not_eq_true', Bool.and_eq_false_iff, decide_eq_true_eq, decide_eq_false_iff_not] at hb2
      omega
    rw [this]
    exact As.le_refl _
  · simp only [Bool.or_eq_false_iff, Bool.not_eq_false', Bool.and_eq_true, decide_eq_true_eq, decide_eq_false_iff_not] at hb2
    obtain ⟨h1, h0, ⟨h2, h3⟩, h4, h5⟩ := hb2
    have mx := piece_mem ha ⟨h2, h3⟩
    have my := piece_mem ha ⟨h4, h5⟩
    have mxb := (same_mem ha hb hl x).mp mx
    have myb := (same_mem ha hb hl y).mp my
    apply rn_next
    have ix : ∀ {Γ : List Sl} {i : Nat} {t : List Int} {te : TE} {z : Int}, Γ[i]? = some (.as (Dt K (DI t))) → EvA te Γ (Dt K (.int z)) → z ∈ t → EvA (tBM K "list" (rIndexD K) (tVar i) (tCons te tNil)) Γ (Dt K (.int ((t.idxOf z : Nat) : Int))) := fun {Γ i t te z} h hz hm => ev_index eq_int' sh_int (xs := t) (ev_var (a := Dt K (.list (t.map PyData.int))) h) hz hm
    apply rn_seq
    refine rn_asg (a := Dt K (.bool (decide (a.flatten.idxOf x < a.flatten.idxOf y)))) ((ev_I0b (g := fun i j => decide (i < j)) (ix rfl (ev_var (a := Dt K (.int x)) rfl) mx) (ix rfl (ev_var (a := Dt K (.int y)) rfl) my)).is (by simp)) ?_
    dsimp only [List.set]
    refine rn_ret (a := Dt K (.bool (passM a b W x y))) ((ev_neB (ev_var rfl) ((ev_I0b (g := fun i j => decide (i < j)) (ix rfl (ev_var (a := Dt K (.int x)) rfl) mxb) (ix rfl (ev_var (a := Dt K (.int y)) rfl) myb)).is (d' := .bool (decide (b.flatten.idxOf x < b.flatten.idxOf y))) (by simp))).is ?_) (As.le_refl _)
    unfold passM
    rw [if_neg (by omega)]
def R_law_says (K : PySem.W.Frag) (as : List As) (o : Outc) : Prop := ∃ (x y : Bool), as = [Dt K (.bool x), Dt K (.bool y)] ∧ o = .ret (Dt K (.bool (x == y)))
theorem ok_law_says {f : Addr} {fd : FuncData} (F : L2.Fun K "_law_says" "_law_says" s_law_says f fd) (n_isinstance : mg "isinstance" = none) (n_bool : mg "bool" = none) : FnOk P w K mg base L2.CX0 1 f fd ["_law_said", "_law_due"] (SpD 2 (R_law_says K)) := by
  refine def_ok F sc_law_says rfl fun cdv A outer s Hf H as o E hr hR => ?_
  obtain ⟨x, y, rfl, rfl⟩ := hR
  refine ⟨_, (pss_one (ps_ret (pe_and (by exact (pe_callB (call_isiK' K) (by rfl) n_isinstance (by decide +kernel) (pa_cons (pv 0) (pa_cons (pe_bltn (v := .ty "bool") (by rfl) n_bool (by decide +kernel) rfl) pa_nil)))) (pe_one (pe_cmpR op_eq (pv 0) (pv 1) (nomark _)))))), ?_⟩
  exact rn_ret ((ev_andV (ev_isT (d := .bool x) (ev_var rfl) (by simp)) fun _ => ev_eqB (ev_var rfl) (ev_var rfl)).is rfl) (As.le_refl _)
end
abbrev s_law_led_right : Stmt := topS 24
theorem sc_law_led_right : FnScope ["_law_one", "_law_other", "_law_slides", "_law_answer", "_law_due"] ["_law_one", "_law_other", "_law_slides"] (defScope s_law_led_right) :=
  ⟨rfl, rfl, rfl, by decide +kernel, rfl, by decide +kernel, by decide +kernel⟩
abbrev s_law_odd_right : Stmt := topS 25
theorem sc_law_odd_right : FnScope ["_law_one", "_law_other", "_law_crossed_here", "_law_steps_here", "_law_due", "_law_answer"] ["_law_one", "_law_other", "_law_crossed_here", "_law_steps_here"] (defScope s_law_odd_right) :=
  ⟨rfl, rfl, rfl, by decide +kernel, rfl, by decide +kernel, by decide +kernel⟩
abbrev s_law_passed_right : Stmt := topS 26
theorem sc_law_passed_right : FnScope ["_law_one", "_law_other", "_law_first", "_law_second", "_law_due", "_law_answer"] ["_law_one", "_law_other", "_law_first", "_law_second"] (defScope s_law_passed_right) :=
  ⟨rfl, rfl, rfl, by decide +kernel, rfl, by decide +kernel, by decide +kernel⟩
section
variable {P : Program} {w : World} {K : PySem.W.Frag} {mg : Str → Option Value} {base : Heap} {Γ : List Sl} {c : Cb} {k : Kt}
def R_law_led_right (K : PySem.W.Frag) (as : List As) (o : Outc) : Prop := ∃ (a b : List (List Int)) (l : List Nat) (W : Nat), as = [Dt K (DT a), Dt K (DT b), Dt K (DS l)] ∧ TrayOk a W ∧ (∀ c ∈ l, Lett c) ∧ l.length ≤ 1000000 ∧ o = .ret (Dt K (.bool true))
theorem ok_law_led_right {f : Addr} {fd : FuncData} {C : Addr} (F : L2.Fun K "_law_led_right" "_law_led_right" s_law_led_right f fd) (k_Led : MkC P w K mg base 1 "Led" C (SpI C ["slides"])) (c_Led_shows : MtC P w K mg base 4 C "shows" (SpD 3 (R_Led_shows K C))) (c_law_slid : Cl P w K mg base L2.CX0 2 "_law_slid" (SpD 2 (R_law_slid K))) (c_law_says : Cl P w K mg base L2.CX0 1 "_law_says" (SpD 2 (R_law_says K)))
    (C_Led : Cls K C) (n_Led_slides : NoAttr K C "slides") : FnOk P w K mg base L2.CX0 5 f fd ["_law_one", "_law_other", "_law_slides"] (SpD 3 (R_law_led_right K)) := by
  refine def_ok F sc_law_led_right rfl fun cdv A outer s Hf H as o E hr hR => ?_
  obtain ⟨a, b, l, W, rfl, ha, hl, hll, rfl⟩ := hR
  refine ⟨_, (pss_cons (ps_set (i := 3) sc_law_led_right.nd rfl (by first | exact Or.inl rfl | exact Or.inr rfl) (by exact (pe_mkc k_Led hr (by decide) (by rfl) (pa_cons (pv 2) pa_nil))))
      (pss_cons (ps_set (i := 4) sc_law_led_right.nd rfl (by first | exact Or.inl rfl | exact Or.inr rfl) (pe_cmpR (op_eqDK K hr) (by exact (pe_cl c_law_slid hr (by decide) (by rfl) (pa_cons (pv 0) (pa_cons (pv 2) pa_nil)))) (pv 1) (nomark _)))
      (pss_one (ps_ret (pe_and (pe_cmpR op_eq (pe_fldK K (pv 3)) (pv 2) (nomark _)) (pe_one (by exact (pe_cl c_law_says hr (by decide) (by rfl) (pa_cons (by exact (pe_mtc c_Led_shows hr (by decide) (pv 3) (pa_cons (pv 0) (pa_cons (pv 1) pa_nil)))) (pa_cons (pv 4) pa_nil)))))))))), ?_⟩
  change Rn _ _ [.as (Dt K (DT a)), .as (Dt K (DT b)), .as (Dt K (DS l)), .un, .un] _
  apply rn_seq
  refine rn_asg (a := LedA K C l) (ev_make (es_cons (ev_var rfl) es_nil) rfl) ?_
  dsimp only [List.set]
  apply rn_seq
  refine rn_asg (a := Dt K (.bool (decide (slidAllM a l = some b)))) ((ev_eqD (d := optD (slidAllM a l)) (e := DT b) (ev_call (as := [Dt K (DT a), Dt K (DS l)]) (es_cons (ev_var rfl) (es_cons (ev_var rfl) es_nil)) ⟨a, l, W, _, _, rfl, ha.uni, ha.len.2, ha.wid.2, hll, rfl⟩ rfl) (ev_var rfl) (shaped_opt _) (sh_DT.shaped _)).is (by rw [eqv_opt])) ?_
  dsimp only [List.set]
  refine rn_ret ((ev_andV (ev_eqT (i := SX.S l) (j := SX.S l) (ev_fld (C := C) (f := "slides") (ev_var rfl) C_Led n_Led_slides rfl) (ev_var rfl)) fun _ => ev_call (as := [Dt K (.bool (decide (slidAllM a l = some b))), Dt K (.bool (decide (slidAllM a l = some b)))]) (es_cons (ev_meth (C := C) (fs := [("slides", Dt K (DS l))]) (R := R_Led_shows K C) (as := [Dt K (DT a), Dt K (DT b)]) (ev_var rfl) (es_cons (ev_var rfl) (es_cons (ev_var rfl) es_nil)) ⟨l, a, b, W, rfl, ha, hl, hll, rfl⟩ rfl rfl) (es_cons (ev_var rfl) es_nil)) ⟨_, _, rfl, rfl⟩ rfl).is (by simp)) (As.le_refl _)
def R_law_odd_right (K : PySem.W.Frag) (as : List As) (o : Outc) : Prop := ∃ (a b : List (List Int)) (x y : Int) (W : Nat), as = [Dt K (DT a), Dt K (DT b), Dt K (.int x), Dt K (.int y)] ∧ TrayOk a W ∧ TrayOk b W ∧ a.length = b.length ∧ o = .ret (Dt K (.bool true))
theorem ok_law_odd_right {f : Addr} {fd : FuncData} {C : Addr} (F : L2.Fun K "_law_odd_right" "_law_odd_right" s_law_odd_right f fd) (k_Odd : MkC P w K mg base 1 "Odd" C (SpI C ["crossed", "steps"])) (c_Odd_shows : MtC P w K mg base 3 C "shows" (SpD 3 (R_Odd_shows K C))) (c_law_crossed : Cl P w K mg base L2.CX0 1 "_law_crossed" (SpD 2 (R_law_crossed K))) (c_law_steps : Cl P w K mg base L2.CX0 2 "_law_steps" (SpD 2 (R_law_steps K)))
    (c_law_says : Cl P w K mg base L2.CX0 1 "_law_says" (SpD 2 (R_law_says K))) (C_Odd : Cls K C) (n_Odd_crossed : NoAttr K C "crossed") (n_Odd_steps : NoAttr K C "steps") (n_min : mg "min" = none) (n_len : mg "len" = none) : FnOk P w K mg base L2.CX0 4 f fd ["_law_one", "_law_other", "_law_crossed_here", "_law_steps_here"] (SpD 4 (R_law_odd_right K)) := by
  refine def_ok F sc_law_odd_right rfl fun cdv A outer s Hf H as o E hr hR => ?_
  obtain ⟨a, b, x, y, W, rfl, ha, hb, hl, rfl⟩ := hR
  refine ⟨_, (pss_cons (ps_set (i := 4) sc_law_odd_right.nd rfl (by first | exact Or.inl rfl | exact Or.inr rfl) (pe_and (pe_cmpR op_gt (by exact (pe_callB (cr_min2 (by rfl)) (by rfl) n_min (by decide +kernel) (pa_cons (by exact (pe_callB (call_lenK K) (by rfl) n_len (by decide +kernel) (pa_cons (pv 0) pa_nil))) (pa_cons (by exact (pe_callB (call_lenK K) (by rfl) n_len (by decide +kernel) (pa_cons (pe_ix (ix_listK K) (pv 0) pe_int (fun _ _ => rfl)) pa_nil))) pa_nil)))) pe_int (nomark _)) (pe_one (pe_cmpR op_eq (pe_op op_mod (pe_op op_add (pv 2) (pv 3)) pe_int) pe_int (nomark _)))))
      (pss_cons (ps_set (i := 4) sc_law_odd_right.nd rfl (by first | exact Or.inl rfl | exact Or.inr rfl) (pe_and (pv 4) (pe_and (pe_cmpR op_eq (pv 2) (by exact (pe_cl c_law_crossed hr (by decide) (by rfl) (pa_cons (pv 0) (pa_cons (pv 1) pa_nil)))) (nomark _)) (pe_one (pe_cmpR op_eq (pv 3) (by exact (pe_cl c_law_steps hr (by decide) (by rfl) (pa_cons (pv 0) (pa_cons (pv 1) pa_nil)))) (nomark _))))))
      (pss_cons (ps_set (i := 5) sc_law_odd_right.nd rfl (by first | exact Or.inl rfl | exact Or.inr rfl) (by exact (pe_mkc k_Odd hr (by decide) (by rfl) (pa_cons (pv 2) (pa_cons (pv 3) pa_nil)))))
      (pss_one (ps_ret (pe_and (pe_cmpR (op_eqDK K hr) (pe_tup (pa_cons (pe_fldK K (pv 5)) (pa_cons (pe_fldK K (pv 5)) pa_nil))) (pe_tup (pa_cons (pv 2) (pa_cons (pv 3) pa_nil))) (nomark _)) (pe_one (by exact (pe_cl c_law_says hr (by decide) (by rfl) (pa_cons (by exact (pe_mtc c_Odd_shows hr (by decide) (pv 5) (pa_cons (pv 0) (pa_cons (pv 1) pa_nil)))) (pa_cons (pv 4) pa_nil))))))))))), ?_⟩
  change Rn _ _ [.as (Dt K (DT a)), .as (Dt K (DT b)), .as (Dt K (.int x)), .as (Dt K (.int y)), .un, .un] _
  apply rn_seq
  refine rn_asg (a := Dt K (.bool (decide ((1 : Int) < ((minSide a W : Nat) : Int)) && decide ((x + y) % 2 = 1)))) (ev_andV (ev_I0b (g := fun i j => decide (j < i)) (ev_minSide (i := 0) rfl ha) ev_int) fun _ => ev_eqI (ev_Ii (g := fun i j => i % j) (ev_I0i (g := fun i j => i + j) (ev_var rfl) (ev_var rfl)) ev_int (by decide)) ev_int) ?_
  dsimp only [List.set]
  apply rn_seq
  refine rn_asg (a := Dt K (.bool (oddM a b W x y))) ((ev_andV (ev_var rfl) fun _ => ev_andV (ev_eqI (ev_var rfl) (ev_call (as := [Dt K (DT a), Dt K (DT b)]) (es_cons (ev_var rfl) (es_cons (ev_var rfl) es_nil)) ⟨a, b, W, rfl, ha, hb, hl, rfl⟩ rfl)) fun _ => ev_eqI (ev_var rfl) (ev_call (as := [Dt K (DT a), Dt K (DT b)]) (es_cons (ev_var rfl) (es_cons (ev_var rfl) es_nil)) ⟨a, b, W, rfl, ha, hb, rfl⟩ rfl)).is ?_) ?_
  · have hm : 1 ≤ minSide a W := by
      have := ha.len
      have := ha.wid
      unfold minSide
      omega
    unfold oddM
    by_cases e : minSide a W = 1
    · rw [decide_eq_true e, decide_eq_false (show ¬ (1 : Int) < ((minSide a W : Nat) : Int) by omega)]; simp
    · rw [decide_eq_false e, decide_eq_true (show (1 : Int) < ((minSide a W : Nat) : Int) by omega)]
      congr 1
      cases decide (y = ((stepsM a b : Nat) : Int)) <;> cases decide (x = ((crossM a b : Nat) : Int)) <;> cases decide ((x + y) % 2 = 1) <;> rfl
  dsimp only [List.set]
  apply rn_seq
  refine rn_asg (a := OddA K C x y) (ev_make (es_cons (ev_var rfl) (es_cons (ev_var rfl) es_nil)) rfl) ?_
  dsimp only [List.set]
  have two : ∀ {Γ : List Sl} {ta tb : TE}, EvA ta Γ (Dt K (.int x)) → EvA tb Γ (Dt K (.int y)) → EvA (tTup (tCons ta (tCons tb tNil))) Γ (Dt K (DP (x, y))) := fun h1 h2 => ev_tupD (ed_cons h1 (ed_cons h2 ed_nil)) (by simp [sizeLine_eq])
  refine rn_ret ((ev_andV (ev_eqD (d := DP (x, y)) (e := DP (x, y)) (two (ev_fld (C := C) (f := "crossed") (ev_var rfl) C_Odd n_Odd_crossed rfl) (ev_fld (C := C) (f := "steps") (ev_var rfl) C_Odd n_Odd_steps rfl)) (two (ev_var rfl) (ev_var rfl)) (sh_DP.shaped _) (sh_DP.shaped _)) fun _ => ev_call (as := [Dt K (.bool (oddM a b W x y)), Dt K (.bool (oddM a b W x y))]) (es_cons (ev_meth (C := C) (fs := [("crossed", Dt K (.int x)), ("steps", Dt K (.int y))]) (R := R_Odd_shows K C) (as := [Dt K (DT a), Dt K (DT b)]) (ev_var rfl) (es_cons (ev_var rfl) (es_cons (ev_var rfl) es_nil)) ⟨x, y, a, b, W, rfl, ha, hb, hl, rfl⟩ rfl rfl) (es_cons (ev_var rfl) es_nil)) ⟨_, _, rfl, rfl⟩ rfl).is (by rw [eq_DP]; simp)) (As.le_refl _)
def R_law_passed_right (K : PySem.W.Frag) (as : List As) (o : Outc) : Prop := ∃ (a b : List (List Int)) (x y : Int) (W : Nat), as = [Dt K (DT a), Dt K (DT b), Dt K (.int x), Dt K (.int y)] ∧ TrayOk a W ∧ TrayOk b W ∧ a.length = b.length ∧ o = .ret (Dt K (.bool true))
theorem ok_law_passed_right {f : Addr} {fd : FuncData} {C : Addr} (F : L2.Fun K "_law_passed_right" "_law_passed_right" s_law_passed_right f fd) (k_Passed : MkC P w K mg base 1 "Passed" C (SpI C ["one", "other"])) (c_Passed_shows : MtC P w K mg base 2 C "shows" (SpD 3 (R_Passed_shows K C))) (c_law_passed : Cl P w K mg base L2.CX0 1 "_law_passed" (SpD 4 (R_law_passed K)))
    (c_law_says : Cl P w K mg base L2.CX0 1 "_law_says" (SpD 2 (R_law_says K))) (C_Passed : Cls K C) (n_Passed_one : NoAttr K C "one") (n_Passed_other : NoAttr K C "other") : FnOk P w K mg base L2.CX0 3 f fd ["_law_one", "_law_other", "_law_first", "_law_second"] (SpD 4 (R_law_passed_right K)) := by
  refine def_ok F sc_law_passed_right rfl fun cdv A outer s Hf H as o E hr hR => ?_
  obtain ⟨a, b, x, y, W, rfl, ha, hb, hl, rfl⟩ := hR
  refine ⟨_, (pss_cons (ps_set (i := 4) sc_law_passed_right.nd rfl (by first | exact Or.inl rfl | exact Or.inr rfl) (by exact (pe_cl c_law_passed hr (by decide) (by rfl) (pa_cons (pv 0) (pa_cons (pv 1) (pa_cons (pv 2) (pa_cons (pv 3) pa_nil)))))))
      (pss_cons (ps_set (i := 5) sc_law_passed_right.nd rfl (by first | exact Or.inl rfl | exact Or.inr rfl) (by exact (pe_mkc k_Passed hr (by decide) (by rfl) (pa_cons (pv 2) (pa_cons (pv 3) pa_nil)))))
      (pss_one (ps_ret (pe_and (pe_cmpR (op_eqDK K hr) (pe_tup (pa_cons (pe_fldK K (pv 5)) (pa_cons (pe_fldK K (pv 5)) pa_nil))) (pe_tup (pa_cons (pv 2) (pa_cons (pv 3) pa_nil))) (nomark _)) (pe_one (by exact (pe_cl c_law_says hr (by decide) (by rfl) (pa_cons (by exact (pe_mtc c_Passed_shows hr (by decide) (pv 5) (pa_cons (pv 0) (pa_cons (pv 1) pa_nil)))) (pa_cons (pv 4) pa_nil)))))))))), ?_⟩
  change Rn _ _ [.as (Dt K (DT a)), .as (Dt K (DT b)), .as (Dt K (.int x)), .as (Dt K (.int y)), .un, .un] _
  apply rn_seq
  refine rn_asg (a := Dt K (.bool (passM a b W x y))) (ev_call (as := [Dt K (DT a), Dt K (DT b), Dt K (.int x), Dt K (.int y)]) (es_cons (ev_var rfl) (es_cons (ev_var rfl) (es_cons (ev_var rfl) (es_cons (ev_var rfl) es_nil)))) ⟨x, y, a, b, W, rfl, ha, hb, hl, rfl⟩ rfl) ?_
  dsimp only [List.set]
  apply rn_seq
  refine rn_asg (a := PassA K C x y) (ev_make (es_cons (ev_var rfl) (es_cons (ev_var rfl) es_nil)) rfl) ?_
  dsimp only [List.set]
  have two : ∀ {Γ : List Sl} {ta tb : TE}, EvA ta Γ (Dt K (.int x)) → EvA tb Γ (Dt K (.int y)) → EvA (tTup (tCons ta (tCons tb tNil))) Γ (Dt K (DP (x, y))) := fun h1 h2 => ev_tupD (ed_cons h1 (ed_cons h2 ed_nil)) (by simp [sizeLine_eq])
  refine rn_ret ((ev_andV (ev_eqD (d := DP (x, y)) (e := DP (x, y)) (two (ev_fld (C := C) (f := "one") (ev_var rfl) C_Passed n_Passed_one rfl) (ev_fld (C := C) (f := "other") (ev_var rfl) C_Passed n_Passed_other rfl)) (two (ev_var rfl) (ev_var rfl)) (sh_DP.shaped _) (sh_DP.shaped _)) fun _ => ev_call (as := [Dt K (.bool (passM a b W x y)), Dt K (.bool (passM a b W x y))]) (es_cons (ev_meth (C := C) (fs := [("one", Dt K (.int x)), ("other", Dt K (.int y))]) (R := R_Passed_shows K C) (as := [Dt K (DT a), Dt K (DT b)]) (ev_var rfl) (es_cons (ev_var rfl) (es_cons (ev_var rfl) es_nil)) ⟨x, y, a, b, W, rfl, ha, hb, hl, rfl⟩ rfl rfl) (es_cons (ev_var rfl) es_nil)) ⟨_, _, rfl, rfl⟩ rfl).is (by rw [eq_DP]; simp)) (As.le_refl _)
end
abbrev s_law_right : Stmt := topS 27
theorem sc_law_right : FnScope ["_law_one", "_law_other", "_law_slides", "_law_cell", "_law_at", "_law_letter", "_law_some", "_law_crossed_here", "_law_steps_here", "_law_more", "_law_farther", "_law_many", "_law_first", "_law_second"] ["_law_one", "_law_other", "_law_slides", "_law_cell"] (defScope s_law_right) :=
  ⟨rfl, rfl, rfl, by decide +kernel, rfl, by decide +kernel, by decide +kernel⟩
section
variable {P : Program} {w : World} {K : PySem.W.Frag} {mg : Str → Option Value} {base : Heap} {Γ : List Sl} {c : Cb} {k : Kt}
def signOf (c : Int) : Nat := [117, 100, 108, 114, 120, 32, 85].getD (c % 7).toNat 0
theorem sign_lett (c : Int) : Lett (signOf c) := by
  have h1 := Int.emod_lt_of_pos c (show (0 : Int) < 7 by decide)
  have h2 := Int.emod_nonneg c (show (7 : Int) ≠ 0 by decide)
  unfold signOf
  have : (c % 7).toNat = 0 ∨ (c % 7).toNat = 1 ∨ (c % 7).toNat = 2 ∨ (c % 7).toNat = 3 ∨ (c % 7).toNat = 4 ∨ (c % 7).toNat = 5 ∨ (c % 7).toNat = 6 := by omega
  rcases this with h | h | h | h | h | h | h <;> rw [h]
  · exact .inl rfl
  · exact .inl rfl
  · exact .inl rfl
  · exact .inl rfl
  · exact .inr (.inl rfl)
  · exact .inr (.inr (.inr (.inl rfl)))
  · exact .inr (.inr (.inl rfl))
theorem ev_sign {te : TE} {c : Int} (h : EvA te Γ (Dt K (.int c))) : EvA (tOp rIxS (tC (V.str "udlrx U")) (tOp (rI (fun _ j => 0 < j) fun i j => V.int (i % j)) te (tC (V.int 7)))) Γ (Dt K (DS [signOf c])) := by
  refine ev_ixS ev_str (ev_Ii (g := fun i j => i % j) h ev_int (by decide)) (by decide) ?_
  have h1 := Int.emod_lt_of_pos c (show (0 : Int) < 7 by decide)
  have h2 := Int.emod_nonneg c (show (7 : Int) ≠ 0 by decide)
  unfold signOf
  generalize c % 7 = m at h1 h2 ⊢
  obtain rfl | rfl | rfl | rfl | rfl | rfl | rfl : m = 0 ∨ m = 1 ∨ m = 2 ∨ m = 3 ∨ m = 4 ∨ m = 5 ∨ m = 6 := by omega
  all_goals rfl
theorem ev_app {ta tb : TE} {x y : List Nat} (h1 : EvA ta Γ (Dt K (DS x))) (h2 : EvA tb Γ (Dt K (DS y))) (h3 : x.length + y.length ≤ 1000000) : EvA (tOp rAddStr ta tb) Γ (Dt K (DS (x ++ y))) := (ev_addStr h1 h2 (by rw [SX.S_len, SX.S_len, sizeLine_eq]; omega)).is (by rw [SX.S_cat])
def R_law_right (K : PySem.W.Frag) (as : List As) (o : Outc) : Prop := ∃ (a b : List (List Int)) (l : List Nat) (z : Int) (W : Nat), as = [Dt K (DT a), Dt K (DT b), Dt K (DS l), Dt K (.int z)] ∧ TrayOk a W ∧ TrayOk b W ∧ a.length = b.length ∧ (∀ c ∈ l, Lett c) ∧ l.length ≤ 1000 ∧ o = .ret (Dt K (.bool true))
theorem ok_law_right {f : Addr} {fd : FuncData} (F : L2.Fun K "_law_right" "_law_right" s_law_right f fd) (c_law_led_right : Cl P w K mg base L2.CX0 5 "_law_led_right" (SpD 3 (R_law_led_right K))) (c_law_odd_right : Cl P w K mg base L2.CX0 4 "_law_odd_right" (SpD 4 (R_law_odd_right K))) (c_law_passed_right : Cl P w K mg base L2.CX0 3 "_law_passed_right" (SpD 4 (R_law_passed_right K)))
    (c_law_crossed : Cl P w K mg base L2.CX0 1 "_law_crossed" (SpD 2 (R_law_crossed K))) (c_law_steps : Cl P w K mg base L2.CX0 2 "_law_steps" (SpD 2 (R_law_steps K))) (n_len : mg "len" = none) : FnOk P w K mg base L2.CX0 6 f fd ["_law_one", "_law_other", "_law_slides", "_law_cell"] (SpD 4 (R_law_right K)) := by
  refine def_ok F sc_law_right rfl fun cdv A outer s Hf H as o E hr hR => ?_
  obtain ⟨a, b, l, z, W, rfl, ha, hb, hl, hle, hll, rfl⟩ := hR
  refine ⟨_, (pss_cons (ps_set (i := 4) sc_law_right.nd rfl (by first | exact Or.inl rfl | exact Or.inr rfl) (pe_op op_mod (pe_op op_fdiv (pv 3) pe_int) (pe_op op_add (by exact (pe_callB call_lenS (by rfl) n_len (by decide +kernel) (pa_cons (pv 2) pa_nil))) pe_int)))
      (pss_cons (ps_set (i := 5) sc_law_right.nd rfl (by first | exact Or.inl rfl | exact Or.inr rfl) (pe_ix ix_str pe_str (pe_op op_mod (pe_op op_fdiv (pv 3) pe_int) pe_int) (fun _ _ => rfl)))
      (pss_cons (ps_for PassesOwn.never rfl (pi_listK K (pe_lst (pa_cons (pv 2) (pa_cons (pe_op op_addStr (pe_slice sl_str (pv 2) po_none (po_some (pv 4))) (pe_slice sl_str (pv 2) (po_some (pe_op op_add (pv 4) pe_int)) po_none)) (pa_cons (pe_op op_addStr (pe_op op_addStr (pe_slice sl_str (pv 2) po_none (po_some (pv 4))) (pv 5)) (pe_slice sl_str (pv 2) (po_some (pv 4)) po_none)) (pa_cons (pe_revS (pv 2)) (pa_cons pe_str (pa_cons (pv 5) pa_nil)))))))) (pg_name (i := 6) sc_law_right.nd rfl (by first | exact Or.inl rfl | exact Or.inr rfl)) (pss_one (ps_if (pt_not (pt_val (by exact (pe_cl c_law_led_right hr (by decide) (by rfl) (pa_cons (pv 0) (pa_cons (pv 1) (pa_cons (pv 6) pa_nil))))))) (pss_one (ps_ret pe_bl)) pss_nil)))
      (pss_cons (ps_set (i := 7) sc_law_right.nd rfl (by first | exact Or.inl rfl | exact Or.inr rfl) (by exact (pe_cl c_law_crossed hr (by decide) (by rfl) (pa_cons (pv 0) (pa_cons (pv 1) pa_nil)))))
      (pss_cons (ps_set (i := 8) sc_law_right.nd rfl (by first | exact Or.inl rfl | exact Or.inr rfl) (by exact (pe_cl c_law_steps hr (by decide) (by rfl) (pa_cons (pv 0) (pa_cons (pv 1) pa_nil)))))
      (pss_cons (ps_for PassesOwn.never rfl (pi_listK K (pe_lst (pa_cons (pe_tup (pa_cons pe_int (pa_cons pe_int pa_nil))) (pa_cons (pe_tup (pa_cons pe_int (pa_cons pe_int pa_nil))) (pa_cons (pe_tup (pa_cons pe_int (pa_cons pe_int pa_nil))) (pa_cons (pe_tup (pa_cons pe_int (pa_cons (pe_un un_neg pe_int) pa_nil))) (pa_cons (pe_tup (pa_cons (pe_un un_neg pe_int) (pa_cons pe_int pa_nil))) (pa_cons (pe_tup (pa_cons pe_int (pa_cons pe_int pa_nil))) pa_nil)))))))) (pg_tupK K (n := 2) (pgs_cons (pg_name (i := 9) sc_law_right.nd rfl (by first | exact Or.inl rfl | exact Or.inr rfl)) (pgs_cons (pg_name (i := 10) sc_law_right.nd rfl (by first | exact Or.inl rfl | exact Or.inr rfl)) pgs_nil))) (pss_one (ps_if (pt_not (pt_val (by exact (pe_cl c_law_odd_right hr (by decide) (by rfl) (pa_cons (pv 0) (pa_cons (pv 1) (pa_cons (pe_op op_add (pv 7) (pv 9)) (pa_cons (pe_op op_add (pv 8) (pv 10)) pa_nil)))))))) (pss_one (ps_ret pe_bl)) pss_nil)))
      (pss_cons (ps_set (i := 11) sc_law_right.nd rfl (by first | exact Or.inl rfl | exact Or.inr rfl) (pe_op op_mulB (by exact (pe_callB (call_lenK K) (by rfl) n_len (by decide +kernel) (pa_cons (pv 0) pa_nil))) (by exact (pe_callB (call_lenK K) (by rfl) n_len (by decide +kernel) (pa_cons (pe_ix (ix_listK K) (pv 0) pe_int (fun _ _ => rfl)) pa_nil)))))
      (pss_cons (ps_for PassesOwn.never rfl (pi_listK K (pe_lst (pa_cons (pe_tup (pa_cons (pe_op op_sub (pe_op op_mod (pv 3) (pe_op op_add (pv 11) pe_int)) pe_int) (pa_cons (pe_op op_sub (pe_op op_mod (pe_op op_fdiv (pv 3) pe_int) (pe_op op_add (pv 11) pe_int)) pe_int) pa_nil))) (pa_cons (pe_tup (pa_cons pe_int (pa_cons pe_int pa_nil))) (pa_cons (pe_tup (pa_cons pe_int (pa_cons pe_int pa_nil))) (pa_cons (pe_tup (pa_cons pe_int (pa_cons pe_int pa_nil))) (pa_cons (pe_tup (pa_cons pe_int (pa_cons (pv 11) pa_nil))) pa_nil))))))) (pg_tupK K (n := 2) (pgs_cons (pg_name (i := 12) sc_law_right.nd rfl (by first | exact Or.inl rfl | exact Or.inr rfl)) (pgs_cons (pg_name (i := 13) sc_law_right.nd rfl (by first | exact Or.inl rfl | exact Or.inr rfl)) pgs_nil))) (pss_one (ps_if (pt_not (pt_val (by exact (pe_cl c_law_passed_right hr (by decide) (by rfl) (pa_cons (pv 0) (pa_cons (pv 1) (pa_cons (pv 12) (pa_cons (pv 13) pa_nil)))))))) (pss_one (ps_ret pe_bl)) pss_nil)))
      (pss_one (ps_ret pe_bl)))))))))), ?_⟩
  change Rn _ _ [.as (Dt K (DT a)), .as (Dt K (DT b)), .as (Dt K (DS l)), .as (Dt K (.int z)), .un, .un, .un, .un, .un, .un, .un, .un, .un, .un] _
  have q1 := Int.emod_lt_of_pos (z / 3) (show (0 : Int) < (l.length : Int) + 1 by omega)
  have q2 := Int.emod_nonneg (z / 3) (show (l.length : Int) + 1 ≠ 0 by omega)
  obtain ⟨at', hat⟩ : ∃ at' : Nat, at' = (z / 3 % ((l.length : Int) + 1)).toNat := ⟨_, rfl⟩
  apply rn_seq
  refine rn_asg (a := Dt K (.int (at' : Nat))) ((ev_Ii (g := fun i j => i % j) (ev_Ii (g := fun i j => i / j) (ev_var rfl) ev_int ⟨by omega, by omega⟩) (ev_I0i (g := fun i j => i + j) (ev_lenSD (x := SX.S l) (ev_var rfl) (by rw [SX.S_len, sizeLine_eq]; omega)) ev_int) (by rw [SX.S_len]; omega)).is (by rw [SX.S_len]; congr 1; omega)) ?_
  dsimp only [List.set]
  apply rn_seq
  refine rn_asg (a := Dt K (DS [signOf (z / 5)])) (ev_sign (ev_Ii (g := fun i j => i / j) (ev_var rfl) ev_int ⟨by omega, by omega⟩)) ?_
  dsimp only [List.set]
  have hsl := sign_lett (z / 5)
  generalize signOf (z / 5) = sg at hsl
  obtain ⟨somes, hsomes⟩ : ∃ somes : List (List Nat), somes = [l, l.take at' ++ l.drop (at' + 1), l.take at' ++ [sg] ++ l.drop at', l.reverse, [], [sg]] := ⟨_, rfl⟩
  have hss : ∀ q ∈ somes, (∀ c ∈ q, Lett c) ∧ q.length ≤ 1000000 := by
    intro q hq
    rw [hsomes] at hq
    simp only [List.mem_cons, List.not_mem_nil, or_false] at hq
    rcases hq with rfl | rfl | rfl | rfl | rfl | rfl
    · exact ⟨hle, by omega⟩
    · refine ⟨fun c hc => ?_, by rw [List.length_append, List.length_take, List.length_drop]; omega⟩
      rcases List.mem_append.mp hc with h | h
      · exact hle c (List.mem_of_mem_take h)
      · exact hle c (List.mem_of_mem_drop h)
    · refine ⟨fun c hc => ?_, by rw [List.length_append, List.length_append, List.length_take, List.length_drop]; simp; omega⟩
      rcases List.mem_append.mp hc with h | h
      · rcases List.mem_append.mp h with h | h
        · exact hle c (List.mem_of_mem_take h)
        · obtain rfl : c = sg := by simpa using h
          exact hsl
      · exact hle c (List.mem_of_mem_drop h)
    · exact ⟨fun c hc => hle c (List.mem_reverse.mp hc), by rw [List.length_reverse]; omega⟩
    · exact ⟨fun c hc => (nomatch hc), by simp⟩
    · exact ⟨fun c hc => by obtain rfl : c = sg := by simpa using hc
                            exact hsl, by simp⟩
  apply rn_seq
  refine rn_for (fun i Γ => Γ = [.as (Dt K (DT a)), .as (Dt K (DT b)), .as (Dt K (DS l)), .as (Dt K (.int z)), .as (Dt K (.int (at' : Nat))), .as (Dt K (DS [sg])), .un, .un, .un, .un, .un, .un, .un, .un]) (ei_listD (ds := somes.map DS) ?_) rfl ?_ ?_
  · rw [hsomes]
    have tk : ∀ {Γ : List Sl}, Γ[2]? = some (.as (Dt K (DS l))) → Γ[4]? = some (.as (Dt K (.int (at' : Nat)))) → EvA (tSl rSlS (tVar 2) tNoPart (tPart (tVar 4))) Γ (Dt K (DS (l.take at'))) := fun h2 h4 => (ev_slS (x := SX.S l) (ev_var h2) eo_none (eo_some (ev_var (a := Dt K (.int ((at' : Nat) : Int))) h4)) (by rw [SX.S_len, sizeLine_eq]; omega)).is (by rw [C8.cutS_slice, SX.slice_to (by omega), Int.toNat_natCast])
    refine ev_lst (ds := [l, l.take at' ++ l.drop (at' + 1), l.take at' ++ [sg] ++ l.drop at', l.reverse, [], [sg]].map DS) (es_cons (ev_var rfl) (es_cons (ev_app (tk rfl rfl) ?_ (by rw [List.length_take, List.length_drop]; omega)) (es_cons (ev_app (ev_app (tk rfl rfl) (ev_var rfl) (by rw [List.length_take]; simp; omega)) ?_ (by rw [List.length_append, List.length_take, List.length_drop]; simp; omega)) (es_cons (ev_revS (x := SX.S l) (ev_var rfl) (by rw [SX.S_len, sizeLine_eq]; omega)) (es_cons ev_str (es_cons (ev_var rfl) es_nil)))))) (by simp [sizeLine_eq])
    · exact (ev_slS (x := SX.S l) (ev_var rfl) (eo_some (K := K) (ev_I0i (g := fun i j => i + j) (ev_var (a := Dt K (.int ((at' : Nat) : Int))) rfl) ev_int)) eo_none (by rw [SX.S_len, sizeLine_eq]; omega)).is (by rw [C8.cutS_slice, SX.slice_from (by omega)]; congr 3)
    · exact (ev_slS (x := SX.S l) (ev_var rfl) (eo_some (ev_var (a := Dt K (.int ((at' : Nat) : Int))) rfl)) eo_none (by rw [SX.S_len, sizeLine_eq]; omega)).is (by rw [C8.cutS_slice, SX.slice_from (by omega), Int.toNat_natCast])
  · rintro c' sb i v Γ1 rfl hv
    rw [List.getElem?_map, List.getElem?_map] at hv
    cases hc : somes[i]? with
    | none => rw [hc] at hv; cases hv
    | some q =>
      rw [hc] at hv
      obtain rfl := Option.some.inj hv
      obtain ⟨hl1, hl2⟩ := hss q (List.mem_of_getElem? hc)
      refine ⟨_, eg_name, ?_⟩
      dsimp only [List.set]
      refine rn_if (b := !true) (eb_not (eb_B (ev_call (as := [Dt K (DT a), Dt K (DT b), Dt K (DS q)]) (es_cons (ev_var rfl) (es_cons (ev_var rfl) (es_cons (ev_var rfl) es_nil))) ⟨a, b, q, W, rfl, ha, hl1, hl2, rfl⟩ rfl))) (fun h => nomatch h) fun _ => ?_
      apply rn_next
      exact ⟨_, by walk_at "gle", rfl⟩
  rintro Γ1 rfl
  dsimp only
  apply rn_seq
  refine rn_asg (ev_call (as := [Dt K (DT a), Dt K (DT b)]) (es_cons (ev_var rfl) (es_cons (ev_var rfl) es_nil)) ⟨a, b, W, rfl, ha, hb, hl, rfl⟩ rfl) ?_
  dsimp only [List.set]
  apply rn_seq
  refine rn_asg (ev_call (as := [Dt K (DT a), Dt K (DT b)]) (es_cons (ev_var rfl) (es_cons (ev_var rfl) es_nil)) ⟨a, b, W, rfl, ha, hb, rfl⟩ rfl) ?_
  dsimp only [List.set]
  have two : ∀ {Γ : List Sl} {ta tb : TE} {x y : Int}, EvA ta Γ (Dt K (.int x)) → EvA tb Γ (Dt K (.int y)) → EvA (tTup (tCons ta (tCons tb tNil))) Γ (Dt K (DP (x, y))) := fun h1 h2 => ev_tupD (ed_cons h1 (ed_cons h2 ed_nil)) (by simp [sizeLine_eq])
  apply rn_seq
  refine rn_for (fun i Γ => Γ = [.as (Dt K (DT a)), .as (Dt K (DT b)), .as (Dt K (DS l)), .as (Dt K (.int z)), .as (Dt K (.int (at' : Nat))), .as (Dt K (DS [sg])), .un, .as (Dt K (.int ((crossM a b : Nat) : Int))), .as (Dt K (.int ((stepsM a b : Nat) : Int))), .un, .un, .un, .un, .un]) (ei_listD (ds := ([(0, 0), (1, 0), (0, 1), (1, -1), (-1, 0), (2, 0)] : List (Int × Int)).map DP) (ev_lst (es_cons (two ev_int ev_int) (es_cons (two ev_int ev_int) (es_cons (two ev_int ev_int) (es_cons (two ev_int (ev_negI ev_int)) (es_cons (two (ev_negI ev_int) ev_int) (es_cons (two ev_int ev_int) es_nil)))))) (by simp [sizeLine_eq]))) rfl ?_ ?_
  · rintro c' sb i v Γ1 rfl hv
    rw [List.getElem?_map, List.getElem?_map] at hv
    cases hc : ([(0, 0), (1, 0), (0, 1), (1, -1), (-1, 0), (2, 0)] : List (Int × Int))[i]? with
    | none => rw [hc] at hv; cases hv
    | some q =>
      rw [hc] at hv
      obtain rfl := Option.some.inj hv
      obtain ⟨q1, q2⟩ := q
      refine ⟨_, eg_tup (ds := [.int q1, .int q2]) (eg_cons eg_name (eg_cons eg_name eg_nil)) rfl, ?_⟩
      dsimp only [List.set]
      refine rn_if (b := !true) (eb_not (eb_B (ev_call (as := [Dt K (DT a), Dt K (DT b), Dt K (.int (((crossM a b : Nat) : Int) + q1)), Dt K (.int (((stepsM a b : Nat) : Int) + q2))]) (es_cons (ev_var rfl) (es_cons (ev_var rfl) (es_cons (ev_I0i (g := fun i j => i + j) (ev_var rfl) (ev_var rfl)) (es_cons (ev_I0i (g := fun i j => i + j) (ev_var rfl) (ev_var rfl)) es_nil)))) ⟨a, b, _, _, W, rfl, ha, hb, hl, rfl⟩ rfl))) (fun h => nomatch h) fun _ => ?_
      apply rn_next
      exact ⟨_, by walk_at "gle", rfl⟩
  rintro Γ1 rfl
  dsimp only
  have hal := ha.len
  have haw := ha.wid
  have kl := fun Γ0 => ev_lenLD (K := K) (Γ := .as (Dt K (DT a)) :: Γ0) (el_dt (ds := a.map DI) (ev_var (i := 0) rfl))
  have kw := fun Γ0 => ev_lenLD (K := K) (Γ := .as (Dt K (DT a)) :: Γ0) (el_dt (ds := (a.getD 0 []).map PyData.int) (ev_ixLD (el_dt (ds := a.map DI) (ev_var (i := 0) rfl)) (ev_int (i := 0)) (at_row (getq [] (by omega : 0 < a.length)) rfl)))
  simp only [List.length_map, ha.rect _ (getD_mem (by omega : 0 < a.length))] at kl kw
  apply rn_seq
  refine rn_asg (ev_Ii (g := fun i j => i * j) (kl _) (kw _) (mulOk (a := 10) (b := 10) (by omega) (by omega) (by decide) (by decide) (by decide))) ?_
  dsimp only [List.set]
  have hmn : 0 ≤ (a.length : Int) * (W : Int) := Int.mul_nonneg (by omega) (by omega)
  generalize (a.length : Int) * (W : Int) = mn at hmn
  apply rn_seq
  refine rn_for (fun i Γ => Γ = [.as (Dt K (DT a)), .as (Dt K (DT b)), .as (Dt K (DS l)), .as (Dt K (.int z)), .as (Dt K (.int (at' : Nat))), .as (Dt K (DS [sg])), .un, .as (Dt K (.int ((crossM a b : Nat) : Int))), .as (Dt K (.int ((stepsM a b : Nat) : Int))), .un, .un, .as (Dt K (.int mn)), .un, .un]) (ei_listD (ds := ([(z % (mn + 2) - 1, z / 9 % (mn + 2) - 1), (1, 2), (2, 1), (0, 1), (1, mn)] : List (Int × Int)).map DP) (ev_lst (es_cons (two (ev_I0i (g := fun i j => i - j) (ev_Ii (g := fun i j => i % j) (ev_var rfl) (ev_I0i (g := fun i j => i + j) (ev_var rfl) ev_int) (by omega)) ev_int) (ev_I0i (g := fun i j => i - j) (ev_Ii (g := fun i j => i % j) (ev_Ii (g := fun i j => i / j) (ev_var rfl) ev_int ⟨by omega, by omega⟩) (ev_I0i (g := fun i j => i + j) (ev_var rfl) ev_int) (by omega)) ev_int)) (es_cons (two ev_int ev_int) (es_cons (two ev_int ev_int) (es_cons (two ev_int ev_int) (es_cons (two ev_int (ev_var rfl)) es_nil))))) (by simp [sizeLine_eq]))) rfl ?_ ?_
  · rintro c' sb i v Γ1 rfl hv
    rw [List.getElem?_map, List.getElem?_map] at hv
    cases hc : ([(z % (mn + 2) - 1, z / 9 % (mn + 2) - 1), (1, 2), (2, 1), (0, 1), (1, mn)] : List (Int × Int))[i]? with
    | none => rw [hc] at hv; cases hv
    | some q =>
      rw [hc] at hv
      obtain rfl := Option.some.inj hv
      obtain ⟨q1, q2⟩ := q
      refine ⟨_, eg_tup (ds := [.int q1, .int q2]) (eg_cons eg_name (eg_cons eg_name eg_nil)) rfl, ?_⟩
      dsimp only [List.set]
      refine rn_if (b := !true) (eb_not (eb_B (ev_call (as := [Dt K (DT a), Dt K (DT b), Dt K (.int q1), Dt K (.int q2)]) (es_cons (ev_var rfl) (es_cons (ev_var rfl) (es_cons (ev_var rfl) (es_cons (ev_var rfl) es_nil)))) ⟨a, b, _, _, W, rfl, ha, hb, hl, rfl⟩ rfl))) (fun h => nomatch h) fun _ => ?_
      apply rn_next
      exact ⟨_, by walk_at "gle", rfl⟩
  rintro Γ1 rfl
  dsimp only
  exact rn_ret (a := Dt K (.bool true)) ev_bl (As.le_refl _)
end
abbrev s_law : Stmt := topS 28
theorem sc_law : FnScope ["_law_script", "_law_cells", "_law_mixed", "_law_rows", "_law_columns", "_law_one", "_law_other", "_law_slides", "_law_led", "_law_cell", "_law_at"] ["_law_script"] (defScope s_law) :=
  ⟨rfl, rfl, rfl, by decide +kernel, rfl, by decide +kernel, by decide +kernel⟩
section
variable {P : Program} {w : World} {K : PySem.W.Frag} {mg : Str → Option Value} {base : Heap} {Γ : List Sl} {c : Cb} {k : Kt}
def R_law (K : PySem.W.Frag) (as : List As) (o : Outc) : Prop := ∃ ns : List Int, as = [SqA K ns] ∧ ns.length ≤ 63 ∧ (∀ z ∈ ns, Builtin.Int.intBits z ≤ 1048576) ∧ o = .ret (Dt K (.bool true))
theorem ok_law {f : Addr} {fd : FuncData} {CL CP : Addr} (F : L2.Fun K "law" "law" s_law f fd)
    (c_law_tray : Cl P w K mg base L2.CX0 2 "_law_tray" (SpD 3 (R_law_tray K))) (c_law_digits : Cl P w K mg base L2.CX0 1 "_law_digits" (SpD 2 (R_law_digits K))) (c_law_walk : Cl P w K mg base L2.CX0 2 "_law_walk" (SpD 2 (R_law_walk K)))
    (c_law_slid : Cl P w K mg base L2.CX0 2 "_law_slid" (SpD 2 (R_law_slid K))) (c_law_right : Cl P w K mg base L2.CX0 6 "_law_right" (SpD 4 (R_law_right K))) (c_law_says : Cl P w K mg base L2.CX0 1 "_law_says" (SpD 2 (R_law_says K)))
    (k_Led : MkC P w K mg base 1 "Led" CL (SpI CL ["slides"])) (c_Led_shows : MtC P w K mg base 4 CL "shows" (SpD 3 (R_Led_shows K CL))) (k_Passed : MkC P w K mg base 1 "Passed" CP (SpI CP ["one", "other"])) (c_Passed_shows : MtC P w K mg base 2 CP "shows" (SpD 3 (R_Passed_shows K CP)))
    (n_sum : mg "sum" = none) (n_enumerate : mg "enumerate" = none) : FnOk P w K mg base L2.CX0 7 f fd ["_law_script"] (SpD 1 (R_law K)) := by
  refine def_ok F sc_law rfl fun cdv A outer s Hf H as o E hr hR => ?_
  obtain ⟨ns, rfl, hn, hb, rfl⟩ := hR
  refine ⟨_, (pss_cons (ps_set (i := 1) sc_law.nd rfl (by first | exact Or.inl rfl | exact Or.inr rfl) (pe_op op_cat (pe_slice (sl_listK K) (pv 0) po_none (po_some pe_int)) (pe_lst (pa_cons pe_int (pa_cons pe_int pa_nil)))))
      (pss_cons (ps_set (i := 2) sc_law.nd rfl (by first | exact Or.inl rfl | exact Or.inr rfl) (by exact (pe_callB (cr_sumK K) (by rfl) n_sum (by decide +kernel) (pa_cons (pv 1) pa_nil))))
      (pss_cons (ps_par (i := 3) (j := 4) (by rfl) sc_law.nd rfl rfl (by decide) rfl rfl (pa_cons (pe_op op_add pe_int (pe_op op_mod (pv 2) pe_int)) (pa_cons (pe_op op_add pe_int (pe_op op_mod (pe_op op_fdiv (pv 2) pe_int) pe_int)) pa_nil)) (by rfl))
      (pss_cons (ps_if (pt_cmpR op_eq (pe_op op_mod (pe_op op_fdiv (pv 2) pe_int) pe_int) pe_int (nomark _)) (pss_one (ps_set (i := 3) sc_law.nd rfl (by first | exact Or.inl rfl | exact Or.inr rfl) pe_int)) pss_nil)
      (pss_cons (ps_set (i := 5) sc_law.nd rfl (by first | exact Or.inl rfl | exact Or.inr rfl) (by exact (pe_cl c_law_tray hr (by decide) (by rfl) (pa_cons (by exact (pe_cl c_law_digits hr (by decide) (by rfl) (pa_cons (pe_ix (ix_listK K) (pv 1) pe_int (fun _ _ => rfl)) (pa_cons pe_int pa_nil)))) (pa_cons (pv 3) (pa_cons (pv 4) pa_nil))))))
      (pss_cons (ps_set (i := 6) sc_law.nd rfl (by first | exact Or.inl rfl | exact Or.inr rfl) (by exact (pe_cl c_law_tray hr (by decide) (by rfl) (pa_cons (by exact (pe_cl c_law_digits hr (by decide) (by rfl) (pa_cons (pe_ix (ix_listK K) (pv 1) pe_int (fun _ _ => rfl)) (pa_cons pe_int pa_nil)))) (pa_cons (pv 3) (pa_cons (pv 4) pa_nil))))))
      (pss_cons (ps_set (i := 7) sc_law.nd rfl (by first | exact Or.inl rfl | exact Or.inr rfl) (by exact (pe_cl c_law_walk hr (by decide) (by rfl) (pa_cons (pv 5) (pa_cons (pe_lc (own := [("_law_cell", 9), ("_law_at", 10)]) (g := (gTup K 2 (gCons (gName 10) (gCons (gName 9) gNil)))) (by rfl) sc_law.nd (pi_enumK K (by rfl) n_enumerate (pa_cons (pv 1) pa_nil)) (blkOk_by (N := ["_law_script", "_law_cells", "_law_mixed", "_law_rows", "_law_columns", "_law_one", "_law_other", "_law_slides", "_law_led", "_law_cell", "_law_at"]) (sc := defScope s_law) (own := [("_law_cell", 9), ("_law_at", 10)]) (by decide +kernel)) (fun _ _ _ _ _ => (pg_tupK K (n := 2) (pgs_cons (pg_name (i := 10) sc_law.nd rfl (by first | exact Or.inl rfl | exact Or.inr rfl)) (pgs_cons (pg_name (i := 9) sc_law.nd rfl (by first | exact Or.inl rfl | exact Or.inr rfl)) pgs_nil)))) (fun _ _ _ _ _ => pts_nil) (fun _ _ _ _ _ => (by exact (pe_cl c_law_digits hr (by decide) (by rfl) (pa_cons (pv 9) (pa_cons (pv 10) pa_nil)))))) pa_nil)))))
      (pss_cons (ps_set (i := 8) sc_law.nd rfl (by first | exact Or.inl rfl | exact Or.inr rfl) (by exact (pe_cl c_law_slid hr (by decide) (by rfl) (pa_cons (pv 5) (pa_cons (pv 7) pa_nil)))))
      (pss_cons (ps_for PassesOwn.never rfl (pi_listK K (pe_op op_cat (pe_slice (sl_listK K) (pv 1) po_none (po_some pe_int)) (pe_lst (pa_cons (pv 2) pa_nil)))) (pg_name (i := 9) sc_law.nd rfl (by first | exact Or.inl rfl | exact Or.inr rfl)) (pss_one (ps_if (PW.pt (pw_or (pt_not (pt_val (by exact (pe_cl c_law_right hr (by decide) (by rfl) (pa_cons (pv 5) (pa_cons (pv 8) (pa_cons (pv 7) (pa_cons (pv 9) pa_nil)))))))) (pw_or1 (pt_not (pt_val (by exact (pe_cl c_law_right hr (by decide) (by rfl) (pa_cons (pv 5) (pa_cons (pv 6) (pa_cons (pv 7) (pa_cons (pv 9) pa_nil))))))))))) (pss_one (ps_ret pe_bl)) pss_nil)))
      (pss_cons (ps_if (pt_not (pt_val (by exact (pe_cl c_law_says hr (by decide) (by rfl) (pa_cons (by exact (pe_mtc c_Led_shows hr (by decide) (by exact (pe_mkc k_Led hr (by decide) (by rfl) (pa_cons pe_str pa_nil))) (pa_cons (pe_lst (pa_cons (pe_lst (pa_cons pe_int (pa_cons pe_int pa_nil))) pa_nil)) (pa_cons (pe_lst (pa_cons (pe_lst (pa_cons pe_int (pa_cons pe_int pa_nil))) pa_nil)) pa_nil)))) (pa_cons pe_bl pa_nil)))))) (pss_one (ps_ret pe_bl)) pss_nil)
      (pss_cons (ps_if (pt_not (pt_val (by exact (pe_cl c_law_says hr (by decide) (by rfl) (pa_cons (by exact (pe_mtc c_Led_shows hr (by decide) (by exact (pe_mkc k_Led hr (by decide) (by rfl) (pa_cons pe_str pa_nil))) (pa_cons (pe_lst (pa_cons (pe_lst (pa_cons pe_int pa_nil)) pa_nil)) (pa_cons (pe_lst (pa_cons (pe_lst (pa_cons pe_int pa_nil)) pa_nil)) pa_nil)))) (pa_cons pe_bl pa_nil)))))) (pss_one (ps_ret pe_bl)) pss_nil)
      (pss_one (ps_ret (by exact (pe_cl c_law_says hr (by decide) (by rfl) (pa_cons (by exact (pe_mtc c_Passed_shows hr (by decide) (by exact (pe_mkc k_Passed hr (by decide) (by rfl) (pa_cons pe_int (pa_cons pe_int pa_nil)))) (pa_cons (pe_lst (pa_cons (pe_lst (pa_cons pe_int (pa_cons pe_int (pa_cons pe_int pa_nil)))) pa_nil)) (pa_cons (pe_lst (pa_cons (pe_lst (pa_cons pe_int (pa_cons pe_int (pa_cons pe_int pa_nil)))) pa_nil)) pa_nil)))) (pa_cons pe_bl pa_nil))))))))))))))))), ?_⟩
  change Rn _ _ [.as (SqA K ns), .un, .un, .un, .un, .un, .un, .un, .un, .un, .un] _
  obtain ⟨cs, hcs⟩ : ∃ cs, cs = ns ++ [5, 8] := ⟨_, rfl⟩
  have hcl : cs.length ≤ 65 := by rw [hcs]; simp; omega
  have hc0 : 1 < cs.length := by rw [hcs]; simp
  have hbits : ∀ z ∈ cs, z.natAbs < 2 ^ 1048576 := by
    intro z hz
    rw [hcs] at hz
    have sm : ∀ q : Int, q.natAbs < 2 ^ 10 → q.natAbs < 2 ^ 1048576 := fun q h => Nat.lt_of_lt_of_le h (Nat.pow_le_pow_right (by decide) (by decide))
    rcases List.mem_append.mp hz with h | h
    · exact PySem.intBits_le_iff.mp (hb z h)
    · simp at h
      rcases h with rfl | rfl
      · exact sm 5 (by decide)
      · exact sm 8 (by decide)
  have hdig : ∀ (z b : Int), z ∈ cs → 0 ≤ b → b ≤ 1000 → R_law_digits K [Dt K (.int z), Dt K (.int b)] (.ret (Dt K (.int (digitsM z b)))) := fun z b hz h0 h1 => ⟨z, b, 1048576, rfl, hbits z hz, by decide, by decide, h0, h1, rfl⟩
  have hcut : cutA ns none (some 63) = ns := (cut_to (b := 63) rfl).trans (List.take_of_length_le hn)
  apply rn_seq
  refine rn_asgW (w := OL ((cs.map PyData.int).map (Dt K))) ?_ ?_
  · have k := ew_cat (Γ := [.as (SqA K ns), .un, .un, .un, .un, .un, .un, .un, .un, .un, .un]) (el_w (ew_slSq (te := tVar 0) (ns := ns) (ev_var rfl) eo_none (eo_some (ev_int (K := K) (i := 63))))) (el_w (ew_lstD (K := K) (ds := [.int 5, .int 8]) (ed_cons ev_int (ed_cons ev_int ed_nil)) (by simp [sizeLine_eq]))) (by rw [hcut]; simp [sizeLine_eq]; omega)
    rw [hcut] at k
    rw [hcs, List.map_append, List.map_append]
    exact k
  refine rn_fixD (i := 1) (ds := cs.map PyData.int) rfl ?_
  dsimp only [List.set]
  apply rn_seq
  refine rn_asg (a := Dt K (.int cs.sum)) (ev_sum (ns := cs) ?_) ?_
  · have k := el_dt (K := K) (ds := cs.map PyData.int) (ev_var (Γ := [.as (SqA K ns), .as (Dt K (.list (cs.map PyData.int))), .un, .un, .un, .un, .un, .un, .un, .un, .un]) (i := 1) rfl)
    rw [List.map_map] at k
    exact k
  dsimp only [List.set]
  generalize cs.sum = mx
  have b1 := Int.emod_lt_of_pos mx (show (0 : Int) < 5 by decide)
  have b2 := Int.emod_nonneg mx (show (5 : Int) ≠ 0 by decide)
  have b3 := Int.emod_lt_of_pos (mx / 5) (show (0 : Int) < 5 by decide)
  have b4 := Int.emod_nonneg (mx / 5) (show (5 : Int) ≠ 0 by decide)
  obtain ⟨r0, hr0⟩ : ∃ r : Nat, r = (1 + mx % 5).toNat := ⟨_, rfl⟩
  obtain ⟨w', hw1⟩ : ∃ r : Nat, r = (1 + mx / 5 % 5).toNat := ⟨_, rfl⟩
  have hw6 : 1 ≤ w' ∧ w' ≤ 6 := by omega
  apply rn_seq
  refine rn_par (a := Dt K (.int (r0 : Nat))) (b := Dt K (.int (w' : Nat))) (es_cons ((ev_I0i (g := fun i j => i + j) ev_int (ev_Ii (g := fun i j => i % j) (ev_var rfl) ev_int (by decide))).is (by congr 1; omega)) (es_cons ((ev_I0i (g := fun i j => i + j) ev_int (ev_Ii (g := fun i j => i % j) (ev_Ii (g := fun i j => i / j) (ev_var rfl) ev_int ⟨by omega, by omega⟩) ev_int (by decide))).is (by congr 1; omega)) es_nil)) ?_
  dsimp only [List.set]
  obtain ⟨r, hr1⟩ : ∃ r : Nat, r = if mx / 25 % 3 = 1 then 1 else r0 := ⟨_, rfl⟩
  have hr6 : 1 ≤ r ∧ r ≤ 6 := by rw [hr1]; split <;> omega
  apply rn_seq
  refine (show ∀ k' : Kt, k'.nx [.as (SqA K ns), .as (Dt K (.list (cs.map PyData.int))), .as (Dt K (.int mx)), .as (Dt K (.int (r : Nat))), .as (Dt K (.int (w' : Nat))), .un, .un, .un, .un, .un, .un] → Rn _ _ _ k' from fun k' n => ?_) _ ?_
  · refine rn_if (b := decide (mx / 25 % 3 = 1)) (eb_test (K := K) (ev_eqI (ev_Ii (g := fun i j => i % j) (ev_Ii (g := fun i j => i / j) (ev_var rfl) ev_int ⟨by omega, by omega⟩) ev_int (by decide)) ev_int)) (fun hbb => ?_) fun hbb => ?_
    · have hbb := of_decide_eq_true hbb
      refine rn_asg (a := Dt K (.int (r : Nat))) ((ev_int (i := 1)).is (by rw [hr1, if_pos hbb]; rfl)) n
    · have hbb := of_decide_eq_false hbb
      have e : r = r0 := by rw [hr1, if_neg hbb]
      rw [← e]
      exact rn_next n
  obtain ⟨t, ht⟩ : ∃ t, t = trayM (digitsM (cs.getD 0 0) 1) r w' := ⟨_, rfl⟩
  have hT : TrayOk t w' := by rw [ht]; exact trayM_ok hr6 hw6
  obtain ⟨u, hu⟩ : ∃ t, t = trayM (digitsM (cs.getD 1 0) 3) r w' := ⟨_, rfl⟩
  have hU : TrayOk u w' := by rw [hu]; exact trayM_ok hr6 hw6
  have htl : t.length = r := by rw [ht]; unfold trayM; rw [List.length_map, List.length_range]
  have hul : u.length = r := by rw [hu]; unfold trayM; rw [List.length_map, List.length_range]
  have hTl : t.length ≤ 6 := hT.len.2
  apply rn_seq
  refine rn_asg (a := Dt K (DT t)) (ev_call (as := [Dt K (.int (digitsM (cs.getD 0 0) 1)), Dt K (.int (r : Nat)), Dt K (.int (w' : Nat))])
    (es_cons (ev_call (as := [Dt K (.int (cs.getD 0 0)), Dt K (.int 1)]) (es_cons (ev_ixLD (el_dt (ev_var rfl)) ev_int (at_int (j := 0) (getq 0 (by omega)) rfl)) (es_cons ev_int es_nil)) (hdig _ 1 (getD_mem (by omega)) (by decide) (by decide)) rfl)
      (es_cons (ev_var rfl) (es_cons (ev_var rfl) es_nil))) ⟨_, r, w', rfl, hr6, hw6, by rw [ht]⟩ rfl) ?_
  dsimp only [List.set]
  apply rn_seq
  refine rn_asg (a := Dt K (DT u)) (ev_call (as := [Dt K (.int (digitsM (cs.getD 1 0) 3)), Dt K (.int (r : Nat)), Dt K (.int (w' : Nat))])
    (es_cons (ev_call (as := [Dt K (.int (cs.getD 1 0)), Dt K (.int 3)]) (es_cons (ev_ixLD (el_dt (ev_var rfl)) ev_int (at_int (j := 1) (getq 0 hc0) rfl)) (es_cons ev_int es_nil)) (hdig _ 3 (getD_mem hc0) (by decide) (by decide)) rfl)
      (es_cons (ev_var rfl) (es_cons (ev_var rfl) es_nil))) ⟨_, r, w', rfl, hr6, hw6, by rw [hu]⟩ rfl) ?_
  dsimp only [List.set]
  -- slides
  obtain ⟨ds, hds⟩ : ∃ ds, ds = (List.range cs.length).map fun i => digitsM (cs.getD i 0) ((i : Nat) : Int) := ⟨_, rfl⟩
  have hdl : ds.length ≤ 65 := by rw [hds]; simpa using hcl
  have hW := walk_ok hT.uni ds
  obtain ⟨sl, hsl⟩ : ∃ sl, sl = (walkS t.length w' (rowOf t 0) (colOf t 0) ds).l := ⟨_, rfl⟩
  obtain ⟨t', ht', _, htl'⟩ := hW.to
  have hln := hW.ln
  have hud := hW.ud
  rw [← hsl] at ht' hln hud
  apply rn_seq
  refine rn_asg (a := Dt K (DS sl)) (ev_call (as := [Dt K (DT t), Dt K (DI ds)]) (es_cons (ev_var rfl) (es_cons ?_ es_nil)) ⟨t, ds, w', _, _, rfl, hT.uni, hTl, hw6.2, by omega, by rw [hsl]⟩ rfl) ?_
  · have k := ew_lcM (K := K) (Γ := [.as (SqA K ns), .as (Dt K (.list (cs.map PyData.int))), .as (Dt K (.int mx)), .as (Dt K (.int (r : Nat))), .as (Dt K (.int (w' : Nat))), .as (Dt K (DT t)), .as (Dt K (DT u)), .un, .un, .un, .un]) (wi := iEnum K (tCons (tVar 1) tNil)) (g := gTup K 2 (gCons (gName 10) (gCons (gName 9) gNil))) (vs := [9, 10])
      (te := tCall (SpD 2 (R_law_digits K)) [] L2.E0 (tCons (tVar 9) (tCons (tVar 10) tNil))) (List.range cs.length) (fun i => Dt K (.tuple [.int ((i : Nat) : Int), (cs.map PyData.int).getD i .none])) (fun i => .int (digitsM (cs.getD i 0) ((i : Nat) : Int))) ?_ (by walk_at "gw") (by simp; omega) fun i hi => ?_
    · have e : ((List.range cs.length).map fun i => PyData.int (digitsM (cs.getD i 0) ((i : Nat) : Int))) = ds.map PyData.int := by rw [hds, List.map_map]; rfl
      rw [e] at k
      exact ev_fixD k
    · have j := ei_enumD (K := K) (Γ := [.as (SqA K ns), .as (Dt K (.list (cs.map PyData.int))), .as (Dt K (.int mx)), .as (Dt K (.int (r : Nat))), .as (Dt K (.int (w' : Nat))), .as (Dt K (DT t)), .as (Dt K (DT u)), .un, .un, .un, .un]) (te := tVar 1) (ds := cs.map PyData.int) (ev_var rfl)
      rw [List.length_map] at j
      exact j
    · have hi := List.mem_range.mp hi
      have e : (cs.map PyData.int).getD i .none = .int (cs.getD i 0) := by
        rw [List.getD_eq_getElem?_getD, List.getElem?_map, getq 0 hi]; rfl
      rw [e]
      refine ⟨_, eg_tup (ds := [_, _]) (eg_cons eg_name (eg_cons eg_name eg_nil)) rfl, ?_⟩
      exact ev_call (as := [Dt K (.int (cs.getD i 0)), Dt K (.int ((i : Nat) : Int))]) (es_cons (ev_var rfl) (es_cons (ev_var rfl) es_nil)) (hdig _ _ (getD_mem hi) (by omega) (by omega)) rfl
  dsimp only [List.set]
  apply rn_seq
  refine rn_asg (a := Dt K (DT t')) (ev_call (as := [Dt K (DT t), Dt K (DS sl)]) (es_cons (ev_var rfl) (es_cons (ev_var rfl) es_nil)) ⟨t, sl, w', _, _, rfl, hT.uni, hTl, hw6.2, by omega, by rw [ht']; rfl⟩ rfl) ?_
  dsimp only [List.set]
  have hT' : TrayOk t' w' := slidAll_tray hT ht'
  apply rn_seq
  refine rn_for (fun i Γ => Γ = [.as (SqA K ns), .as (Dt K (.list (cs.map PyData.int))), .as (Dt K (.int mx)), .as (Dt K (.int (r : Nat))), .as (Dt K (.int (w' : Nat))), .as (Dt K (DT t)), .as (Dt K (DT u)), .as (Dt K (DS sl)), .as (Dt K (DT t')), .un, .un]) (ei_listD (ds := (cs.take 3 ++ [mx]).map PyData.int) ?_) rfl ?_ ?_
  · have k := ew_cat (ta := tSl (rSlL K) (tVar 1) tNoPart (tPart (tC (V.int 3)))) (tb := tLst (tCons (tVar 2) tNil)) (Γ := [.as (SqA K ns), .as (Dt K (.list (cs.map PyData.int))), .as (Dt K (.int mx)), .as (Dt K (.int (r : Nat))), .as (Dt K (.int (w' : Nat))), .as (Dt K (DT t)), .as (Dt K (DT u)), .as (Dt K (DS sl)), .as (Dt K (DT t')), .un, .un]) (el_w (ew_sl (K := K) (te := tVar 1) (as := (cs.map PyData.int).map (Dt K)) (el_dt (ev_var rfl)) eo_none (eo_some (ev_int (K := K) (i := 3))))) (el_w (ew_lstD (K := K) (t := tCons (tVar 2) tNil) (ds := [.int mx]) (ed_cons (ev_var rfl) ed_nil) (by simp [sizeLine_eq]))) (by rw [(cut_to (b := 3) rfl : cutA _ none (some (3 : Int)) = _)]; simp [sizeLine_eq]; omega)
    rw [(cut_to (b := 3) rfl : cutA _ none (some (3 : Int)) = _), ← List.map_take, ← List.map_take, ← List.map_append] at k
    rw [List.map_append]
    exact ev_fixD k
  · rintro c' sb i v Γ1 rfl hv
    rw [List.getElem?_map, List.getElem?_map] at hv
    cases hc : (cs.take 3 ++ [mx])[i]? with
    | none => rw [hc] at hv; cases hv
    | some z =>
      rw [hc] at hv
      obtain rfl := Option.some.inj hv
      refine ⟨_, eg_name, ?_⟩
      dsimp only [List.set]
      refine rn_if (b := !true || !true) (eb_or' (eb_not (eb_B (ev_call (as := [Dt K (DT t), Dt K (DT t'), Dt K (DS sl), Dt K (.int z)]) (es_cons (ev_var rfl) (es_cons (ev_var rfl) (es_cons (ev_var rfl) (es_cons (ev_var rfl) es_nil)))) ⟨t, t', sl, z, w', rfl, hT, hT', htl'.symm, fun c h => .inl (hud c h), by omega, rfl⟩ rfl))) (eb_not (eb_B (ev_call (as := [Dt K (DT t), Dt K (DT u), Dt K (DS sl), Dt K (.int z)]) (es_cons (ev_var rfl) (es_cons (ev_var rfl) (es_cons (ev_var rfl) (es_cons (ev_var rfl) es_nil)))) ⟨t, u, sl, z, w', rfl, hT, hU, by omega, fun c h => .inl (hud c h), by omega, rfl⟩ rfl)))) (fun h => nomatch h) fun _ => ?_
      apply rn_next
      exact ⟨_, by walk_at "gle", rfl⟩
  rintro Γ1 rfl
  dsimp only
  have hA : TrayOk [[1, 0]] 2 := ⟨by decide, by decide, fun x hx => by simp at hx; subst hx; rfl, by decide⟩
  have hB : TrayOk [[0]] 1 := ⟨by decide, by decide, fun x hx => by simp at hx; subst hx; rfl, by decide⟩
  have hC : TrayOk [[1, 2, 0]] 3 := ⟨by decide, by decide, fun x hx => by simp at hx; subst hx; rfl, by decide⟩
  have hD : TrayOk [[0, 2, 1]] 3 := ⟨by decide, by decide, fun x hx => by simp at hx; subst hx; rfl, by decide⟩
  have sl' : ∀ n : Nat, n ≤ 1000 → n ≤ sizeLine := fun n h => by rw [sizeLine_eq]; omega
  have i2 : ∀ {Γ : List Sl} (a b : Int), EvA (tLst (tCons (tLst (tCons (tC (V.int a)) (tCons (tC (V.int b)) tNil))) tNil)) Γ (Dt K (DT [[a, b]])) := fun a b => ev_lst (ds := [DI [a, b]]) (es_cons (ev_lst (ds := [.int a, .int b]) (es_cons ev_int (es_cons ev_int es_nil)) (sl' _ (by simp))) es_nil) (sl' _ (by simp))
  have i1 : ∀ {Γ : List Sl} (a : Int), EvA (tLst (tCons (tLst (tCons (tC (V.int a)) tNil)) tNil)) Γ (Dt K (DT [[a]])) := fun a => ev_lst (ds := [DI [a]]) (es_cons (ev_lst (ds := [.int a]) (es_cons ev_int es_nil) (sl' _ (by simp))) es_nil) (sl' _ (by simp))
  have i3 : ∀ {Γ : List Sl} (a b c : Int), EvA (tLst (tCons (tLst (tCons (tC (V.int a)) (tCons (tC (V.int b)) (tCons (tC (V.int c)) tNil)))) tNil)) Γ (Dt K (DT [[a, b, c]])) := fun a b c => ev_lst (ds := [DI [a, b, c]]) (es_cons (ev_lst (ds := [.int a, .int b, .int c]) (es_cons ev_int (es_cons ev_int (es_cons ev_int es_nil))) (sl' _ (by simp))) es_nil) (sl' _ (by simp))
  apply rn_seq
  refine rn_if (b := !true) (eb_not (eb_B (ev_call (as := [Dt K (.bool true), Dt K (.bool true)]) (es_cons (ev_meth (C := CL) (fs := [("slides", Dt K (DS [108]))]) (R := R_Led_shows K CL) (as := [Dt K (DT [[1, 0]]), Dt K (DT [[0, 1]])]) (ev_make (fns := ["slides"]) (as := [Dt K (DS [108])]) (es_cons ev_str es_nil) rfl) (es_cons (i2 1 0) (es_cons (i2 0 1) es_nil)) ⟨[108], _, _, 2, rfl, hA, by simp [Lett, stepOf], by simp, by rw [show decide (slidAllM [[1, 0]] [108] = some [[0, 1]]) = true by decide]⟩ rfl rfl) (es_cons ev_bl es_nil)) ⟨true, true, rfl, rfl⟩ rfl))) (fun h => nomatch h) fun _ => ?_
  apply rn_next
  apply rn_seq
  refine rn_if (b := !true) (eb_not (eb_B (ev_call (as := [Dt K (.bool false), Dt K (.bool false)]) (es_cons (ev_meth (C := CL) (fs := [("slides", Dt K (DS [120]))]) (R := R_Led_shows K CL) (as := [Dt K (DT [[0]]), Dt K (DT [[0]])]) (ev_make (fns := ["slides"]) (as := [Dt K (DS [120])]) (es_cons ev_str es_nil) rfl) (es_cons (i1 0) (es_cons (i1 0) es_nil)) ⟨[120], _, _, 1, rfl, hB, by simp [Lett, stepOf], by simp, by rw [show decide (slidAllM [[0]] [120] = some [[0]]) = false by decide]⟩ rfl rfl) (es_cons ev_bl es_nil)) ⟨false, false, rfl, rfl⟩ rfl))) (fun h => nomatch h) fun _ => ?_
  apply rn_next
  exact rn_ret (a := Dt K (.bool true)) (ev_call (as := [Dt K (.bool true), Dt K (.bool true)]) (es_cons (ev_meth (C := CP) (fs := [("one", Dt K (.int 1)), ("other", Dt K (.int 2))]) (R := R_Passed_shows K CP) (as := [Dt K (DT [[1, 2, 0]]), Dt K (DT [[0, 2, 1]])]) (ev_make (fns := ["one", "other"]) (as := [Dt K (.int 1), Dt K (.int 2)]) (es_cons ev_int (es_cons ev_int es_nil)) rfl) (es_cons (i3 1 2 0) (es_cons (i3 0 2 1) es_nil)) ⟨1, 2, _, _, 3, rfl, hC, hD, rfl, by rw [show passM [[1, 2, 0]] [[0, 2, 1]] 3 1 2 = true by decide]⟩ rfl rfl) (es_cons ev_bl es_nil)) ⟨true, true, rfl, rfl⟩ rfl) (As.le_refl _)
end
/-! ### what stands in the text behind the top -/
section
variable {w : World} {K : PySem.W.Frag}
def TupAt (K : PySem.W.Frag) (p : Addr) (xs : List V) : Prop := ∃ (o : Obj) (its : Array Value) (n : Nat), K.lookup p = some o ∧ o.cls = .type "tuple" ∧ o.data = .seq its n ∧ its.size ≤ sizeLine ∧ Vals xs its.toList
theorem TupAt.sq {p : Addr} {xs : List V} (h : TupAt K p xs) : ∀ H, SqT K H p xs := fun _ => .inr h
structure DictAt (w : World) (K : PySem.W.Frag) (d : Addr) : Prop where
  ex : ∃ es n, K.lookup d = some ⟨.type "dict", none, .dict es n, #[]⟩ ∧ PySem.W.KeysLit w.params es.toList
  lo : (d == sysModules) = false
theorem DictAt.kd {d : Addr} (h : DictAt w K d) : ∃ es n, KDict K w d es n := by
  obtain ⟨es, n, h1, h2⟩ := h.ex
  exact ⟨es, n, h1, h2, h.lo⟩
theorem DictAt.it {d : Addr} (h : DictAt w K d) {x : Str} {u : Value} {v : V} (e : PySem.W.nsIn K d x = some (some u)) (r : RelV v u) : KDct K w d x v := by
  obtain ⟨es, n, h1, h2⟩ := h.ex
  exact ⟨es, n, u, h1, h2, e, r⟩
theorem steps_mk {d p1 p2 p3 p4 : Addr} (h : DictAt w K d) (u1 : PySem.W.nsIn K d "u" = some (some (.ref p1))) (u2 : PySem.W.nsIn K d "d" = some (some (.ref p2))) (u3 : PySem.W.nsIn K d "l" = some (some (.ref p3))) (u4 : PySem.W.nsIn K d "r" = some (some (.ref p4)))
    (v1 : TupAt K p1 [.int (-1), .int 0]) (v2 : TupAt K p2 [.int 1, .int 0]) (v3 : TupAt K p3 [.int 0, .int (-1)]) (v4 : TupAt K p4 [.int 0, .int 1])
    (o1 : PySem.W.nsIn K d "x" = some none) (o2 : PySem.W.nsIn K d "U" = some none) (o3 : PySem.W.nsIn K d " " = some none) (o4 : PySem.W.nsIn K d "?" = some none) : StepsOk w K d where
  kd := h.kd
  it := fun c dr dc hc => by
    rcases step_cases hc with ⟨rfl, rfl, rfl⟩ | ⟨rfl, rfl, rfl⟩ | ⟨rfl, rfl, rfl⟩ | ⟨rfl, rfl, rfl⟩
    · exact ⟨p1, h.it u1 rfl, v1.sq⟩
    · exact ⟨p2, h.it u2 rfl, v2.sq⟩
    · exact ⟨p3, h.it u3 rfl, v3.sq⟩
    · exact ⟨p4, h.it u4 rfl, v4.sq⟩
  ins := fun c p hc => by
    obtain ⟨dr, dc⟩ := p
    rcases step_cases hc with ⟨rfl, rfl, rfl⟩ | ⟨rfl, rfl, rfl⟩ | ⟨rfl, rfl, rfl⟩ | ⟨rfl, rfl, rfl⟩
    · exact ⟨_, u1⟩
    · exact ⟨_, u2⟩
    · exact ⟨_, u3⟩
    · exact ⟨_, u4⟩
  out := fun c hc => by
    rcases hc with rfl | rfl | rfl | rfl
    · exact o1
    · exact o2
    · exact o3
    · exact o4
theorem kit_ref {A C : Addr} {v : Bool} (h : (Value.ref A == Value.ref C) = false) (i : PySem.W.isClsIn K C = true) (t : PySem.W.typeIn K (.ref C) = some (.type "type")) (s : PySem.W.subIn K (.ref A) (.ref C) = some v) : PySem.W.kitOne K (.ref A) (.ref C) = some v := by
  unfold PySem.W.kitOne
  rw [if_neg (by rw [h]; exact Bool.false_ne_true)]
  have i' : (PySem.W.clsIn K C).isSome = true := i
  have e : ((PySem.W.clsIn K C).isSome && PySem.W.typeIn K (.ref C) == some (.type "type")) = true := by rw [i', t] <;> rfl
  show (if ((PySem.W.clsIn K C).isSome && PySem.W.typeIn K (.ref C) == some (.type "type")) = true then PySem.W.subIn K (.ref A) (.ref C) else none) = some v
  rw [if_pos e]
  exact s
theorem kit_type {A : Addr} {T : String} {v : Bool} (m : PySem.W.kitMeta T = true) (s : PySem.W.subIn K (.ref A) (.type T) = some v) : PySem.W.kitOne K (.ref A) (.type T) = some v := by
  unfold PySem.W.kitOne
  rw [if_neg (by exact Bool.false_ne_true)]
  show (if PySem.W.kitMeta T = true then PySem.W.subIn K (.ref A) (.type T) else none) = some v
  rw [if_pos m]
  exact s
theorem kit_self {C : Addr} : PySem.W.kitOne K (.ref C) (.ref C) = some true := by
  unfold PySem.W.kitOne
  rw [if_pos (by exact beq_self_eq_true _)]
end
section
theorem all_mk {P : Program} {w : World} {K : PySem.W.Frag} {h : Heap} {mg : Str → Option Value} {fa : Addr} (X : K.In h) (G : h.Ns PySem.mainGlobals mg) (hfa : mg "law" = some (.ref fa))
    {f_place_of a_STEPS pSu pSd pSl pSr f_slid f_slid_all f_law_order f_law_digits f_law_tray f_law_place f_law_slid f_law_walk f_laid f_crossings f_way_between a_Led f_Led_init a_Odd f_Odd_init a_Passed f_Passed_init f_Led_shows f_Odd_shows f_Passed_shows f_law_crossed f_law_steps f_law_passed f_law_says f_law_led_right f_law_odd_right f_law_passed_right f_law_right f_law : Addr} {od_place_of an_place_of od_slid an_slid od_slid_all an_slid_all od_law_order an_law_order od_law_digits an_law_digits od_law_tray an_law_tray od_law_place an_law_place od_law_slid an_law_slid od_law_walk an_law_walk od_laid an_laid od_crossings an_crossings od_way_between an_way_between od_Led_init an_Led_init od_Odd_init an_Odd_init od_Passed_init an_Passed_init od_Led_shows an_Led_shows od_Odd_shows an_Odd_shows od_Passed_shows an_Passed_shows od_law_crossed an_law_crossed od_law_steps an_law_steps od_law_passed an_law_passed od_law_says an_law_says od_law_led_right an_law_led_right od_law_odd_right an_law_odd_right od_law_passed_right an_law_passed_right od_law_right an_law_right od_law an_law : Option Addr} {sl_place_of sl_slid sl_slid_all sl_law_order sl_law_digits sl_law_tray sl_law_place sl_law_slid sl_law_walk sl_laid sl_crossings sl_way_between sl_Led_init sl_Odd_init sl_Passed_init sl_Led_shows sl_Odd_shows sl_Passed_shows sl_law_crossed sl_law_steps sl_law_passed sl_law_says sl_law_led_right sl_law_odd_right sl_law_passed_right sl_law_right sl_law : Array (Option Value)} {oc_place_of kV_place_of dc_place_of pm_place_of cd_place_of ct_place_of oc_slid kV_slid dc_slid pm_slid cd_slid ct_slid oc_slid_all kV_slid_all dc_slid_all pm_slid_all cd_slid_all ct_slid_all oc_law_order kV_law_order dc_law_order pm_law_order cd_law_order ct_law_order oc_law_digits kV_law_digits dc_law_digits pm_law_digits cd_law_digits ct_law_digits oc_law_tray kV_law_tray dc_law_tray pm_law_tray cd_law_tray ct_law_tray oc_law_place kV_law_place dc_law_place pm_law_place cd_law_place ct_law_place oc_law_slid kV_law_slid dc_law_slid pm_law_slid cd_law_slid ct_law_slid oc_law_walk kV_law_walk dc_law_walk pm_law_walk cd_law_walk ct_law_walk oc_laid kV_laid dc_laid pm_laid cd_laid ct_laid oc_crossings kV_crossings dc_crossings pm_crossings cd_crossings ct_crossings oc_way_between kV_way_between dc_way_between pm_way_between cd_way_between ct_way_between oc_Led_init kV_Led_init dc_Led_init pm_Led_init cd_Led_init ct_Led_init oc_Odd_init kV_Odd_init dc_Odd_init pm_Odd_init cd_Odd_init ct_Odd_init oc_Passed_init kV_Passed_init dc_Passed_init pm_Passed_init cd_Passed_init ct_Passed_init oc_Led_shows kV_Led_shows dc_Led_shows pm_Led_shows cd_Led_shows ct_Led_shows oc_Odd_shows kV_Odd_shows dc_Odd_shows pm_Odd_shows cd_Odd_shows ct_Odd_shows oc_Passed_shows kV_Passed_shows dc_Passed_shows pm_Passed_shows cd_Passed_shows ct_Passed_shows oc_law_crossed kV_law_crossed dc_law_crossed pm_law_crossed cd_law_crossed ct_law_crossed oc_law_steps kV_law_steps dc_law_steps pm_law_steps cd_law_steps ct_law_steps oc_law_passed kV_law_passed dc_law_passed pm_law_passed cd_law_passed ct_law_passed oc_law_says kV_law_says dc_law_says pm_law_says cd_law_says ct_law_says oc_law_led_right kV_law_led_right dc_law_led_right pm_law_led_right cd_law_led_right ct_law_led_right oc_law_odd_right kV_law_odd_right dc_law_odd_right pm_law_odd_right cd_law_odd_right ct_law_odd_right oc_law_passed_right kV_law_passed_right dc_law_passed_right pm_law_passed_right cd_law_passed_right ct_law_passed_right oc_law_right kV_law_right dc_law_right pm_law_right cd_law_right ct_law_right oc_law kV_law dc_law pm_law cd_law ct_law : Value} {es_STEPS : Array DictEntry} {n_STEPS m_sv_u m_sv_d m_sv_l m_sv_r : Nat} {o_sv_u o_sv_d o_sv_l o_sv_r : Obj} {its_sv_u its_sv_d its_sv_l its_sv_r : Array Value}
    (b_enumerate : PySem.W.nsIn K PySem.mainGlobals "enumerate" = some none)
    (a_place_of : PySem.W.nsIn K PySem.mainGlobals "place_of" = some (some (.ref f_place_of)))
    (a_STEPS' : PySem.W.nsIn K PySem.mainGlobals "STEPS" = some (some (.ref a_STEPS)))
    (b_len : PySem.W.nsIn K PySem.mainGlobals "len" = some none)
    (b_list : PySem.W.nsIn K PySem.mainGlobals "list" = some none)
    (a_slid : PySem.W.nsIn K PySem.mainGlobals "slid" = some (some (.ref f_slid)))
    (a_slid_all : PySem.W.nsIn K PySem.mainGlobals "slid_all" = some (some (.ref f_slid_all)))
    (b_range : PySem.W.nsIn K PySem.mainGlobals "range" = some none)
    (a_law_order : PySem.W.nsIn K PySem.mainGlobals "_law_order" = some (some (.ref f_law_order)))
    (a_law_digits : PySem.W.nsIn K PySem.mainGlobals "_law_digits" = some (some (.ref f_law_digits)))
    (a_law_tray : PySem.W.nsIn K PySem.mainGlobals "_law_tray" = some (some (.ref f_law_tray)))
    (a_law_place : PySem.W.nsIn K PySem.mainGlobals "_law_place" = some (some (.ref f_law_place)))
    (a_law_slid : PySem.W.nsIn K PySem.mainGlobals "_law_slid" = some (some (.ref f_law_slid)))
    (a_law_walk : PySem.W.nsIn K PySem.mainGlobals "_law_walk" = some (some (.ref f_law_walk)))
    (a_laid : PySem.W.nsIn K PySem.mainGlobals "laid" = some (some (.ref f_laid)))
    (b_sum : PySem.W.nsIn K PySem.mainGlobals "sum" = some none)
    (a_crossings : PySem.W.nsIn K PySem.mainGlobals "crossings" = some (some (.ref f_crossings)))
    (b_abs : PySem.W.nsIn K PySem.mainGlobals "abs" = some none)
    (a_way_between : PySem.W.nsIn K PySem.mainGlobals "way_between" = some (some (.ref f_way_between)))
    (a_Led' : PySem.W.nsIn K PySem.mainGlobals "Led" = some (some (.ref a_Led)))
    (a_Odd' : PySem.W.nsIn K PySem.mainGlobals "Odd" = some (some (.ref a_Odd)))
    (a_Passed' : PySem.W.nsIn K PySem.mainGlobals "Passed" = some (some (.ref a_Passed)))
    (b_min : PySem.W.nsIn K PySem.mainGlobals "min" = some none)
    (a_law_crossed : PySem.W.nsIn K PySem.mainGlobals "_law_crossed" = some (some (.ref f_law_crossed)))
    (a_law_steps : PySem.W.nsIn K PySem.mainGlobals "_law_steps" = some (some (.ref f_law_steps)))
    (a_law_passed : PySem.W.nsIn K PySem.mainGlobals "_law_passed" = some (some (.ref f_law_passed)))
    (b_isinstance : PySem.W.nsIn K PySem.mainGlobals "isinstance" = some none)
    (b_bool : PySem.W.nsIn K PySem.mainGlobals "bool" = some none)
    (a_law_says : PySem.W.nsIn K PySem.mainGlobals "_law_says" = some (some (.ref f_law_says)))
    (a_law_led_right : PySem.W.nsIn K PySem.mainGlobals "_law_led_right" = some (some (.ref f_law_led_right)))
    (a_law_odd_right : PySem.W.nsIn K PySem.mainGlobals "_law_odd_right" = some (some (.ref f_law_odd_right)))
    (a_law_passed_right : PySem.W.nsIn K PySem.mainGlobals "_law_passed_right" = some (some (.ref f_law_passed_right)))
    (a_law_right : PySem.W.nsIn K PySem.mainGlobals "_law_right" = some (some (.ref f_law_right)))
    (a_law : PySem.W.nsIn K PySem.mainGlobals "law" = some (some (.ref f_law)))
    (a_Led_init : PySem.W.findIn K (.ref a_Led) "__init__" = some (some (.ref f_Led_init)))
    (a_Odd_init : PySem.W.findIn K (.ref a_Odd) "__init__" = some (some (.ref f_Odd_init)))
    (a_Passed_init : PySem.W.findIn K (.ref a_Passed) "__init__" = some (some (.ref f_Passed_init)))
    (a_Led_shows : PySem.W.findIn K (.ref a_Led) "shows" = some (some (.ref f_Led_shows)))
    (a_Odd_shows : PySem.W.findIn K (.ref a_Odd) "shows" = some (some (.ref f_Odd_shows)))
    (a_Passed_shows : PySem.W.findIn K (.ref a_Passed) "shows" = some (some (.ref f_Passed_shows)))
    (l_place_of : K.lookup f_place_of = some ⟨oc_place_of, od_place_of, .func (PySem.W.fnOf "place_of" "place_of" (defArgs s_place_of) (defBody s_place_of) (defScope s_place_of) .none kV_place_of dc_place_of pm_place_of an_place_of cd_place_of ct_place_of), sl_place_of⟩)
    (co_place_of : PySem.W.codeIn K cd_place_of "place_of" = true)
    (ke_place_of : PySem.W.keepIn K (.ref f_place_of) = true)
    (dl_STEPS : K.lookup a_STEPS = some ⟨.type "dict", none, .dict es_STEPS n_STEPS, #[]⟩)
    (dk_STEPS : PySem.W.KeysLit w.params es_STEPS.toList)
    (do_STEPS : (a_STEPS == sysModules) = false)
    (s_u : PySem.W.nsIn K a_STEPS "u" = some (some (.ref pSu)))
    (s_d : PySem.W.nsIn K a_STEPS "d" = some (some (.ref pSd)))
    (s_l : PySem.W.nsIn K a_STEPS "l" = some (some (.ref pSl)))
    (s_r : PySem.W.nsIn K a_STEPS "r" = some (some (.ref pSr)))
    (sv_u_l : K.lookup pSu = some o_sv_u)
    (sv_u_c : o_sv_u.cls = .type "tuple")
    (sv_u_d : o_sv_u.data = .seq its_sv_u m_sv_u)
    (sv_u_s : its_sv_u.size ≤ sizeLine)
    (sv_u_v : Vals [.int (-1), .int 0] its_sv_u.toList)
    (sv_d_l : K.lookup pSd = some o_sv_d)
    (sv_d_c : o_sv_d.cls = .type "tuple")
    (sv_d_d : o_sv_d.data = .seq its_sv_d m_sv_d)
    (sv_d_s : its_sv_d.size ≤ sizeLine)
    (sv_d_v : Vals [.int 1, .int 0] its_sv_d.toList)
    (sv_l_l : K.lookup pSl = some o_sv_l)
    (sv_l_c : o_sv_l.cls = .type "tuple")
    (sv_l_d : o_sv_l.data = .seq its_sv_l m_sv_l)
    (sv_l_s : its_sv_l.size ≤ sizeLine)
    (sv_l_v : Vals [.int 0, .int (-1)] its_sv_l.toList)
    (sv_r_l : K.lookup pSr = some o_sv_r)
    (sv_r_c : o_sv_r.cls = .type "tuple")
    (sv_r_d : o_sv_r.data = .seq its_sv_r m_sv_r)
    (sv_r_s : its_sv_r.size ≤ sizeLine)
    (sv_r_v : Vals [.int 0, .int 1] its_sv_r.toList)
    (so_0 : PySem.W.nsIn K a_STEPS "x" = some none)
    (so_1 : PySem.W.nsIn K a_STEPS "U" = some none)
    (so_2 : PySem.W.nsIn K a_STEPS " " = some none)
    (so_3 : PySem.W.nsIn K a_STEPS "?" = some none)
    (l_slid : K.lookup f_slid = some ⟨oc_slid, od_slid, .func (PySem.W.fnOf "slid" "slid" (defArgs s_slid) (defBody s_slid) (defScope s_slid) .none kV_slid dc_slid pm_slid an_slid cd_slid ct_slid), sl_slid⟩)
    (co_slid : PySem.W.codeIn K cd_slid "slid" = true)
    (ke_slid : PySem.W.keepIn K (.ref f_slid) = true)
    (l_slid_all : K.lookup f_slid_all = some ⟨oc_slid_all, od_slid_all, .func (PySem.W.fnOf "slid_all" "slid_all" (defArgs s_slid_all) (defBody s_slid_all) (defScope s_slid_all) .none kV_slid_all dc_slid_all pm_slid_all an_slid_all cd_slid_all ct_slid_all), sl_slid_all⟩)
    (co_slid_all : PySem.W.codeIn K cd_slid_all "slid_all" = true)
    (ke_slid_all : PySem.W.keepIn K (.ref f_slid_all) = true)
    (l_law_order : K.lookup f_law_order = some ⟨oc_law_order, od_law_order, .func (PySem.W.fnOf "_law_order" "_law_order" (defArgs s_law_order) (defBody s_law_order) (defScope s_law_order) .none kV_law_order dc_law_order pm_law_order an_law_order cd_law_order ct_law_order), sl_law_order⟩)
    (co_law_order : PySem.W.codeIn K cd_law_order "_law_order" = true)
    (ke_law_order : PySem.W.keepIn K (.ref f_law_order) = true)
    (l_law_digits : K.lookup f_law_digits = some ⟨oc_law_digits, od_law_digits, .func (PySem.W.fnOf "_law_digits" "_law_digits" (defArgs s_law_digits) (defBody s_law_digits) (defScope s_law_digits) .none kV_law_digits dc_law_digits pm_law_digits an_law_digits cd_law_digits ct_law_digits), sl_law_digits⟩)
    (co_law_digits : PySem.W.codeIn K cd_law_digits "_law_digits" = true)
    (ke_law_digits : PySem.W.keepIn K (.ref f_law_digits) = true)
    (l_law_tray : K.lookup f_law_tray = some ⟨oc_law_tray, od_law_tray, .func (PySem.W.fnOf "_law_tray" "_law_tray" (defArgs s_law_tray) (defBody s_law_tray) (defScope s_law_tray) .none kV_law_tray dc_law_tray pm_law_tray an_law_tray cd_law_tray ct_law_tray), sl_law_tray⟩)
    (co_law_tray : PySem.W.codeIn K cd_law_tray "_law_tray" = true)
    (ke_law_tray : PySem.W.keepIn K (.ref f_law_tray) = true)
    (l_law_place : K.lookup f_law_place = some ⟨oc_law_place, od_law_place, .func (PySem.W.fnOf "_law_place" "_law_place" (defArgs s_law_place) (defBody s_law_place) (defScope s_law_place) .none kV_law_place dc_law_place pm_law_place an_law_place cd_law_place ct_law_place), sl_law_place⟩)
    (co_law_place : PySem.W.codeIn K cd_law_place "_law_place" = true)
    (ke_law_place : PySem.W.keepIn K (.ref f_law_place) = true)
    (l_law_slid : K.lookup f_law_slid = some ⟨oc_law_slid, od_law_slid, .func (PySem.W.fnOf "_law_slid" "_law_slid" (defArgs s_law_slid) (defBody s_law_slid) (defScope s_law_slid) .none kV_law_slid dc_law_slid pm_law_slid an_law_slid cd_law_slid ct_law_slid), sl_law_slid⟩)
    (co_law_slid : PySem.W.codeIn K cd_law_slid "_law_slid" = true)
    (ke_law_slid : PySem.W.keepIn K (.ref f_law_slid) = true)
    (l_law_walk : K.lookup f_law_walk = some ⟨oc_law_walk, od_law_walk, .func (PySem.W.fnOf "_law_walk" "_law_walk" (defArgs s_law_walk) (defBody s_law_walk) (defScope s_law_walk) .none kV_law_walk dc_law_walk pm_law_walk an_law_walk cd_law_walk ct_law_walk), sl_law_walk⟩)
    (co_law_walk : PySem.W.codeIn K cd_law_walk "_law_walk" = true)
    (ke_law_walk : PySem.W.keepIn K (.ref f_law_walk) = true)
    (l_laid : K.lookup f_laid = some ⟨oc_laid, od_laid, .func (PySem.W.fnOf "laid" "laid" (defArgs s_laid) (defBody s_laid) (defScope s_laid) .none kV_laid dc_laid pm_laid an_laid cd_laid ct_laid), sl_laid⟩)
    (co_laid : PySem.W.codeIn K cd_laid "laid" = true)
    (ke_laid : PySem.W.keepIn K (.ref f_laid) = true)
    (l_crossings : K.lookup f_crossings = some ⟨oc_crossings, od_crossings, .func (PySem.W.fnOf "crossings" "crossings" (defArgs s_crossings) (defBody s_crossings) (defScope s_crossings) .none kV_crossings dc_crossings pm_crossings an_crossings cd_crossings ct_crossings), sl_crossings⟩)
    (co_crossings : PySem.W.codeIn K cd_crossings "crossings" = true)
    (ke_crossings : PySem.W.keepIn K (.ref f_crossings) = true)
    (l_way_between : K.lookup f_way_between = some ⟨oc_way_between, od_way_between, .func (PySem.W.fnOf "way_between" "way_between" (defArgs s_way_between) (defBody s_way_between) (defScope s_way_between) .none kV_way_between dc_way_between pm_way_between an_way_between cd_way_between ct_way_between), sl_way_between⟩)
    (co_way_between : PySem.W.codeIn K cd_way_between "way_between" = true)
    (ke_way_between : PySem.W.keepIn K (.ref f_way_between) = true)
    (cg_Led : PySem.W.plainGet K a_Led Str.empty = true)
    (ch_Led : PySem.W.hasDictIn K a_Led = true)
    (cp_Led : PySem.W.plainOver K a_Led = true)
    (cs_Led : PySem.W.findIn K (.ref a_Led) "__setattr__" = some (some (.builtin "object.__setattr__")))
    (na_n_Led_slides : PySem.W.findIn K (.ref a_Led) "slides" = some none)
    (if_Led_init : PySem.W.isFn K (.ref f_Led_init) = true)
    (l_Led_init : K.lookup f_Led_init = some ⟨oc_Led_init, od_Led_init, .func (PySem.W.fnOf "__init__" "Led.__init__" (defArgs s_Led_init) (defBody s_Led_init) (defScope s_Led_init) .none kV_Led_init dc_Led_init pm_Led_init an_Led_init cd_Led_init ct_Led_init), sl_Led_init⟩)
    (co_Led_init : PySem.W.codeIn K cd_Led_init "Led.__init__" = true)
    (ke_Led_init : PySem.W.keepIn K (.ref f_Led_init) = true)
    (mk_Led : PySem.W.makesIn K a_Led = true)
    (mkk_Led : PySem.W.keepIn K (.ref a_Led) = true)
    (cg_Odd : PySem.W.plainGet K a_Odd Str.empty = true)
    (ch_Odd : PySem.W.hasDictIn K a_Odd = true)
    (cp_Odd : PySem.W.plainOver K a_Odd = true)
    (cs_Odd : PySem.W.findIn K (.ref a_Odd) "__setattr__" = some (some (.builtin "object.__setattr__")))
    (na_n_Odd_crossed : PySem.W.findIn K (.ref a_Odd) "crossed" = some none)
    (na_n_Odd_steps : PySem.W.findIn K (.ref a_Odd) "steps" = some none)
    (if_Odd_init : PySem.W.isFn K (.ref f_Odd_init) = true)
    (l_Odd_init : K.lookup f_Odd_init = some ⟨oc_Odd_init, od_Odd_init, .func (PySem.W.fnOf "__init__" "Odd.__init__" (defArgs s_Odd_init) (defBody s_Odd_init) (defScope s_Odd_init) .none kV_Odd_init dc_Odd_init pm_Odd_init an_Odd_init cd_Odd_init ct_Odd_init), sl_Odd_init⟩)
    (co_Odd_init : PySem.W.codeIn K cd_Odd_init "Odd.__init__" = true)
    (ke_Odd_init : PySem.W.keepIn K (.ref f_Odd_init) = true)
    (mk_Odd : PySem.W.makesIn K a_Odd = true)
    (mkk_Odd : PySem.W.keepIn K (.ref a_Odd) = true)
    (cg_Passed : PySem.W.plainGet K a_Passed Str.empty = true)
    (ch_Passed : PySem.W.hasDictIn K a_Passed = true)
    (cp_Passed : PySem.W.plainOver K a_Passed = true)
    (cs_Passed : PySem.W.findIn K (.ref a_Passed) "__setattr__" = some (some (.builtin "object.__setattr__")))
    (na_n_Passed_one : PySem.W.findIn K (.ref a_Passed) "one" = some none)
    (na_n_Passed_other : PySem.W.findIn K (.ref a_Passed) "other" = some none)
    (if_Passed_init : PySem.W.isFn K (.ref f_Passed_init) = true)
    (l_Passed_init : K.lookup f_Passed_init = some ⟨oc_Passed_init, od_Passed_init, .func (PySem.W.fnOf "__init__" "Passed.__init__" (defArgs s_Passed_init) (defBody s_Passed_init) (defScope s_Passed_init) .none kV_Passed_init dc_Passed_init pm_Passed_init an_Passed_init cd_Passed_init ct_Passed_init), sl_Passed_init⟩)
    (co_Passed_init : PySem.W.codeIn K cd_Passed_init "Passed.__init__" = true)
    (ke_Passed_init : PySem.W.keepIn K (.ref f_Passed_init) = true)
    (mk_Passed : PySem.W.makesIn K a_Passed = true)
    (mkk_Passed : PySem.W.keepIn K (.ref a_Passed) = true)
    (if_Led_shows : PySem.W.isFn K (.ref f_Led_shows) = true)
    (l_Led_shows : K.lookup f_Led_shows = some ⟨oc_Led_shows, od_Led_shows, .func (PySem.W.fnOf "shows" "Led.shows" (defArgs s_Led_shows) (defBody s_Led_shows) (defScope s_Led_shows) .none kV_Led_shows dc_Led_shows pm_Led_shows an_Led_shows cd_Led_shows ct_Led_shows), sl_Led_shows⟩)
    (co_Led_shows : PySem.W.codeIn K cd_Led_shows "Led.shows" = true)
    (ke_Led_shows : PySem.W.keepIn K (.ref f_Led_shows) = true)
    (if_Odd_shows : PySem.W.isFn K (.ref f_Odd_shows) = true)
    (l_Odd_shows : K.lookup f_Odd_shows = some ⟨oc_Odd_shows, od_Odd_shows, .func (PySem.W.fnOf "shows" "Odd.shows" (defArgs s_Odd_shows) (defBody s_Odd_shows) (defScope s_Odd_shows) .none kV_Odd_shows dc_Odd_shows pm_Odd_shows an_Odd_shows cd_Odd_shows ct_Odd_shows), sl_Odd_shows⟩)
    (co_Odd_shows : PySem.W.codeIn K cd_Odd_shows "Odd.shows" = true)
    (ke_Odd_shows : PySem.W.keepIn K (.ref f_Odd_shows) = true)
    (if_Passed_shows : PySem.W.isFn K (.ref f_Passed_shows) = true)
    (l_Passed_shows : K.lookup f_Passed_shows = some ⟨oc_Passed_shows, od_Passed_shows, .func (PySem.W.fnOf "shows" "Passed.shows" (defArgs s_Passed_shows) (defBody s_Passed_shows) (defScope s_Passed_shows) .none kV_Passed_shows dc_Passed_shows pm_Passed_shows an_Passed_shows cd_Passed_shows ct_Passed_shows), sl_Passed_shows⟩)
    (co_Passed_shows : PySem.W.codeIn K cd_Passed_shows "Passed.shows" = true)
    (ke_Passed_shows : PySem.W.keepIn K (.ref f_Passed_shows) = true)
    (l_law_crossed : K.lookup f_law_crossed = some ⟨oc_law_crossed, od_law_crossed, .func (PySem.W.fnOf "_law_crossed" "_law_crossed" (defArgs s_law_crossed) (defBody s_law_crossed) (defScope s_law_crossed) .none kV_law_crossed dc_law_crossed pm_law_crossed an_law_crossed cd_law_crossed ct_law_crossed), sl_law_crossed⟩)
    (co_law_crossed : PySem.W.codeIn K cd_law_crossed "_law_crossed" = true)
    (ke_law_crossed : PySem.W.keepIn K (.ref f_law_crossed) = true)
    (l_law_steps : K.lookup f_law_steps = some ⟨oc_law_steps, od_law_steps, .func (PySem.W.fnOf "_law_steps" "_law_steps" (defArgs s_law_steps) (defBody s_law_steps) (defScope s_law_steps) .none kV_law_steps dc_law_steps pm_law_steps an_law_steps cd_law_steps ct_law_steps), sl_law_steps⟩)
    (co_law_steps : PySem.W.codeIn K cd_law_steps "_law_steps" = true)
    (ke_law_steps : PySem.W.keepIn K (.ref f_law_steps) = true)
    (l_law_passed : K.lookup f_law_passed = some ⟨oc_law_passed, od_law_passed, .func (PySem.W.fnOf "_law_passed" "_law_passed" (defArgs s_law_passed) (defBody s_law_passed) (defScope s_law_passed) .none kV_law_passed dc_law_passed pm_law_passed an_law_passed cd_law_passed ct_law_passed), sl_law_passed⟩)
    (co_law_passed : PySem.W.codeIn K cd_law_passed "_law_passed" = true)
    (ke_law_passed : PySem.W.keepIn K (.ref f_law_passed) = true)
    (l_law_says : K.lookup f_law_says = some ⟨oc_law_says, od_law_says, .func (PySem.W.fnOf "_law_says" "_law_says" (defArgs s_law_says) (defBody s_law_says) (defScope s_law_says) .none kV_law_says dc_law_says pm_law_says an_law_says cd_law_says ct_law_says), sl_law_says⟩)
    (co_law_says : PySem.W.codeIn K cd_law_says "_law_says" = true)
    (ke_law_says : PySem.W.keepIn K (.ref f_law_says) = true)
    (l_law_led_right : K.lookup f_law_led_right = some ⟨oc_law_led_right, od_law_led_right, .func (PySem.W.fnOf "_law_led_right" "_law_led_right" (defArgs s_law_led_right) (defBody s_law_led_right) (defScope s_law_led_right) .none kV_law_led_right dc_law_led_right pm_law_led_right an_law_led_right cd_law_led_right ct_law_led_right), sl_law_led_right⟩)
    (co_law_led_right : PySem.W.codeIn K cd_law_led_right "_law_led_right" = true)
    (ke_law_led_right : PySem.W.keepIn K (.ref f_law_led_right) = true)
    (l_law_odd_right : K.lookup f_law_odd_right = some ⟨oc_law_odd_right, od_law_odd_right, .func (PySem.W.fnOf "_law_odd_right" "_law_odd_right" (defArgs s_law_odd_right) (defBody s_law_odd_right) (defScope s_law_odd_right) .none kV_law_odd_right dc_law_odd_right pm_law_odd_right an_law_odd_right cd_law_odd_right ct_law_odd_right), sl_law_odd_right⟩)
    (co_law_odd_right : PySem.W.codeIn K cd_law_odd_right "_law_odd_right" = true)
    (ke_law_odd_right : PySem.W.keepIn K (.ref f_law_odd_right) = true)
    (l_law_passed_right : K.lookup f_law_passed_right = some ⟨oc_law_passed_right, od_law_passed_right, .func (PySem.W.fnOf "_law_passed_right" "_law_passed_right" (defArgs s_law_passed_right) (defBody s_law_passed_right) (defScope s_law_passed_right) .none kV_law_passed_right dc_law_passed_right pm_law_passed_right an_law_passed_right cd_law_passed_right ct_law_passed_right), sl_law_passed_right⟩)
    (co_law_passed_right : PySem.W.codeIn K cd_law_passed_right "_law_passed_right" = true)
    (ke_law_passed_right : PySem.W.keepIn K (.ref f_law_passed_right) = true)
    (l_law_right : K.lookup f_law_right = some ⟨oc_law_right, od_law_right, .func (PySem.W.fnOf "_law_right" "_law_right" (defArgs s_law_right) (defBody s_law_right) (defScope s_law_right) .none kV_law_right dc_law_right pm_law_right an_law_right cd_law_right ct_law_right), sl_law_right⟩)
    (co_law_right : PySem.W.codeIn K cd_law_right "_law_right" = true)
    (ke_law_right : PySem.W.keepIn K (.ref f_law_right) = true)
    (l_law : K.lookup f_law = some ⟨oc_law, od_law, .func (PySem.W.fnOf "law" "law" (defArgs s_law) (defBody s_law) (defScope s_law) .none kV_law dc_law pm_law an_law cd_law ct_law), sl_law⟩)
    (co_law : PySem.W.codeIn K cd_law "law" = true)
    (ke_law : PySem.W.keepIn K (.ref f_law) = true)
    : ∃ fd : FuncData, (∀ (s : Shared) (u : Value), BindsTo s fd ⟨[u], []⟩ [("_law_script", u)]) ∧ ∀ base : Heap, K.In base → base.Ns PySem.mainGlobals mg → FnOk P w K mg base L2.CX0 7 fa fd ["_law_script"] (SpD 1 (R_law K)) := by
  have e := hfa.symm.trans (PySem.W.mg_of X G a_law)
  cases e
  refine ⟨PySem.W.fnOf "law" "law" (defArgs s_law) (defBody s_law) (defScope s_law) .none kV_law dc_law pm_law an_law cd_law ct_law, fun s u => .of_eq rfl, fun base _ _ => ?_⟩
  have F_place_of := fun_mk (st := s_place_of) l_place_of co_place_of ke_place_of
  have b_place_of := F_place_of.binds (ps := ["tray", "piece"]) fun _ _ _ _ _ _ us hl => match us, hl with | [_, _], _ => rfl
  have Cc_place_of : Cl P w K mg base L2.CX0 1 "place_of" (SpD 2 (R_place_of K)) := ⟨_, _, _, ok_place_of F_place_of (PySem.W.mg_none_of X G b_enumerate), PySem.W.mg_of X G a_place_of, ke_place_of, b_place_of⟩
  have F_slid := fun_mk (st := s_slid) l_slid co_slid ke_slid
  have b_slid := F_slid.binds (ps := ["tray", "letter"]) fun _ _ _ _ _ _ us hl => match us, hl with | [_, _], _ => rfl
  have Cc_slid : Cl P w K mg base L2.CX0 2 "slid" (SpD 2 (R_slid K)) := ⟨_, _, _, ok_slid F_slid Cc_place_of (PySem.W.mg_of X G a_STEPS') (steps_mk ⟨⟨_, _, dl_STEPS, dk_STEPS⟩, do_STEPS⟩ s_u s_d s_l s_r ⟨_, _, _, sv_u_l, sv_u_c, sv_u_d, sv_u_s, sv_u_v⟩ ⟨_, _, _, sv_d_l, sv_d_c, sv_d_d, sv_d_s, sv_d_v⟩ ⟨_, _, _, sv_l_l, sv_l_c, sv_l_d, sv_l_s, sv_l_v⟩ ⟨_, _, _, sv_r_l, sv_r_c, sv_r_d, sv_r_s, sv_r_v⟩ so_0 so_1 so_2 so_3) (PySem.W.mg_none_of X G b_len) (PySem.W.mg_none_of X G b_list), PySem.W.mg_of X G a_slid, ke_slid, b_slid⟩
  have F_slid_all := fun_mk (st := s_slid_all) l_slid_all co_slid_all ke_slid_all
  have b_slid_all := F_slid_all.binds (ps := ["tray", "slides"]) fun _ _ _ _ _ _ us hl => match us, hl with | [_, _], _ => rfl
  have Cc_slid_all : Cl P w K mg base L2.CX0 3 "slid_all" (SpD 2 (R_slid_all K)) := ⟨_, _, _, ok_slid_all F_slid_all Cc_slid (PySem.W.mg_of X G a_STEPS') (steps_mk ⟨⟨_, _, dl_STEPS, dk_STEPS⟩, do_STEPS⟩ s_u s_d s_l s_r ⟨_, _, _, sv_u_l, sv_u_c, sv_u_d, sv_u_s, sv_u_v⟩ ⟨_, _, _, sv_d_l, sv_d_c, sv_d_d, sv_d_s, sv_d_v⟩ ⟨_, _, _, sv_l_l, sv_l_c, sv_l_d, sv_l_s, sv_l_v⟩ ⟨_, _, _, sv_r_l, sv_r_c, sv_r_d, sv_r_s, sv_r_v⟩ so_0 so_1 so_2 so_3) (PySem.W.mg_none_of X G b_list), PySem.W.mg_of X G a_slid_all, ke_slid_all, b_slid_all⟩
  have F_law_order := fun_mk (st := s_law_order) l_law_order co_law_order ke_law_order
  have b_law_order := F_law_order.binds (ps := ["_law_number", "_law_many"]) fun _ _ _ _ _ _ us hl => match us, hl with | [_, _], _ => rfl
  have Cc_law_order : Cl P w K mg base L2.CX0 1 "_law_order" (SpD 2 (R_law_order K)) := ⟨_, _, _, ok_law_order F_law_order (PySem.W.mg_none_of X G b_list) (PySem.W.mg_none_of X G b_range) (PySem.W.mg_none_of X G b_len), PySem.W.mg_of X G a_law_order, ke_law_order, b_law_order⟩
  have F_law_digits := fun_mk (st := s_law_digits) l_law_digits co_law_digits ke_law_digits
  have b_law_digits := F_law_digits.binds (ps := ["_law_cell", "_law_by"]) fun _ _ _ _ _ _ us hl => match us, hl with | [_, _], _ => rfl
  have Cc_law_digits : Cl P w K mg base L2.CX0 1 "_law_digits" (SpD 2 (R_law_digits K)) := ⟨_, _, _, ok_law_digits F_law_digits , PySem.W.mg_of X G a_law_digits, ke_law_digits, b_law_digits⟩
  have F_law_tray := fun_mk (st := s_law_tray) l_law_tray co_law_tray ke_law_tray
  have b_law_tray := F_law_tray.binds (ps := ["_law_number", "_law_rows", "_law_columns"]) fun _ _ _ _ _ _ us hl => match us, hl with | [_, _, _], _ => rfl
  have Cc_law_tray : Cl P w K mg base L2.CX0 2 "_law_tray" (SpD 3 (R_law_tray K)) := ⟨_, _, _, ok_law_tray F_law_tray Cc_law_order (PySem.W.mg_none_of X G b_range), PySem.W.mg_of X G a_law_tray, ke_law_tray, b_law_tray⟩
  have F_law_place := fun_mk (st := s_law_place) l_law_place co_law_place ke_law_place
  have b_law_place := F_law_place.binds (ps := ["_law_tray_here", "_law_piece"]) fun _ _ _ _ _ _ us hl => match us, hl with | [_, _], _ => rfl
  have Cc_law_place : Cl P w K mg base L2.CX0 1 "_law_place" (SpD 2 (R_law_place K)) := ⟨_, _, _, ok_law_place F_law_place (PySem.W.mg_none_of X G b_range) (PySem.W.mg_none_of X G b_len), PySem.W.mg_of X G a_law_place, ke_law_place, b_law_place⟩
  have F_law_slid := fun_mk (st := s_law_slid) l_law_slid co_law_slid ke_law_slid
  have b_law_slid := F_law_slid.binds (ps := ["_law_tray_here", "_law_slides"]) fun _ _ _ _ _ _ us hl => match us, hl with | [_, _], _ => rfl
  have Cc_law_slid : Cl P w K mg base L2.CX0 2 "_law_slid" (SpD 2 (R_law_slid K)) := ⟨_, _, _, ok_law_slid F_law_slid Cc_law_place (PySem.W.mg_none_of X G b_list) (PySem.W.mg_none_of X G b_len), PySem.W.mg_of X G a_law_slid, ke_law_slid, b_law_slid⟩
  have F_law_walk := fun_mk (st := s_law_walk) l_law_walk co_law_walk ke_law_walk
  have b_law_walk := F_law_walk.binds (ps := ["_law_tray_here", "_law_cells"]) fun _ _ _ _ _ _ us hl => match us, hl with | [_, _], _ => rfl
  have Cc_law_walk : Cl P w K mg base L2.CX0 2 "_law_walk" (SpD 2 (R_law_walk K)) := ⟨_, _, _, ok_law_walk F_law_walk Cc_law_place (PySem.W.mg_none_of X G b_len), PySem.W.mg_of X G a_law_walk, ke_law_walk, b_law_walk⟩
  have F_laid := fun_mk (st := s_laid) l_laid co_laid ke_laid
  have b_laid := F_laid.binds (ps := ["tray"]) fun _ _ _ _ _ _ us hl => match us, hl with | [_], _ => rfl
  have Cc_laid : Cl P w K mg base L2.CX0 1 "laid" (SpD 1 (R_laid K)) := ⟨_, _, _, ok_laid F_laid , PySem.W.mg_of X G a_laid, ke_laid, b_laid⟩
  have F_crossings := fun_mk (st := s_crossings) l_crossings co_crossings ke_crossings
  have b_crossings := F_crossings.binds (ps := ["one", "other"]) fun _ _ _ _ _ _ us hl => match us, hl with | [_, _], _ => rfl
  have Cc_crossings : Cl P w K mg base L2.CX0 2 "crossings" (SpD 2 (R_crossings K)) := ⟨_, _, _, ok_crossings F_crossings Cc_laid (PySem.W.mg_none_of X G b_sum) (PySem.W.mg_none_of X G b_len) (PySem.W.mg_none_of X G b_enumerate), PySem.W.mg_of X G a_crossings, ke_crossings, b_crossings⟩
  have F_way_between := fun_mk (st := s_way_between) l_way_between co_way_between ke_way_between
  have b_way_between := F_way_between.binds (ps := ["one", "other"]) fun _ _ _ _ _ _ us hl => match us, hl with | [_, _], _ => rfl
  have Cc_way_between : Cl P w K mg base L2.CX0 2 "way_between" (SpD 2 (R_way_between K)) := ⟨_, _, _, ok_way_between F_way_between Cc_place_of (PySem.W.mg_none_of X G b_abs), PySem.W.mg_of X G a_way_between, ke_way_between, b_way_between⟩
  have F_Led_init := fun_mk (st := s_Led_init) l_Led_init co_Led_init ke_Led_init
  have b_Led_init := F_Led_init.binds (ps := ["self", "slides"]) fun _ _ _ _ _ _ us hl => match us, hl with | [_, _], _ => rfl
  have Kk_Led : MkC P w K mg base 1 "Led" a_Led (SpI a_Led ["slides"]) := ⟨_, _, _, ⟨mk_Led, a_Led_init, if_Led_init, mkk_Led⟩, ok_Led_init F_Led_init (⟨cg_Led, ch_Led, cp_Led, cs_Led⟩ : Cls K a_Led) na_n_Led_slides, (PySem.W.mg_of X G a_Led'), b_Led_init⟩
  have F_Odd_init := fun_mk (st := s_Odd_init) l_Odd_init co_Odd_init ke_Odd_init
  have b_Odd_init := F_Odd_init.binds (ps := ["self", "crossed", "steps"]) fun _ _ _ _ _ _ us hl => match us, hl with | [_, _, _], _ => rfl
  have Kk_Odd : MkC P w K mg base 1 "Odd" a_Odd (SpI a_Odd ["crossed", "steps"]) := ⟨_, _, _, ⟨mk_Odd, a_Odd_init, if_Odd_init, mkk_Odd⟩, ok_Odd_init F_Odd_init (⟨cg_Odd, ch_Odd, cp_Odd, cs_Odd⟩ : Cls K a_Odd) na_n_Odd_crossed na_n_Odd_steps, (PySem.W.mg_of X G a_Odd'), b_Odd_init⟩
  have F_Passed_init := fun_mk (st := s_Passed_init) l_Passed_init co_Passed_init ke_Passed_init
  have b_Passed_init := F_Passed_init.binds (ps := ["self", "one", "other"]) fun _ _ _ _ _ _ us hl => match us, hl with | [_, _, _], _ => rfl
  have Kk_Passed : MkC P w K mg base 1 "Passed" a_Passed (SpI a_Passed ["one", "other"]) := ⟨_, _, _, ⟨mk_Passed, a_Passed_init, if_Passed_init, mkk_Passed⟩, ok_Passed_init F_Passed_init (⟨cg_Passed, ch_Passed, cp_Passed, cs_Passed⟩ : Cls K a_Passed) na_n_Passed_one na_n_Passed_other, (PySem.W.mg_of X G a_Passed'), b_Passed_init⟩
  have F_Led_shows := fun_mk (st := s_Led_shows) l_Led_shows co_Led_shows ke_Led_shows
  have b_Led_shows := F_Led_shows.binds (ps := ["self", "one", "other"]) fun _ _ _ _ _ _ us hl => match us, hl with | [_, _, _], _ => rfl
  have Cc_Led_shows : MtC P w K mg base 4 a_Led "shows" (SpD 3 (R_Led_shows K a_Led)) := ⟨_, _, _, (⟨cg_Led, ch_Led, cp_Led, cs_Led⟩ : Cls K a_Led), ⟨a_Led_shows, if_Led_shows, ke_Led_shows⟩, ok_Led_shows F_Led_shows Cc_slid_all (⟨cg_Led, ch_Led, cp_Led, cs_Led⟩ : Cls K a_Led) na_n_Led_slides, b_Led_shows⟩
  have F_Odd_shows := fun_mk (st := s_Odd_shows) l_Odd_shows co_Odd_shows ke_Odd_shows
  have b_Odd_shows := F_Odd_shows.binds (ps := ["self", "one", "other"]) fun _ _ _ _ _ _ us hl => match us, hl with | [_, _, _], _ => rfl
  have Cc_Odd_shows : MtC P w K mg base 3 a_Odd "shows" (SpD 3 (R_Odd_shows K a_Odd)) := ⟨_, _, _, (⟨cg_Odd, ch_Odd, cp_Odd, cs_Odd⟩ : Cls K a_Odd), ⟨a_Odd_shows, if_Odd_shows, ke_Odd_shows⟩, ok_Odd_shows F_Odd_shows Cc_crossings Cc_way_between (⟨cg_Odd, ch_Odd, cp_Odd, cs_Odd⟩ : Cls K a_Odd) na_n_Odd_crossed na_n_Odd_steps (PySem.W.mg_none_of X G b_min) (PySem.W.mg_none_of X G b_len), b_Odd_shows⟩
  have F_Passed_shows := fun_mk (st := s_Passed_shows) l_Passed_shows co_Passed_shows ke_Passed_shows
  have b_Passed_shows := F_Passed_shows.binds (ps := ["self", "one", "other"]) fun _ _ _ _ _ _ us hl => match us, hl with | [_, _, _], _ => rfl
  have Cc_Passed_shows : MtC P w K mg base 2 a_Passed "shows" (SpD 3 (R_Passed_shows K a_Passed)) := ⟨_, _, _, (⟨cg_Passed, ch_Passed, cp_Passed, cs_Passed⟩ : Cls K a_Passed), ⟨a_Passed_shows, if_Passed_shows, ke_Passed_shows⟩, ok_Passed_shows F_Passed_shows Cc_laid (⟨cg_Passed, ch_Passed, cp_Passed, cs_Passed⟩ : Cls K a_Passed) na_n_Passed_one na_n_Passed_other (PySem.W.mg_none_of X G b_min) (PySem.W.mg_none_of X G b_len), b_Passed_shows⟩
  have F_law_crossed := fun_mk (st := s_law_crossed) l_law_crossed co_law_crossed ke_law_crossed
  have b_law_crossed := F_law_crossed.binds (ps := ["_law_one", "_law_other"]) fun _ _ _ _ _ _ us hl => match us, hl with | [_, _], _ => rfl
  have Cc_law_crossed : Cl P w K mg base L2.CX0 1 "_law_crossed" (SpD 2 (R_law_crossed K)) := ⟨_, _, _, ok_law_crossed F_law_crossed (PySem.W.mg_none_of X G b_sum) (PySem.W.mg_none_of X G b_range) (PySem.W.mg_none_of X G b_len), PySem.W.mg_of X G a_law_crossed, ke_law_crossed, b_law_crossed⟩
  have F_law_steps := fun_mk (st := s_law_steps) l_law_steps co_law_steps ke_law_steps
  have b_law_steps := F_law_steps.binds (ps := ["_law_one", "_law_other"]) fun _ _ _ _ _ _ us hl => match us, hl with | [_, _], _ => rfl
  have Cc_law_steps : Cl P w K mg base L2.CX0 2 "_law_steps" (SpD 2 (R_law_steps K)) := ⟨_, _, _, ok_law_steps F_law_steps Cc_law_place (PySem.W.mg_none_of X G b_abs), PySem.W.mg_of X G a_law_steps, ke_law_steps, b_law_steps⟩
  have F_law_passed := fun_mk (st := s_law_passed) l_law_passed co_law_passed ke_law_passed
  have b_law_passed := F_law_passed.binds (ps := ["_law_one", "_law_other", "_law_first", "_law_second"]) fun _ _ _ _ _ _ us hl => match us, hl with | [_, _, _, _], _ => rfl
  have Cc_law_passed : Cl P w K mg base L2.CX0 1 "_law_passed" (SpD 4 (R_law_passed K)) := ⟨_, _, _, ok_law_passed F_law_passed (PySem.W.mg_none_of X G b_sum) (PySem.W.mg_none_of X G b_min) (PySem.W.mg_none_of X G b_len), PySem.W.mg_of X G a_law_passed, ke_law_passed, b_law_passed⟩
  have F_law_says := fun_mk (st := s_law_says) l_law_says co_law_says ke_law_says
  have b_law_says := F_law_says.binds (ps := ["_law_said", "_law_due"]) fun _ _ _ _ _ _ us hl => match us, hl with | [_, _], _ => rfl
  have Cc_law_says : Cl P w K mg base L2.CX0 1 "_law_says" (SpD 2 (R_law_says K)) := ⟨_, _, _, ok_law_says F_law_says (PySem.W.mg_none_of X G b_isinstance) (PySem.W.mg_none_of X G b_bool), PySem.W.mg_of X G a_law_says, ke_law_says, b_law_says⟩
  have F_law_led_right := fun_mk (st := s_law_led_right) l_law_led_right co_law_led_right ke_law_led_right
  have b_law_led_right := F_law_led_right.binds (ps := ["_law_one", "_law_other", "_law_slides"]) fun _ _ _ _ _ _ us hl => match us, hl with | [_, _, _], _ => rfl
  have Cc_law_led_right : Cl P w K mg base L2.CX0 5 "_law_led_right" (SpD 3 (R_law_led_right K)) := ⟨_, _, _, ok_law_led_right F_law_led_right Kk_Led Cc_Led_shows Cc_law_slid Cc_law_says (⟨cg_Led, ch_Led, cp_Led, cs_Led⟩ : Cls K a_Led) na_n_Led_slides, PySem.W.mg_of X G a_law_led_right, ke_law_led_right, b_law_led_right⟩
  have F_law_odd_right := fun_mk (st := s_law_odd_right) l_law_odd_right co_law_odd_right ke_law_odd_right
  have b_law_odd_right := F_law_odd_right.binds (ps := ["_law_one", "_law_other", "_law_crossed_here", "_law_steps_here"]) fun _ _ _ _ _ _ us hl => match us, hl with | [_, _, _, _], _ => rfl
  have Cc_law_odd_right : Cl P w K mg base L2.CX0 4 "_law_odd_right" (SpD 4 (R_law_odd_right K)) := ⟨_, _, _, ok_law_odd_right F_law_odd_right Kk_Odd Cc_Odd_shows Cc_law_crossed Cc_law_steps Cc_law_says (⟨cg_Odd, ch_Odd, cp_Odd, cs_Odd⟩ : Cls K a_Odd) na_n_Odd_crossed na_n_Odd_steps (PySem.W.mg_none_of X G b_min) (PySem.W.mg_none_of X G b_len), PySem.W.mg_of X G a_law_odd_right, ke_law_odd_right, b_law_odd_right⟩
  have F_law_passed_right := fun_mk (st := s_law_passed_right) l_law_passed_right co_law_passed_right ke_law_passed_right
  have b_law_passed_right := F_law_passed_right.binds (ps := ["_law_one", "_law_other", "_law_first", "_law_second"]) fun _ _ _ _ _ _ us hl => match us, hl with | [_, _, _, _], _ => rfl
  have Cc_law_passed_right : Cl P w K mg base L2.CX0 3 "_law_passed_right" (SpD 4 (R_law_passed_right K)) := ⟨_, _, _, ok_law_passed_right F_law_passed_right Kk_Passed Cc_Passed_shows Cc_law_passed Cc_law_says (⟨cg_Passed, ch_Passed, cp_Passed, cs_Passed⟩ : Cls K a_Passed) na_n_Passed_one na_n_Passed_other, PySem.W.mg_of X G a_law_passed_right, ke_law_passed_right, b_law_passed_right⟩
  have F_law_right := fun_mk (st := s_law_right) l_law_right co_law_right ke_law_right
  have b_law_right := F_law_right.binds (ps := ["_law_one", "_law_other", "_law_slides", "_law_cell"]) fun _ _ _ _ _ _ us hl => match us, hl with | [_, _, _, _], _ => rfl
  have Cc_law_right : Cl P w K mg base L2.CX0 6 "_law_right" (SpD 4 (R_law_right K)) := ⟨_, _, _, ok_law_right F_law_right Cc_law_led_right Cc_law_odd_right Cc_law_passed_right Cc_law_crossed Cc_law_steps (PySem.W.mg_none_of X G b_len), PySem.W.mg_of X G a_law_right, ke_law_right, b_law_right⟩
  have F_law := fun_mk (st := s_law) l_law co_law ke_law
  exact ok_law F_law Cc_law_tray Cc_law_digits Cc_law_walk Cc_law_slid Cc_law_right Cc_law_says Kk_Led Cc_Led_shows Kk_Passed Cc_Passed_shows (PySem.W.mg_none_of X G b_sum) (PySem.W.mg_none_of X G b_enumerate)
theorem law_sp {K : PySem.W.Frag} {H : Hp} {a : Addr} {ns : List Int} (h1 : ns.length ≤ 63) (h2 : ∀ z ∈ ns, Builtin.Int.intBits z ≤ 1048576) (h3 : SqL K H a (ns.map V.int)) : SpD 1 (R_law K) [.ref a] H (fun v _ => v = .bl true) fun _ _ _ => False :=
  ⟨H, [SqA K ns], .ret (Dt K (.bool true)), rfl, Same.refl H, .cons ⟨a, rfl, h3⟩ .nil, ⟨ns, rfl, h1, h2, rfl⟩, fun v Hf1 H1 e1 pv => dt_bl pv⟩
theorem walk_SL {l : PySem.W.OpenLaw} {n k : Nat} {q : Program} {loose : List Str} {XP : (Str → Option Value) → Heap → Prop} {YP : World → Heap → Prop} {d : DefRec} {K : Params → PySem.W.Frag} {x : Str} (R : PySem.W.Frag → List As → Outc → Prop)
    (hn : l.most = some n) (hn2 : n ≤ sizeLine) (hdf : d.params.defaults = []) (hr : Room k callerA) (hY : ∀ (w : World) (h : Heap), YP w h → (K w.params).In h)
    (F : ∀ (w : World) (mg : Str → Option Value) (fa : Addr) (h : Heap), (K w.params).In h → h.Ns mainGlobals mg → mg d.name = some (.ref fa) →
      ∃ fd : FuncData, (∀ (s : Shared) (u : Value), BindsTo s fd ⟨[u], []⟩ [(x, u)]) ∧ ∀ base : Heap, (K w.params).In base → base.Ns mainGlobals mg → FnOk l.prog w (K w.params) mg base L2.CX0 k fa fd [x] (SpD 1 (R (K w.params))))
    (hsp : ∀ (w : World) (H : Hp) (a : Addr) (ns : List Int), ns.length ≤ n → (∀ z ∈ ns, Builtin.Int.intBits z ≤ 1048576) → Only H → SqL (K w.params) H a (ns.map V.int) → SpD 1 (R (K w.params)) [.ref a] H (fun v _ => v = .bl true) fun _ _ _ => False) :
    PySem.W.WalkO q loose XP YP l.row.toRowW d [] (fun f vs => PySem.call f vs) :=
  L2.walk_ofB (CX := fun _ => L2.CX0) (sp := fun w => SpD 1 (R (K w.params))) hn hn2 hdf hr hY F hsp (fun _ _ _ _ _ h => h)
end
end SL
open PySem PySem.W PyProof.Rows
set_option maxHeartbeats 0
open_top headK for PySem.Challenge.rw_slidetray_k04_answers_by_hand
theorem PySem.Challenge.cw_slidetray_k04_answers_by_hand_holds : PySem.Challenge.rw_slidetray_k04_answers_by_hand.Holds := by
  refine headK ?_
  k_fill
  refine SL.walk_SL (l := PySem.Challenge.rw_slidetray_k04_answers_by_hand) (n := 63) (k := 7) (x := "_law_script") SL.R_law rfl (by decide) rfl ⟨rfl, by decide, by decide⟩ (fun w h Y => PySem.W.kIn_of Y) ?F ?S
  case F =>
    intro w mg fa h KX G hmg
    refine' SL.all_mk KX G hmg ?b_enumerate ?a_place_of ?a_STEPS_p ?b_len ?b_list ?a_slid ?a_slid_all ?b_range ?a_law_order ?a_law_digits ?a_law_tray ?a_law_place ?a_law_slid ?a_law_walk ?a_laid ?b_sum ?a_crossings ?b_abs ?a_way_between ?a_Led_p ?a_Odd_p ?a_Passed_p ?b_min ?a_law_crossed ?a_law_steps ?a_law_passed ?b_isinstance ?b_bool ?a_law_says ?a_law_led_right ?a_law_odd_right ?a_law_passed_right ?a_law_right ?a_law ?a_Led_init ?a_Odd_init ?a_Passed_init ?a_Led_shows ?a_Odd_shows ?a_Passed_shows ?l_place_of ?co_place_of ?ke_place_of ?dl_STEPS ?dk_STEPS ?do_STEPS ?s_u ?s_d ?s_l ?s_r ?sv_u_l ?sv_u_c ?sv_u_d ?sv_u_s ?sv_u_v ?sv_d_l ?sv_d_c ?sv_d_d ?sv_d_s ?sv_d_v ?sv_l_l ?sv_l_c ?sv_l_d ?sv_l_s ?sv_l_v ?sv_r_l ?sv_r_c ?sv_r_d ?sv_r_s ?sv_r_v ?so_0 ?so_1 ?so_2 ?so_3 ?l_slid ?co_slid ?ke_slid ?l_slid_all ?co_slid_all ?ke_slid_all ?l_law_order ?co_law_order ?ke_law_order ?l_law_digits ?co_law_digits ?ke_law_digits ?l_law_tray ?co_law_tray ?ke_law_tray ?l_law_place ?co_law_place ?ke_law_place ?l_law_slid ?co_law_slid ?ke_law_slid ?l_law_walk ?co_law_walk ?ke_law_walk ?l_laid ?co_laid ?ke_laid ?l_crossings ?co_crossings ?ke_crossings ?l_way_between ?co_way_between ?ke_way_between ?cg_Led ?ch_Led ?cp_Led ?cs_Led ?na_n_Led_slides ?if_Led_init ?l_Led_init ?co_Led_init ?ke_Led_init ?mk_Led ?mkk_Led ?cg_Odd ?ch_Odd ?cp_Odd ?cs_Odd ?na_n_Odd_crossed ?na_n_Odd_steps ?if_Odd_init ?l_Odd_init ?co_Odd_init ?ke_Odd_init ?mk_Odd ?mkk_Odd ?cg_Passed ?ch_Passed ?cp_Passed ?cs_Passed ?na_n_Passed_one ?na_n_Passed_other ?if_Passed_init ?l_Passed_init ?co_Passed_init ?ke_Passed_init ?mk_Passed ?mkk_Passed ?if_Led_shows ?l_Led_shows ?co_Led_shows ?ke_Led_shows ?if_Odd_shows ?l_Odd_shows ?co_Odd_shows ?ke_Odd_shows ?if_Passed_shows ?l_Passed_shows ?co_Passed_shows ?ke_Passed_shows ?l_law_crossed ?co_law_crossed ?ke_law_crossed ?l_law_steps ?co_law_steps ?ke_law_steps ?l_law_passed ?co_law_passed ?ke_law_passed ?l_law_says ?co_law_says ?ke_law_says ?l_law_led_right ?co_law_led_right ?ke_law_led_right ?l_law_odd_right ?co_law_odd_right ?ke_law_odd_right ?l_law_passed_right ?co_law_passed_right ?ke_law_passed_right ?l_law_right ?co_law_right ?ke_law_right ?l_law ?co_law ?ke_law
    (case b_enumerate => k_is)
    (case a_place_of => k_is)
    (case a_STEPS_p => k_is)
    (case b_len => k_is)
    (case b_list => k_is)
    (case a_slid => k_is)
    (case a_slid_all => k_is)
    (case b_range => k_is)
    (case a_law_order => k_is)
    (case a_law_digits => k_is)
    (case a_law_tray => k_is)
    (case a_law_place => k_is)
    (case a_law_slid => k_is)
    (case a_law_walk => k_is)
    (case a_laid => k_is)
    (case b_sum => k_is)
    (case a_crossings => k_is)
    (case b_abs => k_is)
    (case a_way_between => k_is)
    (case a_Led_p => k_is)
    (case a_Odd_p => k_is)
    (case a_Passed_p => k_is)
    (case b_min => k_is)
    (case a_law_crossed => k_is)
    (case a_law_steps => k_is)
    (case a_law_passed => k_is)
    (case b_isinstance => k_is)
    (case b_bool => k_is)
    (case a_law_says => k_is)
    (case a_law_led_right => k_is)
    (case a_law_odd_right => k_is)
    (case a_law_passed_right => k_is)
    (case a_law_right => k_is)
    (case a_law => k_is)
    (case a_Led_init => k_is)
    (case a_Odd_init => k_is)
    (case a_Passed_init => k_is)
    (case a_Led_shows => k_is)
    (case a_Odd_shows => k_is)
    (case a_Passed_shows => k_is)
    (case l_place_of => k_is)
    (case co_place_of => k_is)
    (case ke_place_of => k_is)
    (case dl_STEPS => k_is)
    (case dk_STEPS => exact ⟨⟨_, _, rfl, rfl⟩, ⟨_, _, rfl, rfl⟩, ⟨_, _, rfl, rfl⟩, ⟨_, _, rfl, rfl⟩, trivial⟩)
    (case do_STEPS => rfl)
    (case s_u => k_is)
    (case s_d => k_is)
    (case s_l => k_is)
    (case s_r => k_is)
    (case sv_u_l => k_is)
    (case sv_u_c => rfl)
    (case sv_u_d => rfl)
    (case sv_u_s => decide)
    (case sv_u_v => exact .cons ⟨_, rfl⟩ (.cons ⟨_, rfl⟩ (.nil)))
    (case sv_d_l => k_is)
    (case sv_d_c => rfl)
    (case sv_d_d => rfl)
    (case sv_d_s => decide)
    (case sv_d_v => exact .cons ⟨_, rfl⟩ (.cons ⟨_, rfl⟩ (.nil)))
    (case sv_l_l => k_is)
    (case sv_l_c => rfl)
    (case sv_l_d => rfl)
    (case sv_l_s => decide)
    (case sv_l_v => exact .cons ⟨_, rfl⟩ (.cons ⟨_, rfl⟩ (.nil)))
    (case sv_r_l => k_is)
    (case sv_r_c => rfl)
    (case sv_r_d => rfl)
    (case sv_r_s => decide)
    (case sv_r_v => exact .cons ⟨_, rfl⟩ (.cons ⟨_, rfl⟩ (.nil)))
    (case so_0 => k_is)
    (case so_1 => k_is)
    (case so_2 => k_is)
    (case so_3 => k_is)
    (case l_slid => k_is)
    (case co_slid => k_is)
    (case ke_slid => k_is)
    (case l_slid_all => k_is)
    (case co_slid_all => k_is)
    (case ke_slid_all => k_is)
    (case l_law_order => k_is)
    (case co_law_order => k_is)
    (case ke_law_order => k_is)
    (case l_law_digits => k_is)
    (case co_law_digits => k_is)
    (case ke_law_digits => k_is)
    (case l_law_tray => k_is)
    (case co_law_tray => k_is)
    (case ke_law_tray => k_is)
    (case l_law_place => k_is)
    (case co_law_place => k_is)
    (case ke_law_place => k_is)
    (case l_law_slid => k_is)
    (case co_law_slid => k_is)
    (case ke_law_slid => k_is)
    (case l_law_walk => k_is)
    (case co_law_walk => k_is)
    (case ke_law_walk => k_is)
    (case l_laid => k_is)
    (case co_laid => k_is)
    (case ke_laid => k_is)
    (case l_crossings => k_is)
    (case co_crossings => k_is)
    (case ke_crossings => k_is)
    (case l_way_between => k_is)
    (case co_way_between => k_is)
    (case ke_way_between => k_is)
    (case cg_Led => k_is)
    (case ch_Led => k_is)
    (case cp_Led => k_is)
    (case cs_Led => k_is)
    (case na_n_Led_slides => k_is)
    (case if_Led_init => k_is)
    (case l_Led_init => k_is)
    (case co_Led_init => k_is)
    (case ke_Led_init => k_is)
    (case mk_Led => k_is)
    (case mkk_Led => k_is)
    (case cg_Odd => k_is)
    (case ch_Odd => k_is)
    (case cp_Odd => k_is)
    (case cs_Odd => k_is)
    (case na_n_Odd_crossed => k_is)
    (case na_n_Odd_steps => k_is)
    (case if_Odd_init => k_is)
    (case l_Odd_init => k_is)
    (case co_Odd_init => k_is)
    (case ke_Odd_init => k_is)
    (case mk_Odd => k_is)
    (case mkk_Odd => k_is)
    (case cg_Passed => k_is)
    (case ch_Passed => k_is)
    (case cp_Passed => k_is)
    (case cs_Passed => k_is)
    (case na_n_Passed_one => k_is)
    (case na_n_Passed_other => k_is)
    (case if_Passed_init => k_is)
    (case l_Passed_init => k_is)
    (case co_Passed_init => k_is)
    (case ke_Passed_init => k_is)
    (case mk_Passed => k_is)
    (case mkk_Passed => k_is)
    (case if_Led_shows => k_is)
    (case l_Led_shows => k_is)
    (case co_Led_shows => k_is)
    (case ke_Led_shows => k_is)
    (case if_Odd_shows => k_is)
    (case l_Odd_shows => k_is)
    (case co_Odd_shows => k_is)
    (case ke_Odd_shows => k_is)
    (case if_Passed_shows => k_is)
    (case l_Passed_shows => k_is)
    (case co_Passed_shows => k_is)
    (case ke_Passed_shows => k_is)
    (case l_law_crossed => k_is)
    (case co_law_crossed => k_is)
    (case ke_law_crossed => k_is)
    (case l_law_steps => k_is)
    (case co_law_steps => k_is)
    (case ke_law_steps => k_is)
    (case l_law_passed => k_is)
    (case co_law_passed => k_is)
    (case ke_law_passed => k_is)
    (case l_law_says => k_is)
    (case co_law_says => k_is)
    (case ke_law_says => k_is)
    (case l_law_led_right => k_is)
    (case co_law_led_right => k_is)
    (case ke_law_led_right => k_is)
    (case l_law_odd_right => k_is)
    (case co_law_odd_right => k_is)
    (case ke_law_odd_right => k_is)
    (case l_law_passed_right => k_is)
    (case co_law_passed_right => k_is)
    (case ke_law_passed_right => k_is)
    (case l_law_right => k_is)
    (case co_law_right => k_is)
    (case ke_law_right => k_is)
    (case l_law => k_is)
    (case co_law => k_is)
    (case ke_law => k_is)
  case S =>
    intro w H a ns h1 h2 _ h3
    exact SL.law_sp h1 h2 h3
