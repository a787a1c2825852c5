import PyProof.Rows.All
import PySem.Challenge.RW_ladder_k08_rungs_and_depths
import Wide.All
import OpenK.AllK
import Wide.FinOn
import PyProof.EqAt
import PyProof.EqKinds
import PyProof.TupleCall
import HandS.ForMost
import HandS.ForExc
import HandS.Wide
import HandS.WideBits
import HandS.Flow
import HandS.TupAny
import HandS.TupMul
import HandS.Deep
import HandS.Defaults
import HandS.WordsExc
import HandS.Head0
import HandS.Head1
import HandS.Head2
import HandS.HeadEnd
import HandS.IsInst
import HandS.Flt
import HandS.Conv
import KE.DataCmp
import KE.SortData
import HandS.Zip
import HandS.HeadHook1
import HandS.HeadHook2
import KE.KStateDown
import Lean
import HandS.Ends
import HandS.More
import HandS.Words
set_option Elab.async false
set_option linter.all false
set_option maxRecDepth 100000
set_option maxHeartbeats 1000000
/-! DL: a layer of plain data over L2: values are trees, lists are owned by a local or frozen. Part 1: data, heaps, environments, the lifts. -/
namespace DL
open PySem PySem.Spec PyProof.Rows L2

abbrev St := L2.St
/-- plain data -/
inductive D where
  | non | bl (b : Bool) | int (i : Int) | str (s : Str) | tup (l : List D) | lst (l : List D)

/-- a list that K holds -/
def KL (K : PySem.W.Frag) (a : Addr) (xs : List V) : Prop := ∃ (o : Obj) (its : Array Value) (n : Nat), K.lookup a = some o ∧ o.cls = .type "list" ∧ o.dict = none ∧ o.data = .seq its n ∧ its.size ≤ sizeLine ∧ Vals xs its.toList
/-- a list that stays: a frozen one, a known one -/
def LsF (K : PySem.W.Frag) (H : Hp) (F : Addr → Prop) (a : Addr) (xs : List V) : Prop := (F a ∧ Rd H a (.lst xs)) ∨ KL K a xs
theorem LsF.sq {K : PySem.W.Frag} {H : Hp} {F : Addr → Prop} {a : Addr} {xs : List V} (h : LsF K H F a xs) : SqL K H a xs := by
  rcases h with h | h
  · exact .inl h.2
  · exact .inr h
mutual
/-- v stands for d in the heap H; lists within are frozen ones (F) -/
def Rep (K : PySem.W.Frag) (H : Hp) (F : Addr → Prop) : D → V → Prop
  | .non, v => v = .non
  | .bl b, v => v = .bl b
  | .int i, v => v = .int i
  | .str s, v => v = .str s
  | .tup ds, v => ∃ a vs, v = .ref a ∧ SqT K H a vs ∧ Reps K H F ds vs
  | .lst ds, v => ∃ a vs, v = .ref a ∧ LsF K H F a vs ∧ Reps K H F ds vs
def Reps (K : PySem.W.Frag) (H : Hp) (F : Addr → Prop) : List D → List V → Prop
  | [], vs => vs = []
  | d :: ds, vs => ∃ v r, vs = v :: r ∧ Rep K H F d v ∧ Reps K H F ds r
end

section
variable {K : PySem.W.Frag} {H H' H1 H2 : Hp} {F F' F1 F2 : Addr → Prop}

theorem Reps.length : ∀ {ds : List D} {vs : List V}, Reps K H F ds vs → vs.length = ds.length
  | [], vs, h => by
    have h : vs = [] := by simpa [Reps] using h
    rw [h]; rfl
  | d :: ds, vs, h => by
    rw [Reps] at h
    obtain ⟨v, r, rfl, _, h2⟩ := h
    rw [List.length_cons, List.length_cons, Reps.length h2]
theorem Reps.nil : Reps K H F [] [] := by rw [Reps]
theorem Reps.cons {d : D} {v : V} {ds : List D} {vs : List V} (h : Rep K H F d v) (t : Reps K H F ds vs) : Reps K H F (d :: ds) (v :: vs) := by
  rw [Reps]; exact ⟨v, vs, rfl, h, t⟩
theorem Reps.append : ∀ {ds es : List D} {vs us : List V}, Reps K H F ds vs → Reps K H F es us → Reps K H F (ds ++ es) (vs ++ us)
  | [], es, vs, us, h, t => by
    rw [Reps] at h; subst h; exact t
  | d :: ds, es, vs, us, h, t => by
    rw [Reps] at h
    obtain ⟨v, r, rfl, h1, h2⟩ := h
    exact Reps.cons h1 (Reps.append h2 t)
theorem Reps.get : ∀ {ds : List D} {vs : List V} {i : Nat} {d : D}, Reps K H F ds vs → ds[i]? = some d → ∃ v, vs[i]? = some v ∧ Rep K H F d v
  | [], _, _, _, _, e => by simp at e
  | d :: ds, vs, i, x, h, e => by
    rw [Reps] at h
    obtain ⟨v, r, rfl, h1, h2⟩ := h
    cases i with
    | zero => simp at e; subst e; exact ⟨v, rfl, h1⟩
    | succ i => exact (by simpa using Reps.get (i := i) h2 (by simpa using e))
theorem Reps.get' {ds : List D} {vs : List V} {i : Nat} {v : V} (h : Reps K H F ds vs) (e : vs[i]? = some v) : ∃ d, ds[i]? = some d ∧ Rep K H F d v := by
  have hl := h.length
  have hi : i < ds.length := by rw [← hl]; exact (List.getElem?_eq_some_iff.mp e).1
  obtain ⟨u, hu, r⟩ := h.get (i := i) (d := ds[i]) (List.getElem?_eq_getElem hi)
  rw [e] at hu; cases hu
  exact ⟨_, List.getElem?_eq_getElem hi, r⟩
theorem Reps.take : ∀ (n : Nat) {ds : List D} {vs : List V}, Reps K H F ds vs → Reps K H F (ds.take n) (vs.take n)
  | 0, ds, vs, _ => by simp; exact Reps.nil
  | n + 1, [], vs, h => by rw [Reps] at h; subst h; simp; exact Reps.nil
  | n + 1, d :: ds, vs, h => by
    rw [Reps] at h
    obtain ⟨v, r, rfl, h1, h2⟩ := h
    exact Reps.cons h1 (Reps.take n h2)
theorem Reps.drop : ∀ (n : Nat) {ds : List D} {vs : List V}, Reps K H F ds vs → Reps K H F (ds.drop n) (vs.drop n)
  | 0, ds, vs, h => h
  | n + 1, [], vs, h => by rw [Reps] at h; subst h; simp; exact Reps.nil
  | n + 1, d :: ds, vs, h => by
    rw [Reps] at h
    obtain ⟨v, r, rfl, h1, h2⟩ := h
    exact Reps.drop n h2
theorem Reps.set : ∀ (i : Nat) {d : D} {v : V} {ds : List D} {vs : List V}, Rep K H F d v → Reps K H F ds vs → Reps K H F (ds.set i d) (vs.set i v)
  | i, d, v, [], vs, _, h => by rw [Reps] at h; subst h; simp; exact Reps.nil
  | 0, d, v, _ :: ds, vs, r, h => by
    rw [Reps] at h
    obtain ⟨_, t, rfl, _, h2⟩ := h
    exact Reps.cons r h2
  | i + 1, d, v, e :: ds, vs, r, h => by
    rw [Reps] at h
    obtain ⟨_, t, rfl, h1, h2⟩ := h
    exact Reps.cons h1 (Reps.set i r h2)

/-- what stays: the frozen things, the tuples, the known things -/
structure Fut (H : Hp) (F : Addr → Prop) (H' : Hp) (F' : Addr → Prop) : Prop where
  keep : ∀ a o, F a → H a = some o → H' a = some o
  tups : ∀ a xs, H a = some (.tup xs) → H' a = some (.tup xs)
  frzs : ∀ a o u, H a = some (.frz o u) → H' a = some (.frz o u)
  mono : ∀ a, F a → F' a
theorem Fut.refl : Fut H F H F := ⟨fun _ _ _ h => h, fun _ _ h => h, fun _ _ _ h => h, fun _ h => h⟩
theorem Fut.trans (a : Fut H F H1 F1) (b : Fut H1 F1 H2 F2) : Fut H F H2 F2 :=
  ⟨fun x o f h => b.keep x o (a.mono x f) (a.keep x o f h), fun x xs h => b.tups x xs (a.tups x xs h), fun x o u h => b.frzs x o u (a.frzs x o u h), fun x f => b.mono x (a.mono x f)⟩
theorem Fut.rd {a : Addr} {u : HO} (f : Fut H F H' F') (h : Rd H a u) (hk : F a ∨ ∃ xs, u = .tup xs) : Rd H' a u := by
  rcases h with h | ⟨o, h⟩
  · rcases hk with hk | ⟨xs, rfl⟩
    · exact .inl (f.keep a _ hk h)
    · exact .inl (f.tups a _ h)
  · exact .inr ⟨o, f.frzs a _ _ h⟩
theorem Fut.sqT {a : Addr} {vs : List V} (f : Fut H F H' F') (h : SqT K H a vs) : SqT K H' a vs := by
  rcases h with h | h
  · exact .inl (f.rd h (.inr ⟨_, rfl⟩))
  · exact .inr h
theorem Fut.sqL {a : Addr} {vs : List V} (f : Fut H F H' F') (hf : F a) (h : SqL K H a vs) : SqL K H' a vs := by
  rcases h with h | h
  · exact .inl (f.rd h (.inl hf))
  · exact .inr h
theorem Fut.lsF {a : Addr} {vs : List V} (f : Fut H F H' F') (h : LsF K H F a vs) : LsF K H' F' a vs := by
  rcases h with h | h
  · exact .inl ⟨f.mono a h.1, f.rd h.2 (.inl h.1)⟩
  · exact .inr h
mutual
theorem Fut.rep (f : Fut H F H' F') : ∀ (d : D) (v : V), Rep K H F d v → Rep K H' F' d v
  | .non, v, h => by rw [Rep] at h ⊢; exact h
  | .bl _, v, h => by rw [Rep] at h ⊢; exact h
  | .int _, v, h => by rw [Rep] at h ⊢; exact h
  | .str _, v, h => by rw [Rep] at h ⊢; exact h
  | .tup ds, v, h => by
    rw [Rep] at h ⊢
    obtain ⟨a, vs, e, s, r⟩ := h
    exact ⟨a, vs, e, f.sqT s, Fut.reps f ds vs r⟩
  | .lst ds, v, h => by
    rw [Rep] at h ⊢
    obtain ⟨a, vs, e, s, r⟩ := h
    exact ⟨a, vs, e, f.lsF s, Fut.reps f ds vs r⟩
theorem Fut.reps (f : Fut H F H' F') : ∀ (ds : List D) (vs : List V), Reps K H F ds vs → Reps K H' F' ds vs
  | [], vs, h => by rw [Reps] at h ⊢; exact h
  | d :: ds, vs, h => by
    rw [Reps] at h ⊢
    obtain ⟨v, r, e, h1, h2⟩ := h
    exact ⟨v, r, e, Fut.rep f d v h1, Fut.reps f ds r h2⟩
end

/-- the contents of a list (later: of a dict) at a -/
def Cont (K : PySem.W.Frag) (H : Hp) (F : Addr → Prop) (a : Addr) : D → Prop
  | .lst ds => ∃ vs, H a = some (.lst vs) ∧ Reps K H F ds vs
  | _ => False
/-- .. that one local owns -/
def Own (K : PySem.W.Frag) (H : Hp) (F : Addr → Prop) (a : Addr) (d : D) : Prop := ¬ F a ∧ Cont K H F a d
theorem Cont.mt {a : Addr} {d : D} (h : Cont K H F a d) : Mut (H a) := by
  cases d with
  | lst ds =>
    obtain ⟨vs, e, _⟩ := h
    rw [e]; trivial
  | _ => exact h.elim
theorem Cont.isS {a : Addr} {d : D} (h : Cont K H F a d) : ∃ o, H a = some o := by
  cases d with
  | lst ds =>
    obtain ⟨vs, e, _⟩ := h
    exact ⟨_, e⟩
  | _ => exact h.elim
theorem Cont.fut {a : Addr} {d : D} (h : Cont K H F a d) (f : Fut H F H' F') (k : ∀ o, H a = some o → H' a = some o) : Cont K H' F' a d := by
  cases d with
  | lst ds =>
    obtain ⟨vs, e, r⟩ := h
    exact ⟨vs, k _ e, f.reps _ _ r⟩
  | _ => exact h.elim
theorem Own.mt {a : Addr} {d : D} (h : Own K H F a d) : Mut (H a) ∧ ¬ F a := ⟨h.2.mt, h.1⟩
theorem Own.isS {a : Addr} {d : D} (h : Own K H F a d) : ∃ o, H a = some o := h.2.isS

/-- a step: what is not of S stays; S: owned things that may have been changed or frozen -/
structure Stp (S : Addr → Prop) (H : Hp) (F : Addr → Prop) (H' : Hp) (F' : Addr → Prop) : Prop where
  keep : ∀ a o, H a = some o → ¬ S a → H' a = some o
  there : ∀ a o, H a = some o → ∃ o', H' a = some o'
  mono : ∀ a, F a → F' a
  back : ∀ a, F' a → F a ∨ H a = none ∨ S a
  trk : ∀ a, F' a → F a ∨ ∃ o, H' a = some o
  mt : ∀ a, S a → Mut (H a) ∧ ¬ F a
variable {S S' S1 : Addr → Prop}
theorem Stp.fut (s : Stp S H F H' F') : Fut H F H' F' := by
  refine ⟨fun a o f h => s.keep a o h fun z => (s.mt a z).2 f, fun a xs h => s.keep a _ h fun z => ?_, fun a o u h => s.keep a _ h fun z => ?_, s.mono⟩
  · have q := (s.mt a z).1; rw [h] at q; exact q
  · have q := (s.mt a z).1; rw [h] at q; exact q
theorem Stp.refl (m : ∀ a, S a → Mut (H a) ∧ ¬ F a) : Stp S H F H F := ⟨fun _ _ h _ => h, fun _ o h => ⟨o, h⟩, fun _ h => h, fun _ h => .inl h, fun _ h => .inl h, m⟩
theorem Stp.new_of (s : Stp S H F H' F') {a : Addr} (h : H' a = none) : H a = none := by
  cases e : H a with
  | none => rfl
  | some o =>
    obtain ⟨o', q⟩ := s.there a o e
    rw [h] at q; cases q
theorem Stp.trans (a : Stp S H F H1 F1) (b : Stp S1 H1 F1 H2 F2) (h : ∀ x, S1 x → S x ∨ H x = none) : Stp S H F H2 F2 := by
  refine ⟨fun x o e n => b.keep x o (a.keep x o e n) fun z => ?_, fun x o e => ?_, fun x f => b.mono x (a.mono x f), fun x f => ?_, fun x f => ?_, a.mt⟩
  · rcases h x z with q | q
    · exact n q
    · rw [e] at q; cases q
  · obtain ⟨o', e'⟩ := a.there x o e
    exact b.there x o' e'
  · rcases b.back x f with q | q | q
    · exact a.back x q
    · exact .inr (.inl (a.new_of q))
    · rcases h x q with z | z
      · exact .inr (.inr z)
      · exact .inr (.inl z)
  · rcases b.trk x f with q | q
    · rcases a.trk x q with q | ⟨o, q⟩
      · exact .inl q
      · exact .inr (b.there x o q)
    · exact .inr q
theorem Stp.wider (s : Stp S H F H' F') (h : ∀ a, S a → S' a) (m : ∀ a, S' a → Mut (H a) ∧ ¬ F a) : Stp S' H F H' F' :=
  ⟨fun a o e n => s.keep a o e fun z => n (h a z), s.there, s.mono, fun a f => (s.back a f).elim .inl fun z => .inr (z.elim .inl fun q => .inr (h a q)), s.trk, m⟩
/-- an owned thing that is not of S stays owned -/
theorem Stp.own (s : Stp S H F H' F') {a : Addr} {d : D} (h : Own K H F a d) (n : ¬ S a) : Own K H' F' a d := by
  refine ⟨fun z => ?_, h.2.fut s.fut fun o e => s.keep a o e n⟩
  rcases s.back a z with q | q | q
  · exact h.1 q
  · obtain ⟨o, e⟩ := h.isS
    rw [e] at q; cases q
  · exact n q
/-- a new thing is tracked, nothing else -/
theorem Stp.new {a : Addr} {o : HO} (hn : H a = none) (m : ∀ a, S a → Mut (H a) ∧ ¬ F a) : Stp S H F (upd H a o) F :=
  ⟨fun b u e _ => by rw [upd_ne (ne_of_none e hn)]; exact e, fun b u e => ⟨u, by rw [upd_ne (ne_of_none e hn)]; exact e⟩, fun _ h => h, fun _ h => .inl h, fun _ h => .inl h, m⟩
end

/-! ### environments -/
inductive Sl where
  | no | val (d : D) | own (d : D)
abbrev DEnv := List Sl
def SlotOk (K : PySem.W.Frag) (H : Hp) (F : Addr → Prop) (ov : Option V) : Sl → Prop
  | .no => True
  | .val d => ∃ v, ov = some v ∧ Rep K H F d v
  | .own d => ∃ a, ov = some (.ref a) ∧ Own K H F a d
structure ER (K : PySem.W.Frag) (H : Hp) (F : Addr → Prop) (σ : St) (ρ : DEnv) : Prop where
  len : σ.length = ρ.length
  at_ : ∀ (i : Nat) s, ρ[i]? = some s → SlotOk K H F (σ[i]?.join) s
  trk : ∀ a, F a → ∃ o, H a = some o
  sep : ∀ (i j : Nat) d e a, ρ[i]? = some (.own d) → ρ[j]? = some (.own e) → σ[i]? = some (some (.ref a)) → σ[j]? = some (some (.ref a)) → i = j
/-- the owned things of a frame -/
def Root (σ : St) (ρ : DEnv) (a : Addr) : Prop := ∃ (i : Nat) (d : D), ρ[i]? = some (.own d) ∧ σ[i]? = some (some (.ref a))
section
variable {K : PySem.W.Frag} {H H' H0 H1 H2 : Hp} {F F' F1 F2 : Addr → Prop} {σ : St} {ρ ρ' ρ1 ρ2 : DEnv} {S : Addr → Prop}
theorem ER.slot {i : Nat} {d : D} (e : ER K H F σ ρ) (h : ρ[i]? = some (.val d)) : ∃ v, σ[i]? = some (some v) ∧ Rep K H F d v := by
  obtain ⟨v, hv, r⟩ := e.at_ i _ h
  refine ⟨v, ?_, r⟩
  cases q : σ[i]? with
  | none => rw [q] at hv; cases hv
  | some o => rw [q] at hv; rw [show o = some v from hv]
theorem ER.owned {i : Nat} {d : D} (e : ER K H F σ ρ) (h : ρ[i]? = some (.own d)) : ∃ a, σ[i]? = some (some (.ref a)) ∧ Own K H F a d := by
  obtain ⟨a, hv, r⟩ := e.at_ i _ h
  refine ⟨a, ?_, r⟩
  cases q : σ[i]? with
  | none => rw [q] at hv; cases hv
  | some o => rw [q] at hv; rw [show o = some (.ref a) from hv]
theorem ER.mt (e : ER K H F σ ρ) : ∀ a, Root σ ρ a → Mut (H a) ∧ ¬ F a := by
  rintro a ⟨i, d, h1, h2⟩
  obtain ⟨b, hb, o⟩ := e.owned h1
  rw [h2] at hb; cases hb
  exact o.mt
theorem ER.isS (e : ER K H F σ ρ) {a : Addr} (r : Root σ ρ a) : ∃ o, H a = some o := by
  obtain ⟨i, d, h1, h2⟩ := r
  obtain ⟨b, hb, o⟩ := e.owned h1
  rw [h2] at hb; cases hb
  exact o.isS
theorem ER.refl (e : ER K H F σ ρ) : Stp (Root σ ρ) H F H F := Stp.refl e.mt
/-- an environment behind a step that leaves its owned things -/
theorem ER.step (e : ER K H F σ ρ) (s : Stp S H F H' F') (n : ∀ a, Root σ ρ a → ¬ S a) : ER K H' F' σ ρ := by
  refine ⟨e.len, fun i sl h => ?_, fun a f => ?_, e.sep⟩
  rotate_left
  · rcases s.trk a f with q | q
    · obtain ⟨o, q⟩ := e.trk a q
      exact s.there a o q
    · exact q
  cases sl with
  | no => trivial
  | val d =>
    obtain ⟨v, hv, r⟩ := e.slot h
    exact ⟨v, by rw [hv]; rfl, s.fut.rep _ _ r⟩
  | own d =>
    obtain ⟨a, ha, o⟩ := e.owned h
    exact ⟨a, by rw [ha]; rfl, s.own o (n a ⟨i, d, h, ha⟩)⟩

/-! ### what an expression hands on: data; a new list; a place -/
inductive RV where
  | d (x : D) | fresh (x : D) | plc (i : Nat)
def RRel (K : PySem.W.Frag) (H0 H : Hp) (F : Addr → Prop) (σ : St) : RV → V → Prop
  | .d x, v => Rep K H F x v
  | .fresh x, v => ∃ a, v = .ref a ∧ H0 a = none ∧ Own K H F a x
  | .plc i, v => σ[i]? = some (some v)
theorem RRel.step {r : RV} {v : V} (h : RRel K H0 H F σ r v) (s : Stp S H F H' F') (n : ∀ a, H0 a = none → ¬ S a) : RRel K H0 H' F' σ r v := by
  cases r with
  | d x => exact s.fut.rep _ _ h
  | fresh x =>
    obtain ⟨a, e, h0, o⟩ := h
    exact ⟨a, e, h0, s.own o (n a h0)⟩
  | plc i => exact h
theorem RRel.since {r : RV} {v : V} (h : RRel K H0 H F σ r v) (n : ∀ a, H0 a = none → H1 a = none) : RRel K H1 H F σ r v := by
  cases r with
  | d x => exact h
  | fresh x =>
    obtain ⟨a, e, h0, o⟩ := h
    exact ⟨a, e, n a h0, o⟩
  | plc i => exact h
/-- the same, a new list may have been frozen meanwhile -/
def WRel (K : PySem.W.Frag) (H0 H : Hp) (F : Addr → Prop) (σ : St) : RV → V → Prop
  | .d x, v => Rep K H F x v
  | .fresh x, v => ∃ a, v = .ref a ∧ H0 a = none ∧ Cont K H F a x
  | .plc i, v => σ[i]? = some (some v)
theorem RRel.weak {r : RV} {v : V} (h : RRel K H0 H F σ r v) : WRel K H0 H F σ r v := by
  cases r with
  | d x => exact h
  | fresh x =>
    obtain ⟨a, e, h0, o⟩ := h
    exact ⟨a, e, h0, o.2⟩
  | plc i => exact h
theorem WRel.freeze {r : RV} {v : V} (h : WRel K H0 H F σ r v) (f : Fut H F H F') : WRel K H0 H F' σ r v := by
  cases r with
  | d x => exact f.rep _ _ h
  | fresh x =>
    obtain ⟨a, e, h0, o⟩ := h
    exact ⟨a, e, h0, o.fut f fun _ q => q⟩
  | plc i => exact h
/-- its contents -/
def view (ρ : DEnv) : RV → Option D
  | .d x => some x
  | .fresh x => some x
  | .plc i => match ρ[i]? with
    | some (.val x) => some x
    | some (.own x) => some x
    | _ => none
/-- as View: a list at the top may be owned -/
def View (K : PySem.W.Frag) (H : Hp) (F : Addr → Prop) : D → V → Prop
  | .lst ds, v => ∃ a vs, v = .ref a ∧ SqL K H a vs ∧ Reps K H F ds vs
  | d, v => Rep K H F d v
theorem Rep.view {d : D} {v : V} (h : Rep K H F d v) : View K H F d v := by
  cases d with
  | lst ds =>
    rw [Rep] at h
    obtain ⟨a, vs, e, s, r⟩ := h
    exact ⟨a, vs, e, s.sq, r⟩
  | _ => exact h
theorem Cont.view {a : Addr} {d : D} (h : Cont K H F a d) : View K H F d (.ref a) := by
  cases d with
  | lst ds =>
    obtain ⟨vs, e, r⟩ := h
    exact ⟨a, vs, rfl, .inl (.inl e), r⟩
  | _ => exact h.elim
theorem WRel.view {r : RV} {v : V} {d : D} (e : ER K H F σ ρ) (h : WRel K H0 H F σ r v) (hv : view ρ r = some d) : View K H F d v := by
  cases r with
  | d x => cases hv; exact Rep.view h
  | fresh x =>
    cases hv
    obtain ⟨a, rfl, _, o⟩ := h
    exact o.view
  | plc i =>
    have h : σ[i]? = some (some v) := h
    cases q : ρ[i]? with
    | none => simp [DL.view, q] at hv
    | some sl =>
      cases sl with
      | no => simp [DL.view, q] at hv
      | val x =>
        have hv : some x = some d := by simpa [DL.view, q] using hv
        cases hv
        obtain ⟨u, hu, r⟩ := e.slot q
        rw [h] at hu; cases hu
        exact r.view
      | own x =>
        have hv : some x = some d := by simpa [DL.view, q] using hv
        cases hv
        obtain ⟨a, ha, o⟩ := e.owned q
        rw [h] at ha; cases ha
        exact o.2.view
/-- frozen -/
def esc (ρ : DEnv) : RV → Option (D × DEnv)
  | .d x => some (x, ρ)
  | .fresh x => some (x, ρ)
  | .plc i => match ρ[i]? with
    | some (.val x) => some (x, ρ)
    | some (.own x) => some (x, ρ.set i (.val x))
    | _ => none
/-- to freeze a thing -/
theorem Cont.freeze {a : Addr} {d : D} (h : Cont K H F a d) : Rep K H (fun b => F b ∨ b = a) d (.ref a) := by
  cases d with
  | lst ds =>
    obtain ⟨vs, e, r⟩ := h
    rw [Rep]
    refine ⟨a, vs, rfl, .inl ⟨.inr rfl, .inl e⟩, ?_⟩
    exact (show Fut H F H (fun b => F b ∨ b = a) from ⟨fun _ _ _ h => h, fun _ _ h => h, fun _ _ _ h => h, fun _ h => .inl h⟩).reps _ _ r
  | _ => exact h.elim
/-- a step and then a thing frozen that is new or of S -/
theorem Stp.freeze {F0 : Addr → Prop} (s : Stp S H0 F0 H F) {a : Addr} (ha : H0 a = none ∨ S a) (ht : ∃ o, H a = some o) : Stp S H0 F0 H (fun b => F b ∨ b = a) :=
  ⟨s.keep, s.there, fun b f => .inl (s.mono b f), fun b f => f.elim (s.back b) fun e => by subst e; exact .inr ha, fun b f => f.elim (s.trk b) fun e => by subst e; exact .inr ht, s.mt⟩
theorem fut_freeze {a : Addr} : Fut H F H (fun b => F b ∨ b = a) := ⟨fun _ _ _ h => h, fun _ _ h => h, fun _ _ _ h => h, fun _ h => .inl h⟩
/-- what is frozen is no root -/
theorem ER.freeze (e : ER K H F σ ρ) {a : Addr} (n : ¬ Root σ ρ a) (ht : ∃ o, H a = some o) : ER K H (fun b => F b ∨ b = a) σ ρ := by
  refine ⟨e.len, fun i sl h => ?_, fun b f => f.elim (e.trk b) fun q => by subst q; exact ht, e.sep⟩
  cases sl with
  | no => trivial
  | val d =>
    obtain ⟨v, hv, r⟩ := e.slot h
    exact ⟨v, by rw [hv]; rfl, fut_freeze.rep _ _ r⟩
  | own d =>
    obtain ⟨b, hb, o⟩ := e.owned h
    refine ⟨b, by rw [hb]; rfl, fun z => ?_, o.2.fut fut_freeze fun _ q => q⟩
    rcases z with z | z
    · exact o.1 z
    · subst z; exact n ⟨i, d, h, hb⟩
theorem getElem?_set_cases {α : Type} {l : List α} {i j : Nat} {x y : α} (h : (l.set i x)[j]? = some y) : (j = i ∧ y = x) ∨ (j ≠ i ∧ l[j]? = some y) := by
  by_cases e : j = i
  · subst e
    by_cases hl : j < l.length
    · rw [List.getElem?_set_self hl] at h; cases h; exact .inl ⟨rfl, rfl⟩
    · rw [List.getElem?_eq_none (by simpa using hl)] at h; cases h
  · rw [List.getElem?_set_ne (Ne.symm e)] at h; exact .inr ⟨e, h⟩
/-- a slot's own thing frozen -/
theorem ER.freezeSlot (e : ER K H F σ ρ) {i : Nat} {d : D} {a : Addr} (h : ρ[i]? = some (.own d)) (hs : σ[i]? = some (some (.ref a))) : ER K H (fun b => F b ∨ b = a) σ (ρ.set i (.val d)) := by
  have o : Own K H F a d := by
    obtain ⟨b, hb, o⟩ := e.owned h
    rw [hs] at hb; cases hb
    exact o
  refine ⟨by rw [List.length_set]; exact e.len, fun j sl hj => ?_, fun b f => f.elim (e.trk b) fun q => by subst q; exact o.isS, fun j k x y b h1 h2 h3 h4 => ?_⟩
  · rcases getElem?_set_cases hj with ⟨rfl, rfl⟩ | ⟨nj, hj⟩
    · exact ⟨.ref a, by rw [hs]; rfl, o.2.freeze⟩
    · cases sl with
      | no => trivial
      | val d =>
        obtain ⟨v, hv, r⟩ := e.slot hj
        exact ⟨v, by rw [hv]; rfl, fut_freeze.rep _ _ r⟩
      | own d' =>
        obtain ⟨b, hb, o'⟩ := e.owned hj
        refine ⟨b, by rw [hb]; rfl, fun z => ?_, o'.2.fut fut_freeze fun _ q => q⟩
        rcases z with z | z
        · exact o'.1 z
        · subst z; exact nj (e.sep j i _ _ _ hj h hb hs)
  · rcases getElem?_set_cases h1 with ⟨_, h1⟩ | ⟨_, h1⟩
    · cases h1
    · rcases getElem?_set_cases h2 with ⟨_, h2⟩ | ⟨_, h2⟩
      · cases h2
      · exact e.sep j k _ _ _ h1 h2 h3 h4
theorem root_set {i : Nat} {d : D} {a : Addr} (h : Root σ (ρ.set i (.val d)) a) : Root σ ρ a := by
  obtain ⟨j, x, h1, h2⟩ := h
  rcases getElem?_set_cases h1 with ⟨_, h1⟩ | ⟨_, h1⟩
  · cases h1
  · exact ⟨j, x, h1, h2⟩
/-- what esc does -/
theorem esc_ok {F0 : Addr → Prop} {r : RV} {v : V} {d : D} (s : Stp S H0 F0 H F) (e : ER K H F σ ρ) (hr : ∀ a, Root σ ρ a → S a) (h : WRel K H0 H F σ r v) (hv : esc ρ r = some (d, ρ')) (hs : ∀ a, H0 a = none → ¬ S a) :
    ∃ F', Stp S H0 F0 H F' ∧ Fut H F H F' ∧ ER K H F' σ ρ' ∧ (∀ a, Root σ ρ' a → Root σ ρ a) ∧ Rep K H F' d v := by
  cases r with
  | d x => cases hv; exact ⟨F, s, Fut.refl, e, fun _ z => z, h⟩
  | fresh x =>
    cases hv
    obtain ⟨a, rfl, h0, o⟩ := h
    exact ⟨_, s.freeze (.inl h0) o.isS, fut_freeze, e.freeze (fun z => hs a h0 (hr a z)) o.isS, fun _ z => z, o.freeze⟩
  | plc i =>
    have h : σ[i]? = some (some v) := h
    cases q : ρ[i]? with
    | none => simp [DL.esc, q] at hv
    | some sl =>
      cases sl with
      | no => simp [DL.esc, q] at hv
      | val x =>
        have hv : some (x, ρ) = some (d, ρ') := by simpa [DL.esc, q] using hv
        cases hv
        obtain ⟨u, hu, r⟩ := e.slot q
        rw [h] at hu; cases hu
        exact ⟨F, s, Fut.refl, e, fun _ z => z, r⟩
      | own x =>
        have hv : some (x, ρ.set i (.val x)) = some (d, ρ') := by simpa [DL.esc, q] using hv
        cases hv
        obtain ⟨a, ha, o⟩ := e.owned q
        rw [h] at ha; cases ha
        exact ⟨_, s.freeze (.inr (hr _ ⟨i, _, q, h⟩)) o.isS, fut_freeze, e.freezeSlot q h, fun _ z => root_set z, o.2.freeze⟩
end
end DL
set_option maxHeartbeats 1000000
/-! DL, part 2: outcomes, the lifts, arguments, operations. -/
namespace DL
open PySem PySem.Spec PyProof.Rows L2

/-- a raised exception: its class's name in the module, its fields -/
structure Exn where
  cls : Str
  fs : List (Str × D)
inductive Out (α : Type) where
  | ok (a : α) (ρ : DEnv) | exc (e : Exn) (ρ : DEnv) | bad
def Out.bind {α β : Type} (o : Out α) (g : α → DEnv → Out β) : Out β := match o with
  | .ok a ρ => g a ρ
  | .exc e ρ => .exc e ρ
  | .bad => .bad
abbrev Den := DEnv → Out RV
def ExcR (K : PySem.W.Frag) (mg : Str → Option Value) (H : Hp) (F : Addr → Prop) (e : Exn) (cls : Value) (dx : Option Addr) : Prop :=
  ∃ C, mg e.cls = some (.ref C) ∧ cls = .ref C ∧ ((e.fs = [] ∧ dx = none) ∨ ∃ d vs, dx = some d ∧ H d = some (.xd ((e.fs.map (·.1)).zip vs)) ∧ Reps K H F (e.fs.map (·.2)) vs)
/-- what is wanted of an outcome: R relates the result (heaps ahead, behind) -/
def OP {α β : Type} (X : Cx) (W : WX) (R : Hp → Hp → (Addr → Prop) → St → α → β → Prop) (σ : St) (ρ : DEnv) (H : Hp) (F : Addr → Prop) (Q : β → Hp → Prop) : Out α → Prop
  | .ok r ρ' => ∀ v H' F', Stp (Root σ ρ) H F H' F' → ER X.K H' F' σ ρ' → (∀ a, Root σ ρ' a → Root σ ρ a) → R H H' F' σ r v → Q v H'
  | .exc e ρ' => ∀ cls dx H' F', Stp (Root σ ρ) H F H' F' → ER X.K H' F' σ ρ' → (∀ a, Root σ ρ' a → Root σ ρ a) → ExcR X.K X.mg H' F' e cls dx → W cls dx σ H'
  | .bad => False
def LO {α β : Type} (X : Cx) (W : WX) (R : Hp → Hp → (Addr → Prop) → St → α → β → Prop) (f : DEnv → Out α) (σ : St) (H : Hp) (Q : β → Hp → Prop) : Prop :=
  ∃ F ρ, ER X.K H F σ ρ ∧ OP X W R σ ρ H F Q (f ρ)
abbrev LE (X : Cx) (W : WX) (f : Den) : TE := LO X W (RRel X.K) f
def RRels (K : PySem.W.Frag) (H0 H : Hp) (F : Addr → Prop) (σ : St) : List RV → List V → Prop
  | [], vs => vs = []
  | r :: rs, vs => ∃ v tl, vs = v :: tl ∧ RRel K H0 H F σ r v ∧ RRels K H0 H F σ rs tl
def WRels (K : PySem.W.Frag) (H0 H : Hp) (F : Addr → Prop) (σ : St) : List RV → List V → Prop
  | [], vs => vs = []
  | r :: rs, vs => ∃ v tl, vs = v :: tl ∧ WRel K H0 H F σ r v ∧ WRels K H0 H F σ rs tl
abbrev LA (X : Cx) (W : WX) (f : DEnv → Out (List RV)) : TA := LO X W (RRels X.K) f
abbrev LT (X : Cx) (W : WX) (f : DEnv → Out Bool) : TT := LO X W (fun _ _ _ _ b c => b = c) f

section
variable {X : Cx} {W : WX} {σ : St} {H H' H0 H1 H2 : Hp} {F F' F0 F1 F2 : Addr → Prop} {ρ ρ' ρ1 ρ2 : DEnv} {S : Addr → Prop} {K : PySem.W.Frag}
theorem PE.imp {e : Expr} {t t' : TE} (h : PE X e t) (hi : ∀ σ H Q, t' σ H Q → t σ H Q) : PE X e t' := ⟨fun pins s σ H Q I q => h.run pins s σ H Q I (hi σ H Q q)⟩
theorem PT.imp {e : Expr} {t t' : TT} (h : PT X e t) (hi : ∀ σ H Q, t' σ H Q → t σ H Q) : PT X e t' := ⟨fun pins s σ H Q I q => h.run pins s σ H Q I (hi σ H Q q)⟩
theorem PW.imp {e : Expr} {t t' : TT} (h : PW X e t) (hi : ∀ σ H Q, t' σ H Q → t σ H Q) : PW X e t' := ⟨fun wh pins s σ H Q I q => h.run wh pins s σ H Q I (hi σ H Q q)⟩
theorem PA.imp {es : List Expr} {t t' : TA} (h : PA X es t) (hi : ∀ σ H Q, t' σ H Q → t σ H Q) : PA X es t' := ⟨fun pos pins s σ H Q I q => h.run pos pins s σ H Q I (hi σ H Q q)⟩
theorem PS.imp {st : Stmt} {t t' : TS} (h : PS X st t) (hi : ∀ D σ H, t' D σ H → t D σ H) : PS X st t' := ⟨fun pins s σ H D I q => h.run pins s σ H D I (hi D σ H q)⟩
theorem PSs.imp {st : List Stmt} {t t' : TS} (h : PSs X st t) (hi : ∀ D σ H, t' D σ H → t D σ H) : PSs X st t' := ⟨fun pins s σ H D I q => h.run pins s σ H D I (hi D σ H q)⟩

theorem RRels.step : ∀ {rs : List RV} {vs : List V}, RRels K H0 H F σ rs vs → Stp S H F H' F' → (∀ a, H0 a = none → ¬ S a) → RRels K H0 H' F' σ rs vs
  | [], vs, h, _, _ => h
  | r :: rs, vs, h, s, n => by
    obtain ⟨v, tl, e, h1, h2⟩ := h
    exact ⟨v, tl, e, h1.step s n, RRels.step h2 s n⟩
theorem RRels.since : ∀ {rs : List RV} {vs : List V}, RRels K H0 H F σ rs vs → (∀ a, H0 a = none → H1 a = none) → RRels K H1 H F σ rs vs
  | [], vs, h, _ => h
  | r :: rs, vs, h, n => by
    obtain ⟨v, tl, e, h1, h2⟩ := h
    exact ⟨v, tl, e, h1.since n, RRels.since h2 n⟩
theorem RRels.weak : ∀ {rs : List RV} {vs : List V}, RRels K H0 H F σ rs vs → WRels K H0 H F σ rs vs
  | [], vs, h => h
  | r :: rs, vs, h => by
    obtain ⟨v, tl, e, h1, h2⟩ := h
    exact ⟨v, tl, e, h1.weak, RRels.weak h2⟩
theorem WRels.freeze : ∀ {rs : List RV} {vs : List V}, WRels K H0 H F σ rs vs → Fut H F H F' → WRels K H0 H F' σ rs vs
  | [], vs, h, _ => h
  | r :: rs, vs, h, f => by
    obtain ⟨v, tl, e, h1, h2⟩ := h
    exact ⟨v, tl, e, h1.freeze f, WRels.freeze h2 f⟩
theorem RRels.length : ∀ {rs : List RV} {vs : List V}, RRels K H0 H F σ rs vs → vs.length = rs.length
  | [], vs, h => by rw [show vs = [] from h]; rfl
  | r :: rs, vs, h => by
    obtain ⟨v, tl, rfl, h1, h2⟩ := h
    rw [List.length_cons, List.length_cons, RRels.length h2]

/-! ### several in a row -/
def dArgs : List Den → DEnv → Out (List RV)
  | [], ρ => .ok [] ρ
  | f :: fs, ρ => (f ρ).bind fun r ρ1 => (dArgs fs ρ1).bind fun rs ρ2 => .ok (r :: rs) ρ2
/-- a first part, then the rest -/
theorem OP.seq {α β γ δ : Type} {R : Hp → Hp → (Addr → Prop) → St → α → β → Prop} {R' : Hp → Hp → (Addr → Prop) → St → γ → δ → Prop} {Q : δ → Hp → Prop} {P : β → Hp → Prop} {o : Out α} {g : α → DEnv → Out γ}
    (e : ER X.K H F σ ρ) (h : OP X W R' σ ρ H F Q (o.bind g))
    (k : ∀ a ρ1 v H1 F1, o = .ok a ρ1 → Stp (Root σ ρ) H F H1 F1 → ER X.K H1 F1 σ ρ1 → (∀ a, Root σ ρ1 a → Root σ ρ a) → R H H1 F1 σ a v → OP X W R' σ ρ H F Q (g a ρ1) → P v H1) : OP X W R σ ρ H F P o := by
  cases o with
  | bad => exact h
  | exc x ρ1 => exact h
  | ok a ρ1 => exact fun v H1 F1 s1 e1 rt1 r1 => k a ρ1 v H1 F1 rfl s1 e1 rt1 r1 h
/-- an outcome wanted later: from the later state -/
theorem OP.later {α β γ : Type} {R : Hp → Hp → (Addr → Prop) → St → α → β → Prop} {R' : Hp → Hp → (Addr → Prop) → St → γ → β → Prop} {Q Q' : β → Hp → Prop} {o : Out α}
    (e : ER X.K H F σ ρ) (s1 : Stp (Root σ ρ) H F H1 F1) (rt1 : ∀ a, Root σ ρ1 a → Root σ ρ a) (h : OP X W R σ ρ H F Q o)
    (hr : ∀ r v H' F', Stp (Root σ ρ1) H1 F1 H' F' → R' H1 H' F' σ r v → True) : True := trivial
theorem la_nil {Q : List V → Hp → Prop} (h : LA X W (dArgs []) σ H Q) : tNil σ H Q := by
  obtain ⟨F, ρ, e, h⟩ := h
  exact h [] H F e.refl e (fun _ z => z) rfl
theorem la_cons {f : Den} {fs : List Den} {Q : List V → Hp → Prop} (h : LA X W (dArgs (f :: fs)) σ H Q) : tCons (LE X W f) (LA X W (dArgs fs)) σ H Q := by
  obtain ⟨F, ρ, e, h⟩ := h
  refine ⟨F, ρ, e, OP.seq e h fun r ρ1 v H1 F1 _ s1 e1 rt1 r1 h => ⟨F1, ρ1, e1, ?_⟩⟩
  cases q2 : dArgs fs ρ1 with
  | bad => rw [q2] at h; exact h
  | exc x ρ2 =>
    rw [q2] at h
    intro cls dx H2 F2 s2 e2 rt2 x2
    exact h cls dx H2 F2 (s1.trans s2 fun a z => .inl (rt1 a z)) e2 (fun a z => rt1 a (rt2 a z)) x2
  | ok rs ρ2 =>
    rw [q2] at h
    intro vs H2 F2 s2 e2 rt2 r2
    refine h (v :: vs) H2 F2 (s1.trans s2 fun a z => .inl (rt1 a z)) e2 (fun a z => rt1 a (rt2 a z)) ⟨v, vs, rfl, r1.step s2 fun a n z => ?_, r2.since fun a n => s1.new_of n⟩
    obtain ⟨o, q⟩ := e.isS (rt1 a z)
    rw [n] at q; cases q
/-- an argument list -/
theorem d_nil : PA X [] (LA X W (dArgs [])) := PA.imp pa_nil fun _ _ _ h => la_nil h
def notStar : Expr → Bool
  | .Starred _ _ => false
  | _ => true
theorem star_of {e : Expr} (h : notStar e = true) (es : List Expr) (env : Env) : starEach (e :: es) env = (false, eval e env) :: starEach es env := by
  cases e <;> first | rfl | cases h
theorem d_cons {e : Expr} {es : List Expr} {f : Den} {fs : List Den} (ns : notStar e = true) (h : PE X e (LE X W f)) (t : PA X es (LA X W (dArgs fs))) : PA X (e :: es) (LA X W (dArgs (f :: fs))) :=
  PA.imp (pa_cons h t (star_of ns es X.env)) fun _ _ _ h => la_cons h

/-! ### operations on contents -/
def views (ρ : DEnv) : List RV → Option (List D)
  | [] => some []
  | r :: rs => (view ρ r).bind fun d => (views ρ rs).bind fun ds => some (d :: ds)
def Views (K : PySem.W.Frag) (H : Hp) (F : Addr → Prop) : List D → List V → Prop
  | [], vs => vs = []
  | d :: ds, vs => ∃ v tl, vs = v :: tl ∧ View K H F d v ∧ Views K H F ds tl
theorem WRels.views : ∀ {rs : List RV} {vs : List V} {ds : List D}, ER K H F σ ρ → WRels K H0 H F σ rs vs → views ρ rs = some ds → Views K H F ds vs
  | [], vs, ds, e, h, hv => by
    cases hv
    exact h
  | r :: rs, vs, ds, e, h, hv => by
    obtain ⟨v, tl, rfl, h1, h2⟩ := h
    rw [DL.views] at hv
    cases q : view ρ r with
    | none => rw [q] at hv; cases hv
    | some d =>
      rw [q] at hv
      have hv : (DL.views ρ rs).bind (fun ds => some (d :: ds)) = some ds := hv
      cases q2 : DL.views ρ rs with
      | none => rw [q2] at hv; cases hv
      | some ds' =>
        rw [q2] at hv
        cases hv
        exact ⟨v, tl, rfl, h1.view e q, WRels.views e h2 q2⟩
/-- what an operation of the machine needs is what the operation on data gives -/
def OpD (X : Cx) (r : List V → Hp → VK → Prop) (o : List D → Option RV) : Prop :=
  ∀ (H : Hp) (F : Addr → Prop) (ds : List D) (vs : List V) (res : RV) (Q : VK), Views X.K H F ds vs → o ds = some res →
    (∀ v H' F', Stp (fun _ => False) H F H' F' → RRel X.K H H' F' [] res v → Q v H') → r vs H Q
def dApp (o : List D → Option RV) (fs : List Den) : Den := fun ρ => (dArgs fs ρ).bind fun rs ρ1 => match (views ρ1 rs).bind o with
  | some r => .ok r ρ1
  | none => .bad
theorem RRel.any {r : RV} {v : V} (h : RRel K H0 H F [] r v) : RRel K H0 H F σ r v := by
  cases r with
  | plc i => exact absurd (show ([] : St)[i]? = some (some v) from h) (by simp)
  | _ => exact h
theorem app_ok {r : List V → Hp → VK → Prop} {o : List D → Option RV} {fs : List Den} {Q : VK} (ho : OpD X r o) (h : LE X W (dApp o fs) σ H Q) : LA X W (dArgs fs) σ H (fun vs H1 => r vs H1 Q) := by
  obtain ⟨F, ρ, e, h⟩ := h
  refine ⟨F, ρ, e, OP.seq e h fun rs ρ1 vs H1 F1 _ s1 e1 rt1 r1 h => ?_⟩
  cases q2 : views ρ1 rs with
  | none => rw [q2] at h; exact h.elim
  | some ds =>
    rw [q2] at h
    cases q3 : o ds with
    | none => simp only [Option.bind_some, q3] at h; exact h.elim
    | some res =>
      simp only [Option.bind_some, q3] at h
      refine ho H1 F1 ds vs res Q (WRels.views e1 r1.weak q2) q3 fun v H2 F2 s2 r2 => ?_
      exact h v H2 F2 (s1.trans s2 fun _ z => z.elim) (e1.step s2 fun _ _ z => z) rt1 (r2.any.since fun a n => s1.new_of n)

/-! ### names, constants -/
def dVar (i : Nat) : Den := fun ρ => match ρ[i]? with
  | some (.val d) => .ok (.d d) ρ
  | some (.own _) => .ok (.plc i) ρ
  | _ => .bad
theorem d_var {i : Nat} {x : Str} {pos : Pos} (hN : X.N[i]? = some x) (hv : Vis X.env.scope x) (hd : (x == ("__debug__" : Str)) = false) (hcd : (x == ("__classdict__" : Str)) = false) : PE X (.Name x pos) (LE X W (dVar i)) := by
  refine PE.imp (pe_var hN hv hd hcd) fun σ H Q h => ?_
  obtain ⟨F, ρ, e, h⟩ := h
  unfold dVar at h
  cases q : ρ[i]? with
  | none => simp only [q] at h; exact h.elim
  | some sl =>
    cases sl with
    | no => simp only [q] at h; exact h.elim
    | val d =>
      simp only [q] at h
      obtain ⟨v, hv, r⟩ := e.slot q
      exact ⟨v, hv, h v H F e.refl e (fun _ z => z) r⟩
    | own d =>
      simp only [q] at h
      obtain ⟨a, ha, o⟩ := e.owned q
      exact ⟨_, ha, h (.ref a) H F e.refl e (fun _ z => z) ha⟩
def dC (d : D) : Den := fun ρ => .ok (.d d) ρ
/-- a datum without the heap -/
def flatD : D → Option V
  | .non => some .non
  | .bl b => some (.bl b)
  | .int i => some (.int i)
  | .str s => some (.str s)
  | _ => none
theorem rep_flat {d : D} {v : V} (h : flatD d = some v) : Rep K H F d v := by
  cases d <;> simp [flatD] at h <;> subst h <;> simp [Rep]
theorem d_const {e : Expr} {d : D} {v : V} (hd : flatD d = some v) (h : PE X e (tC v)) : PE X e (LE X W (dC d)) := by
  refine PE.imp h fun σ H Q h => ?_
  obtain ⟨F, ρ, e, h⟩ := h
  exact h v H F e.refl e (fun _ z => z) (rep_flat hd)

/-! ### frozen arguments, displays -/
def escs : List RV → DEnv → Option (List D × DEnv)
  | [], ρ => some ([], ρ)
  | r :: rs, ρ => (esc ρ r).bind fun p => (escs rs p.2).bind fun q => some (p.1 :: q.1, q.2)
theorem escs_ok : ∀ {rs : List RV} {vs : List V} {ds : List D} {ρ ρ' : DEnv} {F : Addr → Prop}, Stp S H0 F0 H F → ER K H F σ ρ → (∀ a, Root σ ρ a → S a) → WRels K H0 H F σ rs vs → escs rs ρ = some (ds, ρ') → (∀ a, H0 a = none → ¬ S a) →
    ∃ F', Stp S H0 F0 H F' ∧ Fut H F H F' ∧ ER K H F' σ ρ' ∧ (∀ a, Root σ ρ' a → Root σ ρ a) ∧ Reps K H F' ds vs
  | [], vs, ds, ρ, ρ', F, s, e, hr, h, hv, hs => by
    cases hv
    exact ⟨F, s, Fut.refl, e, fun _ z => z, by rw [Reps]; exact h⟩
  | r :: rs, vs, ds, ρ, ρ', F, s, e, hr, h, hv, hs => by
    obtain ⟨v, tl, rfl, h1, h2⟩ := h
    rw [escs] at hv
    cases q : esc ρ r with
    | none => rw [q] at hv; cases hv
    | some p =>
      obtain ⟨d, ρ1⟩ := p
      rw [q] at hv
      have hv : (escs rs ρ1).bind (fun q => some (d :: q.1, q.2)) = some (ds, ρ') := hv
      cases q2 : escs rs ρ1 with
      | none => rw [q2] at hv; cases hv
      | some p2 =>
        obtain ⟨ds', ρ2⟩ := p2
        rw [q2] at hv
        have hv : some (d :: ds', ρ2) = some (ds, ρ') := hv
        cases hv
        obtain ⟨F1, s1, f1, e1, rt1, r1⟩ := esc_ok s e hr h1 q hs
        obtain ⟨F2, s2, f2, e2, rt2, r2⟩ := escs_ok s1 e1 (fun a z => hr a (rt1 a z)) (h2.freeze f1) q2 hs
        exact ⟨F2, s2, f1.trans f2, e2, fun a z => rt1 a (rt2 a z), Reps.cons (f2.rep _ _ r1) r2⟩
/-- arguments, frozen -/
def dFrz (fs : List Den) : DEnv → Out (List D) := fun ρ => (dArgs fs ρ).bind fun rs ρ1 => match escs rs ρ1 with
  | some (ds, ρ2) => .ok ds ρ2
  | none => .bad
abbrev LF (X : Cx) (W : WX) (f : DEnv → Out (List D)) : TA := LO X W (fun _ H F _ ds vs => Reps X.K H F ds vs) f
theorem frz_ok {fs : List Den} {Q : List V → Hp → Prop} (h : LF X W (dFrz fs) σ H Q) : LA X W (dArgs fs) σ H Q := by
  obtain ⟨F, ρ, e, h⟩ := h
  refine ⟨F, ρ, e, OP.seq e h fun rs ρ1 vs H1 F1 _ s1 e1 rt1 r1 h => ?_⟩
  cases q2 : escs rs ρ1 with
  | none => rw [q2] at h; exact h.elim
  | some p =>
    obtain ⟨ds, ρ2⟩ := p
    rw [q2] at h
    obtain ⟨F2, s2, f2, e2, rt2, r2⟩ := escs_ok s1 e1 rt1 r1.weak q2 fun a n z => by
      obtain ⟨o, q⟩ := e.isS z
      rw [n] at q; cases q
    exact h vs H1 F2 s2 e2 (fun a z => rt1 a (rt2 a z)) r2
theorem d_frz {es : List Expr} {fs : List Den} (h : PA X es (LA X W (dArgs fs))) : PA X es (LF X W (dFrz fs)) := PA.imp h fun _ _ _ h => frz_ok h
def dTup (fs : List Den) : Den := fun ρ => (dFrz fs ρ).bind fun ds ρ1 => .ok (.d (.tup ds)) ρ1
def dLst (fs : List Den) : Den := fun ρ => (dFrz fs ρ).bind fun ds ρ1 => .ok (.fresh (.lst ds)) ρ1
theorem dArgs_len : ∀ {fs : List Den} {ρ ρ' : DEnv} {rs : List RV}, dArgs fs ρ = .ok rs ρ' → rs.length = fs.length
  | [], ρ, ρ', rs, h => by cases h; rfl
  | f :: fs, ρ, ρ', rs, h => by
    rw [dArgs] at h
    cases q : f ρ with
    | bad => rw [q] at h; cases h
    | exc x ρ1 => rw [q] at h; cases h
    | ok r ρ1 =>
      rw [q] at h
      have h : (dArgs fs ρ1).bind (fun rs ρ2 => Out.ok (r :: rs) ρ2) = .ok rs ρ' := h
      cases q2 : dArgs fs ρ1 with
      | bad => rw [q2] at h; cases h
      | exc x ρ2 => rw [q2] at h; cases h
      | ok rs' ρ2 =>
        rw [q2] at h
        cases h
        rw [List.length_cons, List.length_cons, dArgs_len q2]
theorem escs_len : ∀ {rs : List RV} {ρ ρ' : DEnv} {ds : List D}, escs rs ρ = some (ds, ρ') → ds.length = rs.length
  | [], ρ, ρ', ds, h => by cases h; rfl
  | r :: rs, ρ, ρ', ds, h => by
    rw [escs] at h
    cases q : esc ρ r with
    | none => rw [q] at h; cases h
    | some p =>
      rw [q] at h
      have h : (escs rs p.2).bind (fun q => some (p.1 :: q.1, q.2)) = some (ds, ρ') := h
      cases q2 : escs rs p.2 with
      | none => rw [q2] at h; cases h
      | some p2 =>
        rw [q2] at h
        cases h
        rw [List.length_cons, List.length_cons, escs_len (ρ' := p2.2) (ds := p2.1) q2]
theorem dFrz_len {fs : List Den} {ρ ρ' : DEnv} {ds : List D} (h : dFrz fs ρ = .ok ds ρ') : ds.length = fs.length := by
  rw [dFrz] at h
  cases q : dArgs fs ρ with
  | bad => rw [q] at h; cases h
  | exc x ρ1 => rw [q] at h; cases h
  | ok rs ρ1 =>
    rw [q] at h
    have h : (match escs rs ρ1 with | some (ds, ρ2) => Out.ok ds ρ2 | none => .bad) = .ok ds ρ' := h
    cases q2 : escs rs ρ1 with
    | none => rw [q2] at h; cases h
    | some p =>
      rw [q2] at h
      cases h
      rw [escs_len (ρ' := p.2) (ds := p.1) q2, dArgs_len q]
theorem d_tup {es : List Expr} {fs : List Den} {k : Nat} {pos : Pos} (hl : fs.length ≤ 1000) (h : PA X es (LA X W (dArgs fs))) : PE X (.Tuple es k pos) (LE X W (dTup fs)) := by
  refine PE.imp (pe_tup (d_frz h)) fun σ H Q h => ?_
  obtain ⟨F, ρ, e, h⟩ := h
  refine ⟨F, ρ, e, OP.seq e h fun ds ρ1 vs H1 F1 q s1 e1 rt1 r1 h => ?_⟩
  have hlen : vs.length ≤ 1000 := by rw [r1.length, dFrz_len q]; exact hl
  refine ⟨Nat.le_of_lt (small1000 hlen), fun p hp => ?_⟩
  have s2 : Stp (fun _ => False) H1 F1 (upd H1 p (.tup vs)) F1 := Stp.new hp fun _ z => z.elim
  refine h (.ref p) _ F1 (s1.trans s2 fun _ z => z.elim) (e1.step s2 fun _ _ z => z) rt1 ?_
  show Rep _ _ _ (.tup ds) _
  rw [Rep]
  exact ⟨p, vs, rfl, SqT.of upd_same, s2.fut.reps _ _ r1⟩
theorem d_lst {es : List Expr} {fs : List Den} {pos : Pos} (hl : fs.length ≤ 1000) (h : PA X es (LA X W (dArgs fs))) : PE X (.List es pos) (LE X W (dLst fs)) := by
  refine PE.imp (pe_lst (d_frz h)) fun σ H Q h => ?_
  obtain ⟨F, ρ, e, h⟩ := h
  refine ⟨F, ρ, e, OP.seq e h fun ds ρ1 vs H1 F1 q s1 e1 rt1 r1 h => ?_⟩
  have hlen : vs.length ≤ 1000 := by rw [r1.length, dFrz_len q]; exact hl
  refine ⟨Nat.le_of_lt (small1000 hlen), fun p hp => ?_⟩
  have s2 : Stp (fun _ => False) H1 F1 (upd H1 p (.lst vs)) F1 := Stp.new hp fun _ z => z.elim
  refine h (.ref p) _ F1 (s1.trans s2 fun _ z => z.elim) (e1.step s2 fun _ _ z => z) rt1 ⟨p, rfl, s1.new_of hp, fun f => ?_, vs, upd_same, s2.fut.reps _ _ r1⟩
  obtain ⟨o, z⟩ := e1.trk p f
  rw [hp] at z; cases z
end
end DL
set_option maxHeartbeats 1000000
/-! DL, part 3: the operations on data, tests, and the rules of expressions. -/
namespace DL
open PySem PySem.Spec PyProof.Rows L2

/-! ### equality -/
mutual
def toP : D → PyData
  | .non => .none
  | .bl b => .bool b
  | .int i => .int i
  | .str s => .str s
  | .tup l => .tuple (toPs l)
  | .lst l => .list (toPs l)
def toPs : List D → List PyData
  | [] => []
  | d :: l => toP d :: toPs l
end
section
variable {X : Cx} {W : WX} {σ : St} {H H' H0 H1 H2 : Hp} {F F' F0 F1 F2 : Addr → Prop} {ρ ρ' ρ1 ρ2 : DEnv} {S : Addr → Prop} {K : PySem.W.Frag}
mutual
theorem Rep.dp : ∀ (d : D) (v : V), Rep K H F d v → Dp K H v (toP d)
  | .non, v, h => by rw [Rep] at h; subst h; rw [toP]; exact .non
  | .bl b, v, h => by rw [Rep] at h; subst h; rw [toP]; exact .bl b
  | .int i, v, h => by rw [Rep] at h; subst h; rw [toP]; exact .int i
  | .str s, v, h => by rw [Rep] at h; subst h; rw [toP]; exact .str s
  | .tup ds, v, h => by
    rw [Rep] at h
    obtain ⟨a, vs, rfl, s, r⟩ := h
    rw [toP]
    exact .tup s (Reps.dp ds vs r)
  | .lst ds, v, h => by
    rw [Rep] at h
    obtain ⟨a, vs, rfl, s, r⟩ := h
    rw [toP]
    exact .lst s.sq (Reps.dp ds vs r)
theorem Reps.dp : ∀ (ds : List D) (vs : List V), Reps K H F ds vs → DpAll K H vs (toPs ds)
  | [], vs, h => by rw [Reps] at h; subst h; rw [toPs]; exact .nil
  | d :: ds, vs, h => by
    rw [Reps] at h
    obtain ⟨v, r, rfl, h1, h2⟩ := h
    rw [toPs]
    exact .cons (Rep.dp d v h1) (Reps.dp ds r h2)
end
theorem View.dp {d : D} {v : V} (h : View K H F d v) : Dp K H v (toP d) := by
  cases d with
  | lst ds =>
    obtain ⟨a, vs, rfl, s, r⟩ := h
    rw [toP]
    exact .lst s (Reps.dp ds vs r)
  | _ => exact Rep.dp (F := F) _ _ h
theorem View.lst {ds : List D} {v : V} (h : View K H F (.lst ds) v) : ∃ a vs, v = .ref a ∧ SqL K H a vs ∧ Reps K H F ds vs := h
theorem View.tup {ds : List D} {v : V} (h : View K H F (.tup ds) v) : ∃ a vs, v = .ref a ∧ SqT K H a vs ∧ Reps K H F ds vs := by
  have h : Rep K H F (.tup ds) v := h
  rw [Rep] at h; exact h
theorem View.int {i : Int} {v : V} (h : View K H F (.int i) v) : v = .int i := by
  have h : Rep K H F (.int i) v := h
  rw [Rep] at h; exact h
theorem View.bl {i : Bool} {v : V} (h : View K H F (.bl i) v) : v = .bl i := by
  have h : Rep K H F (.bl i) v := h
  rw [Rep] at h; exact h
theorem View.str {i : Str} {v : V} (h : View K H F (.str i) v) : v = .str i := by
  have h : Rep K H F (.str i) v := h
  rw [Rep] at h; exact h
theorem View.non {v : V} (h : View K H F .non v) : v = .non := by
  have h : Rep K H F .non v := h
  rw [Rep] at h; exact h
theorem views1 {d : D} {vs : List V} (h : Views K H F [d] vs) : ∃ v, vs = [v] ∧ View K H F d v := by
  obtain ⟨v, tl, rfl, h1, h2⟩ := h
  rw [show tl = [] from h2]
  exact ⟨v, rfl, h1⟩
theorem views2 {d e : D} {vs : List V} (h : Views K H F [d, e] vs) : ∃ v u, vs = [v, u] ∧ View K H F d v ∧ View K H F e u := by
  obtain ⟨v, tl, rfl, h1, h2⟩ := h
  obtain ⟨u, rfl, h3⟩ := views1 h2
  exact ⟨v, u, rfl, h1, h3⟩
end
def eqP (d e : D) : Bool := PyData.eqv (toP d) (toP e)
def shP (d : D) : Bool := SeqAt.shaped (toP d)

/-! ### the operations -/
abbrev Op := List D → Option RV
abbrev dat (d : D) : Option RV := some (.d d)
def bothS : D → D → Bool
  | .str _, .str _ => true
  | _, _ => false
def oEq : Op
  | [d, e] => if bothS d e || (shP d && shP e) then dat (.bl (eqP d e)) else none
  | _ => none
def oNe : Op
  | [d, e] => if bothS d e || (shP d && shP e) then dat (.bl (!eqP d e)) else none
  | _ => none
def oCmp (p : Int → Int → Bool) : Op
  | [.int i, .int j] => dat (.bl (p i j))
  | _ => none
def oLe : Op := oCmp fun i j => decide (i ≤ j)
def oGt : Op := oCmp fun i j => decide (j < i)
def oGe : Op := oCmp fun i j => decide (j ≤ i)
def isNon : D → Bool
  | .non => true
  | _ => false
def oIs : Op
  | [d, .non] => dat (.bl (isNon d))
  | _ => none
def oIsNot : Op
  | [d, .non] => dat (.bl (!isNon d))
  | _ => none
def oIn : Op
  | [.str x, .str z] => dat (.bl (!(Builtin.Str.occurrences z x 0 z.length 1).isEmpty))
  | [x, .tup l] => if shP x && shP (.tup l) then dat (.bl (l.any fun z => eqP z x)) else none
  | [x, .lst l] => if shP x && shP (.lst l) then dat (.bl (l.any fun z => eqP z x)) else none
  | _ => none
def oNotIn : Op
  | [.str x, .str z] => dat (.bl (!(!(Builtin.Str.occurrences z x 0 z.length 1).isEmpty)))
  | [x, .tup l] => if shP x && shP (.tup l) then dat (.bl (!(l.any fun z => eqP z x))) else none
  | [x, .lst l] => if shP x && shP (.lst l) then dat (.bl (!(l.any fun z => eqP z x))) else none
  | _ => none
/-- a length that is no trouble -/
def okLen (n : Nat) : Bool := Nat.ble n 1000000
def oAdd : Op
  | [.int i, .int j] => dat (.int (i + j))
  | [.str a, .str b] => if okLen (a.length + b.length) then dat (.str (a ++ b)) else none
  | [.tup a, .tup b] => if okLen (a.length + b.length) then dat (.tup (a ++ b)) else none
  | [.lst a, .lst b] => if okLen (a.length + b.length) then some (.fresh (.lst (a ++ b))) else none
  | _ => none
def oSub : Op
  | [.int i, .int j] => dat (.int (i - j))
  | _ => none
def bitsOk (i j : Int) : Bool := Nat.ble (i.natAbs.log2 + j.natAbs.log2) 134000000
def oMul : Op
  | [.int i, .int j] => if bitsOk i j then dat (.int (i * j)) else none
  | [.lst a, .int k] => if okLen a.length && (decide (-1000 ≤ k) && decide (k ≤ 1000)) && okLen (a.length * k.toNat) then some (.fresh (.lst (List.replicate k.toNat a).flatten)) else none
  | [.tup a, .int k] => if Nat.ble a.length 1000 && Nat.blt 0 a.length && (decide (0 ≤ k) && decide (k ≤ 1000)) then dat (.tup (List.replicate k.toNat a).flatten) else none
  | _ => none
def divOk (j : Int) : Bool := j != 0 && Nat.blt j.natAbs.log2 9000
def oDiv : Op
  | [.int i, .int j] => if divOk j then dat (.int (i.fdiv j)) else none
  | _ => none
def oMod : Op
  | [.int i, .int j] => if j != 0 then dat (.int (i.fmod j)) else none
  | _ => none
def oPow : Op
  | [.int i, .int j] => if decide (0 ≤ j) && decide (j ≤ 1000000) && Nat.blt i.natAbs (2 ^ 64) then dat (.int (i ^ j.toNat)) else none
  | _ => none
def oShl : Op
  | [.int i, .int j] => if decide (0 ≤ j) && decide ((Builtin.Int.intBits i : Int) + j ≤ 2 ^ 27) then dat (.int (i * 2 ^ j.toNat)) else none
  | _ => none
def oShr : Op
  | [.int i, .int j] => if decide (0 ≤ j) then dat (.int (i / 2 ^ j.toNat)) else none
  | _ => none
def oNeg : Op
  | [.int i] => dat (.int (-i))
  | _ => none
def oIx : Op
  | [.lst l, .int i] => (atI l i).map .d
  | [.tup l, .int i] => (atI l i).map .d
  | [.str z, .int i] => if okLen z.length then (atI z.cps.toList i).map fun c => .d (.str ⟨#[c]⟩) else none
  | _ => none
def truD : D → Option Bool
  | .non => some false
  | .bl b => some b
  | .int i => some (i != 0)
  | .str y => if okLen y.length then some ((y.length : Int) != 0) else none
  | .tup l => some (!l.isEmpty)
  | .lst l => some (!l.isEmpty)

abbrev r2 (r : R2) : List V → Hp → VK → Prop := fun vs H Q => ∃ x y, vs = [x, y] ∧ r x y H Q
abbrev r1 (r : V → Hp → VK → Prop) : List V → Hp → VK → Prop := fun vs H Q => ∃ x, vs = [x] ∧ r x H Q
section
variable {X : Cx} {W : WX} {σ : St} {H H' H0 H1 H2 : Hp} {F F' F0 F1 F2 : Addr → Prop} {ρ ρ' ρ1 ρ2 : DEnv} {S : Addr → Prop} {K : PySem.W.Frag}

theorem ite_some {α : Type} {c : Bool} {a : Option α} {r : α} (h : (if c = true then a else none) = some r) : c = true ∧ a = some r := by
  cases c with
  | true => exact ⟨rfl, by simpa using h⟩
  | false => simp at h
theorem okLen_le {n : Nat} (h : okLen n = true) : n ≤ sizeLine := by
  have := Nat.le_of_ble_eq_true h
  rw [sizeLine_eq]; omega
theorem stp0 : Stp (fun _ => False) H F H F := Stp.refl fun _ z => z.elim
/-- an operation whose result is flat -/
theorem give {d : D} {v : V} {Q : VK} {res : RV} (h : dat d = some res) (hv : flatD d = some v) (hQ : ∀ v H' F', Stp (fun _ => False) H F H' F' → RRel X.K H H' F' [] res v → Q v H') : Q v H := by
  cases h
  exact hQ v H F stp0 (rep_flat hv)
theorem op2 {r : R2} {o : Op} (h : ∀ (H : Hp) (F : Addr → Prop) (d e : D) (x y : V) (res : RV) (Q : VK), View X.K H F d x → View X.K H F e y → o [d, e] = some res →
    (∀ v H' F', Stp (fun _ => False) H F H' F' → RRel X.K H H' F' [] res v → Q v H') → r x y H Q) (hl : ∀ ds res, o ds = some res → ∃ d e, ds = [d, e]) : OpD X (r2 r) o := by
  intro H F ds vs res Q hv ho hQ
  obtain ⟨d, e, rfl⟩ := hl ds res ho
  obtain ⟨x, y, rfl, h1, h2⟩ := views2 hv
  exact ⟨x, y, rfl, h H F d e x y res Q h1 h2 ho hQ⟩
theorem op1 {r : V → Hp → VK → Prop} {o : Op} (h : ∀ (H : Hp) (F : Addr → Prop) (d : D) (x : V) (res : RV) (Q : VK), View X.K H F d x → o [d] = some res →
    (∀ v H' F', Stp (fun _ => False) H F H' F' → RRel X.K H H' F' [] res v → Q v H') → r x H Q) (hl : ∀ ds res, o ds = some res → ∃ d, ds = [d]) : OpD X (r1 r) o := by
  intro H F ds vs res Q hv ho hQ
  obtain ⟨d, rfl⟩ := hl ds res ho
  obtain ⟨x, rfl, h1⟩ := views1 hv
  exact ⟨x, rfl, h H F d x res Q h1 ho hQ⟩

def rEqA (K : PySem.W.Frag) : R2 := fun x y H Q => rEq x y H Q ∨ rEqD K x y H Q
theorem od_eq : OpD X (r2 (rEqA X.K)) oEq := by
  refine op2 (fun H F d e x y res Q h1 h2 ho hQ => ?_) fun ds res h => ?_
  · obtain ⟨hs, ho⟩ := ite_some (show (if (bothS d e || (shP d && shP e)) = true then _ else none) = some res from ho)
    cases hb : bothS d e with
    | false =>
      rw [hb, Bool.false_or, Bool.and_eq_true] at hs
      exact .inr ⟨_, _, h1.dp, h2.dp, hs.1, hs.2, give ho rfl hQ⟩
    | true =>
      unfold bothS at hb
      split at hb
      · rename_i a b _
        refine .inl ?_
        rw [h1.str, h2.str]
        refine ⟨rfl, ?_⟩
        rw [dec_str]
        have e : eqP (.str a) (.str b) = (a == b) := by unfold eqP; simp only [toP, PyData.eqv]
        rw [e] at ho
        exact give ho rfl hQ
      · cases hb
  · unfold oEq at h
    split at h
    · exact ⟨_, _, rfl⟩
    · cases h
def rNeA (K : PySem.W.Frag) : R2 := fun x y H Q => rNe x y H Q ∨ rNeD K x y H Q
theorem od_ne : OpD X (r2 (rNeA X.K)) oNe := by
  refine op2 (fun H F d e x y res Q h1 h2 ho hQ => ?_) fun ds res h => ?_
  · obtain ⟨hs, ho⟩ := ite_some (show (if (bothS d e || (shP d && shP e)) = true then _ else none) = some res from ho)
    cases hb : bothS d e with
    | false =>
      rw [hb, Bool.false_or, Bool.and_eq_true] at hs
      exact .inr ⟨_, _, h1.dp, h2.dp, hs.1, hs.2, give ho rfl hQ⟩
    | true =>
      unfold bothS at hb
      split at hb
      · rename_i a b _
        refine .inl ?_
        rw [h1.str, h2.str]
        refine ⟨rfl, ?_⟩
        rw [dec_str]
        have e : eqP (.str a) (.str b) = (a == b) := by unfold eqP; simp only [toP, PyData.eqv]
        rw [e] at ho
        exact give ho rfl hQ
      · cases hb
  · unfold oNe at h
    split at h
    · exact ⟨_, _, rfl⟩
    · cases h
theorem od_cmp {p : Int → Int → Bool} : OpD X (r2 (rI0 fun i j => .bl (p i j))) (oCmp p) := by
  refine op2 (fun H F d e x y res Q h1 h2 ho hQ => ?_) fun ds res h => ?_
  · unfold oCmp at ho
    split at ho
    · rename_i i j hh
      cases hh
      rw [h1.int, h2.int]
      exact ⟨i, j, rfl, rfl, give ho rfl hQ⟩
    · cases ho
  · unfold oCmp at h
    split at h
    · exact ⟨_, _, rfl⟩
    · cases h
theorem isNon_iff {d : D} {v : V} (h : View K H F d v) : decide (v = .non) = isNon d := by
  cases d with
  | non => rw [h.non]; rfl
  | bl b => rw [h.bl]; rfl
  | int b => rw [h.int]; rfl
  | str b => rw [h.str]; rfl
  | tup l =>
    obtain ⟨a, vs, rfl, _⟩ := h.tup
    rfl
  | lst l =>
    obtain ⟨a, vs, rfl, _⟩ := h.lst
    rfl
theorem od_is : OpD X (r2 fun x y H Q => y = .non ∧ Q (.bl (decide (x = .non))) H) oIs := by
  refine op2 (fun H F d e x y res Q h1 h2 ho hQ => ?_) fun ds res h => ?_
  · unfold oIs at ho
    split at ho
    · rename_i i hh
      cases hh
      rw [isNon_iff h1]
      exact ⟨h2.non, give ho rfl hQ⟩
    · cases ho
  · unfold oIs at h
    split at h
    · exact ⟨_, _, rfl⟩
    · cases h
theorem od_isnot : OpD X (r2 fun x y H Q => y = .non ∧ Q (.bl (!decide (x = .non))) H) oIsNot := by
  refine op2 (fun H F d e x y res Q h1 h2 ho hQ => ?_) fun ds res h => ?_
  · unfold oIsNot at ho
    split at ho
    · rename_i i hh
      cases hh
      rw [isNon_iff h1]
      exact ⟨h2.non, give ho rfl hQ⟩
    · cases ho
  · unfold oIsNot at h
    split at h
    · exact ⟨_, _, rfl⟩
    · cases h
theorem od_int {C : Int → Int → Prop} {g : Int → Int → Int} {o : Op} (h : ∀ ds res, o ds = some res → ∃ i j, ds = [.int i, .int j] ∧ C i j ∧ res = .d (.int (g i j))) : OpD X (r2 (rI C fun i j => .int (g i j))) o := by
  refine op2 (fun H F d e x y res Q h1 h2 ho hQ => ?_) fun ds res ho => ?_
  · obtain ⟨i, j, hd, hc, rfl⟩ := h _ _ ho
    cases hd
    rw [h1.int, h2.int]
    exact ⟨i, j, rfl, rfl, hc, give rfl rfl hQ⟩
  · obtain ⟨i, j, rfl, _⟩ := h _ _ ho
    exact ⟨_, _, rfl⟩
theorem od_int0 {g : Int → Int → Int} {o : Op} (h : ∀ ds res, o ds = some res → ∃ i j, ds = [.int i, .int j] ∧ res = .d (.int (g i j))) : OpD X (r2 (rI0 fun i j => .int (g i j))) o := by
  refine op2 (fun H F d e x y res Q h1 h2 ho hQ => ?_) fun ds res ho => ?_
  · obtain ⟨i, j, hd, rfl⟩ := h _ _ ho
    cases hd
    rw [h1.int, h2.int]
    exact ⟨i, j, rfl, rfl, give rfl rfl hQ⟩
  · obtain ⟨i, j, rfl, _⟩ := h _ _ ho
    exact ⟨_, _, rfl⟩
theorem od_sub : OpD X (r2 (rI0 fun i j => .int (i - j))) oSub := od_int0 fun ds res h => by
  unfold oSub at h
  split at h
  · cases h; exact ⟨_, _, rfl, rfl⟩
  · cases h
theorem op_fdivA : OpR X (binaryOp .FloorDiv) (rI (fun i j => divOk j = true) fun i j => .int (i.fdiv j)) := opI fun i j _ _ _ _ _ hc q => by
  unfold divOk at hc
  rw [Bool.and_eq_true] at hc
  exact floordiv_int (by simpa using hc.1) q (.inl (PyProof.noPylong_of_log2 (Nat.le_of_ble_eq_true hc.2)))
theorem od_div : OpD X (r2 (rI (fun i j => divOk j = true) fun i j => .int (i.fdiv j))) oDiv := od_int fun ds res h => by
  unfold oDiv at h
  split at h
  · split at h
    · cases h; exact ⟨_, _, rfl, by assumption, rfl⟩
    · cases h
  · cases h
theorem od_mod : OpD X (r2 (rI (fun _ j => j ≠ 0) fun i j => .int (i.fmod j))) oMod := od_int fun ds res h => by
  unfold oMod at h
  split at h
  · split at h
    · rename_i hc
      cases h; exact ⟨_, _, rfl, by simpa using hc, rfl⟩
    · cases h
  · cases h
theorem od_pow : OpD X (r2 (rI CPow fun i j => .int (i ^ j.toNat))) oPow := od_int fun ds res h => by
  unfold oPow at h
  split at h
  · split at h
    · rename_i hc
      rw [Bool.and_eq_true, Bool.and_eq_true] at hc
      cases h; exact ⟨_, _, rfl, ⟨of_decide_eq_true hc.1.1, of_decide_eq_true hc.1.2, Nat.le_of_ble_eq_true hc.2⟩, rfl⟩
    · cases h
  · cases h
theorem od_shl : OpD X (r2 (rI CShl fun i j => .int (i * 2 ^ j.toNat))) oShl := od_int fun ds res h => by
  unfold oShl at h
  split at h
  · split at h
    · rename_i hc
      rw [Bool.and_eq_true] at hc
      cases h; exact ⟨_, _, rfl, ⟨of_decide_eq_true hc.1, of_decide_eq_true hc.2⟩, rfl⟩
    · cases h
  · cases h
theorem od_shr : OpD X (r2 (rI (fun _ j => 0 ≤ j) fun i j => .int (i / 2 ^ j.toNat))) oShr := od_int fun ds res h => by
  unfold oShr at h
  split at h
  · split at h
    · rename_i hc
      cases h; exact ⟨_, _, rfl, of_decide_eq_true hc, rfl⟩
    · cases h
  · cases h
theorem od_neg : OpD X (r1 (rU fun i => .int (-i))) oNeg := by
  refine op1 (fun H F d x res Q h1 ho hQ => ?_) fun ds res h => ?_
  · unfold oNeg at ho
    split at ho
    · rename_i i hh
      cases hh
      exact ⟨i, h1.int, give ho rfl hQ⟩
    · cases ho
  · unfold oNeg at h
    split at h
    · exact ⟨_, rfl⟩
    · cases h
end
end DL
set_option maxHeartbeats 1000000
/-! DL, part 4: operations of several kinds; expressions. -/
namespace DL
open PySem PySem.Spec PyProof.Rows L2
section
variable {X : Cx} {W : WX} {σ : St} {H H' H0 H1 H2 : Hp} {F F' F0 F1 F2 : Addr → Prop} {ρ ρ' ρ1 ρ2 : DEnv} {S : Addr → Prop} {K : PySem.W.Frag}

/-! ### new things -/
/-- a new tuple of data -/
theorem give_tup {ds : List D} {vs : List V} {p : Addr} {Q : VK} (hp : H p = none) (r : Reps K H F ds vs) (hQ : ∀ v H' F', Stp (fun _ => False) H F H' F' → RRel K H H' F' [] (.d (.tup ds)) v → Q v H') : Q (.ref p) (upd H p (.tup vs)) := by
  have s2 : Stp (fun _ => False) H F (upd H p (.tup vs)) F := Stp.new hp fun _ z => z.elim
  refine hQ _ _ F s2 ?_
  show Rep _ _ _ (.tup ds) _
  rw [Rep]
  exact ⟨p, vs, rfl, SqT.of upd_same, s2.fut.reps _ _ r⟩
/-- a new list of data; F holds tracked things alone -/
theorem give_lst {ds : List D} {vs : List V} {p : Addr} {Q : VK} (hp : H p = none) (nf : ¬ F p) (r : Reps K H F ds vs) (hQ : ∀ v H' F', Stp (fun _ => False) H F H' F' → RRel K H H' F' [] (.fresh (.lst ds)) v → Q v H') : Q (.ref p) (upd H p (.lst vs)) := by
  have s2 : Stp (fun _ => False) H F (upd H p (.lst vs)) F := Stp.new hp fun _ z => z.elim
  exact hQ _ _ F s2 ⟨p, rfl, hp, nf, vs, upd_same, s2.fut.reps _ _ r⟩
end
/-- as OpD, the frozen things are tracked -/
def OpT (X : Cx) (r : List V → Hp → VK → Prop) (o : List D → Option RV) : Prop :=
  ∀ (H : Hp) (F : Addr → Prop) (ds : List D) (vs : List V) (res : RV) (Q : VK), (∀ a, F a → ∃ o, H a = some o) → Views X.K H F ds vs → o ds = some res →
    (∀ v H' F', Stp (fun _ => False) H F H' F' → RRel X.K H H' F' [] res v → Q v H') → r vs H Q
section
variable {X : Cx} {W : WX} {σ : St} {H H' H0 H1 H2 : Hp} {F F' F0 F1 F2 : Addr → Prop} {ρ ρ' ρ1 ρ2 : DEnv} {S : Addr → Prop} {K : PySem.W.Frag}
theorem OpD.t {r : List V → Hp → VK → Prop} {o : List D → Option RV} (h : OpD X r o) : OpT X r o := fun H F ds vs res Q _ => h H F ds vs res Q
theorem appT {r : List V → Hp → VK → Prop} {o : List D → Option RV} {fs : List Den} {Q : VK} (ho : OpT X r o) (h : LE X W (dApp o fs) σ H Q) : LA X W (dArgs fs) σ H (fun vs H1 => r vs H1 Q) := by
  obtain ⟨F, ρ, e, h⟩ := h
  refine ⟨F, ρ, e, OP.seq e h fun rs ρ1 vs H1 F1 _ s1 e1 rt1 r1 h => ?_⟩
  cases q2 : views ρ1 rs with
  | none => rw [q2] at h; exact h.elim
  | some ds =>
    rw [q2] at h
    cases q3 : o ds with
    | none => simp only [Option.bind_some, q3] at h; exact h.elim
    | some res =>
      simp only [Option.bind_some, q3] at h
      refine ho H1 F1 ds vs res Q e1.trk (WRels.views e1 r1.weak q2) q3 fun v H2 F2 s2 r2 => ?_
      exact h v H2 F2 (s1.trans s2 fun _ z => z.elim) (e1.step s2 fun _ _ z => z) rt1 (r2.any.since fun a n => s1.new_of n)
theorem nf_of {p : Addr} (t : ∀ a, F a → ∃ o, H a = some o) (hp : H p = none) : ¬ F p := fun f => by
  obtain ⟨o, z⟩ := t p f
  rw [hp] at z; cases z
theorem opT2 {r : R2} {o : Op} (h : ∀ (H : Hp) (F : Addr → Prop) (d e : D) (x y : V) (res : RV) (Q : VK), (∀ a, F a → ∃ o, H a = some o) → View X.K H F d x → View X.K H F e y → o [d, e] = some res →
    (∀ v H' F', Stp (fun _ => False) H F H' F' → RRel X.K H H' F' [] res v → Q v H') → r x y H Q) (hl : ∀ ds res, o ds = some res → ∃ d e, ds = [d, e]) : OpT X (r2 r) o := by
  intro H F ds vs res Q ht hv ho hQ
  obtain ⟨d, e, rfl⟩ := hl ds res ho
  obtain ⟨x, y, rfl, h1, h2⟩ := views2 hv
  exact ⟨x, y, rfl, h H F d e x y res Q ht h1 h2 ho hQ⟩
theorem opT1 {r : V → Hp → VK → Prop} {o : Op} (h : ∀ (H : Hp) (F : Addr → Prop) (d : D) (x : V) (res : RV) (Q : VK), (∀ a, F a → ∃ o, H a = some o) → View X.K H F d x → o [d] = some res →
    (∀ v H' F', Stp (fun _ => False) H F H' F' → RRel X.K H H' F' [] res v → Q v H') → r x H Q) (hl : ∀ ds res, o ds = some res → ∃ d, ds = [d]) : OpT X (r1 r) o := by
  intro H F ds vs res Q ht hv ho hQ
  obtain ⟨d, rfl⟩ := hl ds res ho
  obtain ⟨x, rfl, h1⟩ := views1 hv
  exact ⟨x, rfl, h H F d x res Q ht h1 ho hQ⟩

/-! ### list + list, list * int where known things may stand -/
theorem Inv.listO {X : Cx} {pins : List (Addr × Obj)} {σ : St} {H : Hp} {s : Shared} {a : Addr} {xs : List V} (I : Inv X pins σ H s) (h : SqL X.K H a xs) : ∃ (its : List Value) (dd : Option Addr) (sl : Array (Option Value)) (n : Nat), Vals xs its ∧ xs.length ≤ sizeLine ∧ s.heap.get? a = some { cls := .type "list", dict := dd, data := .seq its.toArray n, slots := sl } := by
  rcases h with h | ⟨o, its, n, hk, hc, hd, hs, hz, r⟩
  · obtain ⟨z, its, n, r, e⟩ := h.ok I.hok
    exact ⟨its, none, #[], n, r, z, e⟩
  · obtain ⟨cls, dd, data, sl⟩ := o
    have hc : cls = .type "list" := hc
    have hs : data = .seq its n := hs
    subst hc hs
    refine ⟨its.toList, dd, sl, n, r, ?_, ?_⟩
    · have e := r.length
      simp only [Array.length_toList] at e
      omega
    · have := I.kIn a _ hk
      simpa using this
def rCatR (K : PySem.W.Frag) : R2 := fun x y H Q => ∃ l b xs zs, x = .ref l ∧ y = .ref b ∧ SqL K H l xs ∧ SqL K H b zs ∧ xs.length + zs.length ≤ sizeLine ∧ ∀ p, H p = none → Q (.ref p) (upd H p (.lst (xs ++ zs)))
theorem op_catR : OpR X (binaryOp .Add) (rCatR X.K) := by
  intro pins s σ H x y v u Q I rx ry h
  obtain ⟨l, b, xs, zs, rfl, rfl, hH, hB, hz, q⟩ := h
  cases rx
  cases ry
  obtain ⟨its, dd, sl, n, r, _, ho⟩ := Inv.listO I hH
  obtain ⟨its2, dd2, sl2, n2, r2, _, ho2⟩ := Inv.listO I hB
  have hl := r.length
  have hl2 := r2.length
  have ea : its.toArray ++ its2.toArray = (its ++ its2).toArray := by simp
  refine concat_meets ⟨_, ho, rfl⟩ ⟨_, ho2, rfl⟩ noFill_list_add seq_list_add PySem.F.slot_list_add PySem.F.entry_list_add (PySem.F.args_list_add_2 _ _) (list_addW l b its.toArray its2.toArray n n2 dd dd2 sl sl2 (by rw [List.size_toArray, List.size_toArray]; omega)) ⟨ho, ho2, ?_⟩
  rw [ea]
  exact ⟨.ref _, _, I.lnew (t' := s.toks) (r.append r2) (by rw [List.length_append]; omega), rfl, q _ I.fresh⟩
def rAddA (K : PySem.W.Frag) : R2 := fun x y H Q => rI0 (fun i j => .int (i + j)) x y H Q ∨ (∃ i j, x = .str i ∧ y = .str j ∧ i.length + j.length ≤ sizeLine ∧ Q (.str (i ++ j)) H) ∨ rCatA K x y H Q ∨ rCatR K x y H Q
theorem op_addA : OpR X (binaryOp .Add) (rAddA X.K) := op_add.or (op_add_str.or (op_catA.or op_catR))
theorem Str_length_append (a b : Str) : True := trivial
theorem od_add : OpT X (r2 (rAddA X.K)) oAdd := by
  refine opT2 (fun H F d e x y res Q ht h1 h2 ho hQ => ?_) fun ds res h => ?_
  · unfold oAdd at ho
    split at ho
    · rename_i i j hh
      cases hh
      exact .inl ⟨i, j, h1.int, h2.int, give ho rfl hQ⟩
    · rename_i i j hh
      cases hh
      obtain ⟨hc, ho⟩ := ite_some ho
      exact .inr (.inl ⟨i, j, h1.str, h2.str, okLen_le hc, give ho rfl hQ⟩)
    · rename_i i j hh
      cases hh
      obtain ⟨hc, ho⟩ := ite_some ho
      cases ho
      obtain ⟨a, vs, rfl, s1, r1⟩ := h1.tup
      obtain ⟨b, us, rfl, s2, r2⟩ := h2.tup
      refine .inr (.inr (.inl ⟨a, b, vs, us, rfl, rfl, s1, s2, by rw [r1.length, r2.length]; exact okLen_le hc, fun e => ?_, fun _ e => ?_, fun _ _ p hp => give_tup hp (r1.append r2) hQ⟩))
      · have ei : i = [] := by
          have := r1.length; rw [e] at this
          exact List.eq_nil_of_length_eq_zero this.symm
        subst ei
        refine hQ _ H F stp0 ?_
        show Rep _ _ _ (.tup ([] ++ j)) _
        rw [Rep]
        exact ⟨b, us, rfl, s2, r2⟩
      · have ei : j = [] := by
          have := r2.length; rw [e] at this
          exact List.eq_nil_of_length_eq_zero this.symm
        subst ei
        refine hQ _ H F stp0 ?_
        show Rep _ _ _ (.tup (i ++ [])) _
        rw [List.append_nil, Rep]
        exact ⟨a, vs, rfl, s1, r1⟩
    · rename_i i j hh
      cases hh
      obtain ⟨hc, ho⟩ := ite_some ho
      cases ho
      obtain ⟨a, vs, rfl, s1, r1⟩ := h1.lst
      obtain ⟨b, us, rfl, s2, r2⟩ := h2.lst
      exact .inr (.inr (.inr ⟨a, b, vs, us, rfl, rfl, s1, s2, by rw [r1.length, r2.length]; exact okLen_le hc, fun p hp => give_lst hp (nf_of ht hp) (r1.append r2) hQ⟩))
    · cases ho
  · unfold oAdd at h
    split at h <;> first | exact ⟨_, _, rfl⟩ | cases h
theorem rmulW (a : Int) (t : Tok) (l : Addr) (items : Array Value) (n : Nat) (dd : Option Addr) (sl : Array (Option Value)) :
    Meets (Builtin.«int.__rmul__» ⟨[.int a t, .ref l], []⟩) (fun _ R s => s.heap.get? l = some { cls := .type "list", dict := dd, data := .seq items n, slots := sl } ∧ R (.ok (.ret Value.notImplemented)) s) :=
  .of_wp fun prog w A R s h => by obtain ⟨hp, g, d, tk, os⟩ := s; obtain ⟨hl, h⟩ := h; wp_walk; exact ⟨_, rfl, h⟩
theorem list_mulW (l : Addr) (items : Array Value) (n : Nat) (dd : Option Addr) (sl : Array (Option Value)) (x : Int) (u : Tok) (hc0 : ¬(!Builtin.List.listFitsIndex x) = true) (hc1 : ¬items.size * x.toNat > (2 ^ 63 - 1) / 8) (hc2 : ¬Builtin.List.listTooLong (items.size * x.toNat) = true) :
    Meets (Builtin.«list.__mul__» ⟨[.ref l, .int x u], []⟩) (fun _ R s => s.heap.get? l = some { cls := .type "list", dict := dd, data := .seq items n, slots := sl } ∧ R (.ok (.ret (Value.ref s.heap.objs.size))) { s with heap := s.heap.push { cls := Value.type "list", data := Data.seq (List.foldl (fun x1 x2 => x1 ++ x2) #[] (List.replicate (if items.isEmpty = true then 0 else x.toNat) items)) }, toks := s.toks }) :=
  .of_wp fun prog w A R s h => by
    obtain ⟨hp, g, d, tk, os⟩ := s; obtain ⟨hl, h⟩ := h
    have hsz := AutoListH.joined_fits hc2
    wp_walk; refine wpAny_ite_false (decide_eq_false (Nat.not_lt.mpr hsz)) ?_; wp_walk; exact ⟨_, rfl, h⟩
def rRepR (K : PySem.W.Frag) : R2 := fun x y H Q => ∃ l k xs, x = .ref l ∧ y = .int k ∧ SqL K H l xs ∧ -(2 ^ 63) ≤ k ∧ k < 2 ^ 63 ∧ xs.length * k.toNat ≤ sizeLine ∧
  ∀ p, H p = none → Q (.ref p) (upd H p (.lst (List.replicate k.toNat xs).flatten))
theorem op_repR : OpR X (binaryOp .Mult) (rRepR X.K) := by
  intro pins s σ H x y v u Q I rx ry h
  obtain ⟨l, k, xs, rfl, rfl, hH, h1, h2, hz, q⟩ := h
  cases rx
  obtain ⟨t, rfl⟩ := ry
  obtain ⟨its, dd, sl, n, r, _, e⟩ := Inv.listO I hH
  have hl := r.length
  have hlen : its.toArray.size * k.toNat ≤ sizeLine := by rw [List.size_toArray, ← hl]; exact hz
  have hcap : ¬ its.toArray.size * k.toNat > (2 ^ 63 - 1) / 8 := by
    have : (sizeLine : Nat) ≤ (2 ^ 63 - 1) / 8 := by decide
    omega
  have hfit : ¬ (!Builtin.List.listFitsIndex k) = true := by
    rw [fitsIndex_both h1 h2]
    exact Bool.false_ne_true
  have hlong : ¬ Builtin.List.listTooLong (its.toArray.size * k.toNat) = true := by
    rw [notLongL hlen]
    exact Bool.false_ne_true
  have hnew : List.foldl (fun x1 x2 => x1 ++ x2) #[] (List.replicate (if its.toArray.isEmpty = true then 0 else k.toNat) its.toArray) = (List.replicate k.toNat its).flatten.toArray := by
    have f0 : ∀ m : Nat, List.foldl (fun x1 x2 => x1 ++ x2) #[] (List.replicate m its.toArray) = (List.replicate m its).flatten.toArray := fun m => by
      have := foldl_rep its m []
      rw [List.nil_append] at this
      exact this
    rw [f0]
    cases its with
    | nil => simp
    | cons a r' => rw [if_neg (by simp)]
  refine wpAny_binaryOp_repeat_ref (T := "list") (U := "int") (by decide) ⟨_, e, rfl⟩ (fun s' => typeIs_int s' k t) noFill_list_mul F.fills_int_mul F.slot_int_rmul repeat_list F.slot_int_index.lookup
    (call_meets F.slot_int_rmul (typeIs_int s k t) F.entry_int_rmul (F.args_int_rmul_2 _ _) (rmulW k t l its.toArray n dd sl)
      ⟨e, rfl, ⟨_, e, rfl⟩, call_meets F.slot_list_mul ⟨_, e, rfl⟩ F.entry_list_mul (F.args_list_mul_2 _ _) (list_mulW l its.toArray n dd sl k t hfit hcap hlong) ⟨e, ?_⟩⟩)
  rw [hnew]
  exact ⟨.ref _, _, I.lnew (t' := s.toks) (r.rep k.toNat) (by rw [PyProof.Rows.lm_len_rep_flat, Nat.mul_comm]; exact hz), rfl, q _ I.fresh⟩
theorem mulOk_of {i j : Int} (h : i.natAbs.log2 + j.natAbs.log2 ≤ 134000000) : IntMulOk i j := by
  have b : ∀ x : Int, Builtin.Int.intBits x ≤ x.natAbs.log2 + 1 := fun x => by
    unfold Builtin.Int.intBits
    split <;> omega
  have h1 := b i
  have h2 := b j
  have e : bitsLine = 134217728 := by decide
  unfold IntMulOk
  intro z
  rw [Bool.and_eq_true] at z
  have z2 := z.2
  unfold Builtin.Int.intTooBig at z2
  have z3 := of_decide_eq_true z2
  rw [e] at z3
  omega
theorem op_mulI : OpR X (binaryOp .Mult) (rI IntMulOk fun i j => .int (i * j)) := opI fun _ _ _ _ _ _ _ hc q => mul_int q hc
theorem tuple_mul1 (l : Addr) (items : Array Value) (n : Nat) (dd : Option Addr) (sl : Array (Option Value)) (u : Tok) :
    Meets (Builtin.«tuple.__mul__» ⟨[.ref l, .int 1 u], []⟩) (fun _ R s => s.heap.get? l = some { cls := .type "tuple", dict := dd, data := .seq items n, slots := sl } ∧ R (.ok (.ret (Value.ref l))) s) :=
  .of_wp fun prog w A R s h => by
    obtain ⟨hp, g, d, tk, os⟩ := s
    obtain ⟨hl, h⟩ := h
    have f1 := AutoSeq1.idx_int
    have c1 : (items.isEmpty || (1 : Int) == 1) = true := by simp
    wp_walk using wpAny_loadPart' hl
    exact ⟨_, rfl, h⟩
theorem tuple_mul0 (l : Addr) (items : Array Value) (n : Nat) (dd : Option Addr) (sl : Array (Option Value)) (u : Tok) (hi : items.isEmpty = false) :
    Meets (Builtin.«tuple.__mul__» ⟨[.ref l, .int 0 u], []⟩) (fun _ R s => s.heap.get? l = some { cls := .type "tuple", dict := dd, data := .seq items n, slots := sl } ∧
      R (.ok (.ret (Value.ref s.heap.objs.size))) { s with heap := s.heap.push { cls := Value.type "tuple", data := Data.seq #[] }, toks := s.toks }) :=
  .of_wp fun prog w A R s h => by
    obtain ⟨hp, g, d, tk, os⟩ := s
    obtain ⟨hl, h⟩ := h
    have f1 := AutoSeq1.idx_int
    wp_walk using wpAny_loadPart' hl
    exact ⟨_, rfl, h⟩
def rRepT1 (K : PySem.W.Frag) : R2 := fun x y H Q => ∃ l xs, x = .ref l ∧ SqT K H l xs ∧ ((y = .int 1 ∧ Q (.ref l) H) ∨ (y = .int 0 ∧ xs ≠ [] ∧ ∀ p, H p = none → Q (.ref p) (upd H p (.tup []))))
theorem op_repT1 : OpR X (binaryOp .Mult) (rRepT1 X.K) := by
  intro pins s σ H x y v u Q I rx ry h
  obtain ⟨l, xs, rfl, hT, h⟩ := h
  cases rx
  obtain ⟨its, r, ⟨⟨cls, dd, data, sl⟩, ho, hc, n, hd⟩, hs⟩ := I.tuple hT
  simp only at hc hd
  subst hc hd
  rcases h with ⟨rfl, q⟩ | ⟨rfl, hne, q⟩
  · obtain ⟨t, rfl⟩ := ry
    refine wpAny_binaryOp_repeat_ref (T := "tuple") (U := "int") (by decide) ⟨_, ho, rfl⟩ (fun s' => typeIs_int s' 1 t) noFill_tuple_mul F.fills_int_mul F.slot_int_rmul repeat_tuple F.slot_int_index.lookup
      (call_meets F.slot_int_rmul (typeIs_int s 1 t) F.entry_int_rmul (F.args_int_rmul_2 _ _) (int_rmul_tuple 1 t l its.toArray n dd sl)
        ⟨ho, rfl, ⟨_, ho, rfl⟩, call_meets F.slot_tuple_mul ⟨_, ho, rfl⟩ F.entry_tuple_mul (F.args_tuple_mul_2 _ _) (tuple_mul1 l its.toArray n dd sl t) ⟨ho, ?_⟩⟩)
    exact ⟨.ref l, H, I, rfl, q⟩
  · obtain ⟨t, rfl⟩ := ry
    have hi : its.toArray.isEmpty = false := by
      cases its with
      | nil => exact absurd (List.eq_nil_of_length_eq_zero r.length) hne
      | cons a b => rfl
    refine wpAny_binaryOp_repeat_ref (T := "tuple") (U := "int") (by decide) ⟨_, ho, rfl⟩ (fun s' => typeIs_int s' 0 t) noFill_tuple_mul F.fills_int_mul F.slot_int_rmul repeat_tuple F.slot_int_index.lookup
      (call_meets F.slot_int_rmul (typeIs_int s 0 t) F.entry_int_rmul (F.args_int_rmul_2 _ _) (int_rmul_tuple 0 t l its.toArray n dd sl)
        ⟨ho, rfl, ⟨_, ho, rfl⟩, call_meets F.slot_tuple_mul ⟨_, ho, rfl⟩ F.entry_tuple_mul (F.args_tuple_mul_2 _ _) (tuple_mul0 l its.toArray n dd sl t hi) ⟨ho, ?_⟩⟩)
    refine ⟨.ref s.heap.objs.size, _, I.laid (t' := s.toks) (o := .tup []) (fun b ob q => Heap.get?_push_of_some _ q) (Nat.le_refl _) ?_, rfl, q _ (I.hok.fresh (Nat.le_refl _))⟩
    exact ⟨Nat.zero_le _, [], .nil, IsTup.new _ _⟩
def rMulA (K : PySem.W.Frag) : R2 := fun x y H Q => rI IntMulOk (fun i j => .int (i * j)) x y H Q ∨ rRepR K x y H Q ∨ rRepT K x y H Q ∨ rRepT1 K x y H Q
theorem op_mulA : OpR X (binaryOp .Mult) (rMulA X.K) := op_mulI.or (op_repR.or (op_repT.or op_repT1))
theorem Reps.rep {ds : List D} {vs : List V} (h : Reps K H F ds vs) : ∀ k : Nat, Reps K H F (List.replicate k ds).flatten (List.replicate k vs).flatten
  | 0 => by simp; exact Reps.nil
  | k + 1 => by
    rw [List.replicate_succ, List.replicate_succ, List.flatten_cons, List.flatten_cons]
    exact h.append (Reps.rep h k)
theorem od_mul : OpT X (r2 (rMulA X.K)) oMul := by
  refine opT2 (fun H F d e x y res Q ht h1 h2 ho hQ => ?_) fun ds res h => ?_
  · unfold oMul at ho
    split at ho
    · rename_i i j hh
      cases hh
      obtain ⟨hc, ho⟩ := ite_some ho
      exact .inl ⟨i, j, h1.int, h2.int, mulOk_of (Nat.le_of_ble_eq_true hc), give ho rfl hQ⟩
    · rename_i i j hh
      cases hh
      obtain ⟨hc, ho⟩ := ite_some ho
      cases ho
      rw [Bool.and_eq_true, Bool.and_eq_true, Bool.and_eq_true] at hc
      obtain ⟨⟨h3, h4, h5⟩, h6⟩ := hc
      have h4 := of_decide_eq_true h4
      have h5 := of_decide_eq_true h5
      obtain ⟨a, vs, rfl, s1, r1⟩ := h1.lst
      exact .inr (.inl ⟨a, j, vs, rfl, h2.int, s1, by omega, by omega, by rw [r1.length]; exact okLen_le h6, fun p hp => give_lst hp (nf_of ht hp) (r1.rep _) hQ⟩)
    · rename_i i j hh
      cases hh
      obtain ⟨hc, ho⟩ := ite_some ho
      cases ho
      rw [Bool.and_eq_true, Bool.and_eq_true, Bool.and_eq_true] at hc
      obtain ⟨⟨h3, h3'⟩, h4, h5⟩ := hc
      have h4 := of_decide_eq_true h4
      have h5 := of_decide_eq_true h5
      have h3 := Nat.le_of_ble_eq_true h3
      have h3' : 0 < i.length := Nat.le_of_ble_eq_true h3'
      obtain ⟨a, vs, rfl, s1, r1⟩ := h1.tup
      have nn : vs ≠ [] := fun e => by
        have := r1.length
        rw [e] at this
        simp at this; omega
      by_cases k1 : j = 1
      · subst k1
        have e1 : (List.replicate (1 : Int).toNat i).flatten = i := by simp
        rw [e1] at hQ
        refine .inr (.inr (.inr ⟨a, vs, rfl, s1, .inl ⟨h2.int, ?_⟩⟩))
        refine hQ _ H F stp0 ?_
        show Rep _ _ _ (.tup i) _
        rw [Rep]
        exact ⟨a, vs, rfl, s1, r1⟩
      · by_cases k0 : j = 0
        · subst k0
          have e1 : (List.replicate (0 : Int).toNat i).flatten = [] := by simp
          rw [e1] at hQ
          exact .inr (.inr (.inr ⟨a, vs, rfl, s1, .inr ⟨h2.int, nn, fun p hp => give_tup hp Reps.nil hQ⟩⟩))
        · exact .inr (.inr (.inl ⟨a, j, vs, rfl, h2.int, s1, nn, by omega, h5, by rw [r1.length]; exact h3, fun p hp => give_tup hp (r1.rep _) hQ⟩))
    · cases ho
  · unfold oMul at h
    split at h <;> first | exact ⟨_, _, rfl⟩ | cases h
end
end DL
set_option maxHeartbeats 1000000
/-! DL, part 5: membership, places, slices, truth; the rules of expressions and tests. -/
namespace DL
open PySem PySem.Spec PyProof.Rows L2
section
variable {X : Cx} {W : WX} {σ : St} {H H' H0 H1 H2 : Hp} {F F' F0 F1 F2 : Addr → Prop} {ρ ρ' ρ1 ρ2 : DEnv} {S : Addr → Prop} {K : PySem.W.Frag}

/-! ### in -/
def rInA (K : PySem.W.Frag) (neg : Bool) : R2 := fun x y H Q => (∃ i j, x = .str i ∧ y = .str j ∧ Q (.bl (if neg then !(!(Builtin.Str.occurrences j i 0 j.length 1).isEmpty) else !(Builtin.Str.occurrences j i 0 j.length 1).isEmpty)) H) ∨
  ∃ d ds c, Dp K H x d ∧ Dp K H y c ∧ (c = .list ds ∨ c = .tuple ds) ∧ SeqAt.shaped d = true ∧ SeqAt.shaped c = true ∧ Q (.bl (if neg then !(ds.any fun z => PyData.eqv z d) else ds.any fun z => PyData.eqv z d)) H
theorem canLay_of_shapedT {ds : List PyData} (h : SeqAt.shaped (.tuple ds) = true) : PyData.canLayAll0 ds = true := by
  have h1 : ((PyData.tuple ds).canLay0 && decide ((PyData.tuple ds).depth ≤ 64)) = true := h
  rw [Bool.and_eq_true] at h1
  simpa [PyData.canLay0] using h1.1
theorem op_inA (hu : X.A.units + 65 < cLine) : OpR X (compareOp .In) (rInA X.K false) := by
  intro pins s σ H x y v u Q I rx ry h
  rcases h with ⟨i, j, rfl, rfl, q⟩ | ⟨d, ds, c, hd, he, hc, sd, se, q⟩
  · exact op_in_str pins s σ H _ _ v u Q I rx ry ⟨i, j, rfl, rfl, q⟩
  · obtain ⟨as, r1⟩ := Dp.reads I d x v hd rx
    obtain ⟨bs, r2⟩ := Dp.reads I c y u he ry
    rcases hc with rfl | rfl
    · exact SeqAt.in_list_reads r2 r1 (SeqAt.canLay_of_shaped se) (SeqAt.canLay_of_shaped sd) (room_in_shaped sd hu) ⟨.bl _, H, I, rfl, q⟩
    · exact SeqAt.in_tuple_reads r2 r1 (canLay_of_shapedT se) (SeqAt.canLay_of_shaped sd) (room_in_shaped sd hu) ⟨.bl _, H, I, rfl, q⟩
theorem op_notInA (hu : X.A.units + 65 < cLine) : OpR X (compareOp .NotIn) (rInA X.K true) := by
  intro pins s σ H x y v u Q I rx ry h
  rcases h with ⟨i, j, rfl, rfl, q⟩ | ⟨d, ds, c, hd, he, hc, sd, se, q⟩
  · exact L2.op_notIn_str pins s σ H _ _ v u Q I rx ry ⟨i, j, rfl, rfl, q⟩
  · obtain ⟨as, r1⟩ := Dp.reads I d x v hd rx
    obtain ⟨bs, r2⟩ := Dp.reads I c y u he ry
    rcases hc with rfl | rfl
    · exact SeqAt.notIn_list_reads r2 r1 (SeqAt.canLay_of_shaped se) (SeqAt.canLay_of_shaped sd) (room_in_shaped sd hu) ⟨.bl _, H, I, rfl, q⟩
    · exact SeqAt.notIn_tuple_reads r2 r1 (canLay_of_shapedT se) (SeqAt.canLay_of_shaped sd) (room_in_shaped sd hu) ⟨.bl _, H, I, rfl, q⟩
theorem toPs_any (x : D) : ∀ l : List D, ((toPs l).any fun z => PyData.eqv z (toP x)) = l.any fun z => eqP z x
  | [] => by rw [toPs]; rfl
  | d :: l => by rw [toPs, List.any_cons, List.any_cons, toPs_any x l]; rfl
theorem od_in : OpD X (r2 (rInA X.K false)) oIn := by
  refine op2 (fun H F d e x y res Q h1 h2 ho hQ => ?_) fun ds res h => ?_
  · unfold oIn at ho
    split at ho
    · rename_i i j hh
      cases hh
      exact .inl ⟨i, j, h1.str, h2.str, give ho rfl hQ⟩
    · rename_i a l hh
      cases hh
      obtain ⟨hs, ho⟩ := ite_some ho
      rw [Bool.and_eq_true] at hs
      refine .inr ⟨_, toPs l, _, h1.dp, h2.dp, .inr (by rw [toP]), hs.1, hs.2, ?_⟩
      rw [toPs_any]
      exact give ho rfl hQ
    · rename_i a l hh
      cases hh
      obtain ⟨hs, ho⟩ := ite_some ho
      rw [Bool.and_eq_true] at hs
      refine .inr ⟨_, toPs l, _, h1.dp, h2.dp, .inl (by rw [toP]), hs.1, hs.2, ?_⟩
      rw [toPs_any]
      exact give ho rfl hQ
    · cases ho
  · unfold oIn at h
    split at h <;> first | exact ⟨_, _, rfl⟩ | cases h
theorem od_notin : OpD X (r2 (rInA X.K true)) oNotIn := by
  refine op2 (fun H F d e x y res Q h1 h2 ho hQ => ?_) fun ds res h => ?_
  · unfold oNotIn at ho
    split at ho
    · rename_i i j hh
      cases hh
      exact .inl ⟨i, j, h1.str, h2.str, give ho rfl hQ⟩
    · rename_i a l hh
      cases hh
      obtain ⟨hs, ho⟩ := ite_some ho
      rw [Bool.and_eq_true] at hs
      refine .inr ⟨_, toPs l, _, h1.dp, h2.dp, .inr (by rw [toP]), hs.1, hs.2, ?_⟩
      rw [toPs_any]
      exact give ho rfl hQ
    · rename_i a l hh
      cases hh
      obtain ⟨hs, ho⟩ := ite_some ho
      rw [Bool.and_eq_true] at hs
      refine .inr ⟨_, toPs l, _, h1.dp, h2.dp, .inl (by rw [toP]), hs.1, hs.2, ?_⟩
      rw [toPs_any]
      exact give ho rfl hQ
    · cases ho
  · unfold oNotIn at h
    split at h <;> first | exact ⟨_, _, rfl⟩ | cases h

/-! ### places -/
theorem Reps.atI {ds : List D} {vs : List V} {i : Int} {d : D} (h : Reps K H F ds vs) (e : L2.atI ds i = some d) : ∃ v, L2.atI vs i = some v ∧ Rep K H F d v := by
  unfold L2.atI at e ⊢
  rw [h.length]
  cases q : ixN ds.length i with
  | none => rw [q] at e; cases e
  | some j =>
    rw [q] at e
    exact h.get (i := j) e
theorem od_ix : OpD X (r2 (rIx X.K)) oIx := by
  refine op2 (fun H F d e x y res Q h1 h2 ho hQ => ?_) fun ds res h => ?_
  · unfold oIx at ho
    split at ho
    · rename_i l i hh
      cases hh
      obtain ⟨a, vs, rfl, s1, r1⟩ := h1.lst
      obtain ⟨d, hd, rfl⟩ := Option.map_eq_some_iff.mp ho
      obtain ⟨v, hv, r⟩ := r1.atI hd
      exact .inl ⟨a, vs, i, v, rfl, h2.int, s1, hv, hQ v H F stp0 r⟩
    · rename_i l i hh
      cases hh
      obtain ⟨a, vs, rfl, s1, r1⟩ := h1.tup
      obtain ⟨d, hd, rfl⟩ := Option.map_eq_some_iff.mp ho
      obtain ⟨v, hv, r⟩ := r1.atI hd
      exact .inr (.inl ⟨a, vs, i, v, rfl, h2.int, s1, hv, hQ v H F stp0 r⟩)
    · rename_i z i hh
      cases hh
      obtain ⟨hc, ho⟩ := ite_some ho
      obtain ⟨c, hd, rfl⟩ := Option.map_eq_some_iff.mp ho
      exact .inr (.inr ⟨z, i, c, h1.str, h2.int, okLen_le hc, hd, hQ _ H F stp0 (rep_flat rfl)⟩)
    · cases ho
  · unfold oIx at h
    split at h <;> first | exact ⟨_, _, rfl⟩ | cases h

/-! ### truth -/
theorem truD_ok {d : D} {v : V} {b : Bool} (h : View K H F d v) (hb : truD d = some b) : TruV K v H b := by
  cases d with
  | non => cases hb; rw [h.non]; rfl
  | bl c => cases hb; rw [h.bl]; rfl
  | int i => cases hb; rw [h.int]; rfl
  | str z =>
    obtain ⟨hc, ho⟩ := ite_some (show (if okLen z.length = true then _ else none) = some b from hb)
    rw [h.str]
    exact ⟨okLen_le hc, by injection ho with e; exact e.symm⟩
  | tup l =>
    cases hb
    obtain ⟨a, vs, rfl, s1, r1⟩ := h.tup
    refine .inr (.inl ⟨vs, s1, ?_⟩)
    have := r1.length
    cases l <;> cases vs <;> first | rfl | simp at this
  | lst l =>
    cases hb
    obtain ⟨a, vs, rfl, s1, r1⟩ := h.lst
    refine .inl ⟨vs, s1, ?_⟩
    have := r1.length
    cases l <;> cases vs <;> first | rfl | simp at this

/-! ### expressions: operators -/
theorem la_two {fa fb : Den} {r : R2} {Q : VK} (h : LA X W (dArgs [fa, fb]) σ H (fun vs H2 => r2 r vs H2 Q)) : tOp r (LE X W fa) (LE X W fb) σ H Q := by
  have h1 := la_cons h
  show LE X W fa σ H fun x H1 => LE X W fb σ H1 fun y H2 => r x y H2 Q
  have mono : ∀ {f : Den} {σ H} {Q Q' : VK}, LE X W f σ H Q → (∀ v H, Q v H → Q' v H) → LE X W f σ H Q' := fun {f σ H Q Q'} h k => by
    obtain ⟨F, ρ, e, h⟩ := h
    refine ⟨F, ρ, e, ?_⟩
    cases q : f ρ with
    | bad => rw [q] at h; exact h
    | exc x ρ1 => rw [q] at h; exact h
    | ok a ρ1 => rw [q] at h; exact fun v H' F' s1 e1 rt r => k v H' (h v H' F' s1 e1 rt r)
  refine mono h1 fun x H1 h2 => mono (la_cons h2) fun y H2 h3 => ?_
  obtain ⟨x', y', e, q⟩ := la_nil h3
  cases e
  exact q
theorem LE.mono {f : Den} {Q Q' : VK} (h : LE X W f σ H Q) (k : ∀ v H, Q v H → Q' v H) : LE X W f σ H Q' := by
  obtain ⟨F, ρ, e, h⟩ := h
  refine ⟨F, ρ, e, ?_⟩
  cases q : f ρ with
  | bad => rw [q] at h; exact h
  | exc x ρ1 => rw [q] at h; exact h
  | ok a ρ1 => rw [q] at h; exact fun v H' F' s1 e1 rt r => k v H' (h v H' F' s1 e1 rt r)
theorem d_bin {a b : Expr} {fa fb : Den} {op : Operator} {r : R2} {o : Op} {pos : Pos} (ho : OpR X (binaryOp op) r) (od : OpT X (r2 r) o) (ha : PE X a (LE X W fa)) (hb : PE X b (LE X W fb)) : PE X (.BinOp a op b pos) (LE X W (dApp o [fa, fb])) :=
  PE.imp (pe_op ho ha hb) fun _ _ _ h => la_two (appT od h)
theorem d_un {a : Expr} {fa : Den} {op : UnaryOp} {r : V → Hp → VK → Prop} {o : Op} {pos : Pos} (ho : UnR X (unaryOp op) r) (od : OpT X (r1 r) o) (ha : PE X a (LE X W fa)) : PE X (.UnaryOp op a pos) (LE X W (dApp o [fa])) :=
  PE.imp (pe_un ho ha) fun _ _ _ h => (la_cons (appT od h)).mono fun x H1 h1 => by
    obtain ⟨x', e, q⟩ := la_nil h1
    cases e
    exact q
def notSet : Expr → Bool
  | .Set _ _ _ => false
  | _ => true
theorem mark_of {op : CmpOp} {b : Expr} (h : notSet b = true) : behindInMarks op b = false := by
  cases b <;> first | rfl | cases h
theorem d_cmp {a b : Expr} {fa fb : Den} {op : CmpOp} {r : R2} {o : Op} {pos : Pos} (ho : OpR X (compareOp op) r) (od : OpT X (r2 r) o) (hm : notSet b = true) (ha : PE X a (LE X W fa)) (hb : PE X b (LE X W fb)) : PE X (.Compare a [op] [b] pos) (LE X W (dApp o [fa, fb])) :=
  PE.imp (pe_cmpR ho ha hb (mark_of hm)) fun _ _ _ h => la_two (appT od h)
/-- a truth value handed on, as a test -/
def dBool (f : Den) : DEnv → Out Bool := fun ρ => (f ρ).bind fun r ρ1 => match r with
  | .d (.bl b) => .ok b ρ1
  | _ => .bad
theorem bool_ok {f : Den} {Q : Bool → Hp → Prop} (h : LT X W (dBool f) σ H Q) : tTest (LE X W f) σ H Q := by
  obtain ⟨F, ρ, e, h⟩ := h
  refine ⟨F, ρ, e, OP.seq e h fun r ρ1 v H1 F1 _ s1 e1 rt1 r1 h => ?_⟩
  cases r with
  | fresh x => exact h.elim
  | plc i => exact h.elim
  | d x =>
    cases x with
    | bl b =>
      have r1 : Rep X.K H1 F1 (.bl b) v := r1
      rw [Rep] at r1
      exact ⟨b, r1, h b H1 F1 s1 e1 rt1 rfl⟩
    | _ => exact h.elim
theorem t_cmp {a b : Expr} {fa fb : Den} {op : CmpOp} {r : R2} {o : Op} {pos : Pos} (ho : OpR X (compareOp op) r) (od : OpT X (r2 r) o) (hm : notSet b = true) (ha : PE X a (LE X W fa)) (hb : PE X b (LE X W fb)) : PT X (.Compare a [op] [b] pos) (LT X W (dBool (dApp o [fa, fb]))) :=
  PT.imp (pt_cmpR ho ha hb (mark_of hm)) fun _ _ _ h => la_two (appT od (bool_ok h))
/-- any value, by its truth, as a test -/
def dTru (f : Den) : DEnv → Out Bool := fun ρ => (f ρ).bind fun r ρ1 => match (view ρ1 r).bind truD with
  | some b => .ok b ρ1
  | none => .bad
theorem tru_ok' {f : Den} {Q : Bool → Hp → Prop} (h : LT X W (dTru f) σ H Q) : LE X W f σ H fun x H' => ∃ k, TruV X.K x H' k ∧ Q k H' := by
  obtain ⟨F, ρ, e, h⟩ := h
  refine ⟨F, ρ, e, OP.seq e h fun r ρ1 v H1 F1 _ s1 e1 rt1 r1 h => ?_⟩
  cases q : view ρ1 r with
  | none => simp only [q, Option.bind_none] at h; exact h.elim
  | some d =>
    cases q2 : truD d with
    | none => simp only [q, Option.bind_some, q2] at h; exact h.elim
    | some b =>
      simp only [q, Option.bind_some, q2] at h
      exact ⟨b, truD_ok (r1.weak.view e1 q) q2, h b H1 F1 s1 e1 rt1 rfl⟩
/-- an expression whose test is its value's truth -/
def plainTest : Expr → Bool
  | .UnaryOp .Not _ _ => false
  | .BoolOp _ _ _ => false
  | .IfExp _ _ _ _ => false
  | .Compare _ _ _ _ => false
  | _ => true
theorem plain_of {e : Expr} (h : plainTest e = true) (env : Env) (whole : Sem Value) : isTrue e env whole = (do let v ← whole; standAt e.pos; holding [v] (truthy v)) := by
  cases e with
  | UnaryOp op a pos => cases op <;> first | rfl | cases h
  | BoolOp => cases h
  | IfExp => cases h
  | Compare => cases h
  | _ => rfl
theorem t_tru {e : Expr} {f : Den} (hp : plainTest e = true) (h : PE X e (LE X W f)) : PT X e (LT X W (dTru f)) :=
  PT.imp (pt_truth h fun w => plain_of hp X.env w) fun _ _ _ h => tru_ok' h
def dNotT (f : DEnv → Out Bool) : DEnv → Out Bool := fun ρ => (f ρ).bind fun b ρ1 => .ok (!b) ρ1
theorem t_not {e : Expr} {f : DEnv → Out Bool} {pos : Pos} (h : PT X e (LT X W f)) : PT X (.UnaryOp .Not e pos) (LT X W (dNotT f)) :=
  PT.imp (pt_not h) fun σ H Q h => by
    obtain ⟨F, ρ, e, h⟩ := h
    refine ⟨F, ρ, e, OP.seq e h fun b ρ1 c H1 F1 _ s1 e1 rt1 r1 h => ?_⟩
    subst r1
    exact h _ H1 F1 s1 e1 rt1 rfl
/-- from a later state on -/
theorem OP.from {α β : Type} {R : Hp → Hp → (Addr → Prop) → St → α → β → Prop} {Q : β → Hp → Prop} {o : Out α} (e : ER X.K H F σ ρ) (s1 : Stp (Root σ ρ) H F H1 F1) (rt1 : ∀ a, Root σ ρ1 a → Root σ ρ a)
    (h : OP X W R σ ρ H F Q o) (hr : ∀ r v H' F', R H1 H' F' σ r v → R H H' F' σ r v) : OP X W R σ ρ1 H1 F1 Q o := by
  cases o with
  | bad => exact h
  | exc x ρ2 => exact fun cls dx H2 F2 s2 e2 rt2 x2 => h cls dx H2 F2 (s1.trans s2 fun a z => .inl (rt1 a z)) e2 (fun a z => rt1 a (rt2 a z)) x2
  | ok a ρ2 => exact fun v H2 F2 s2 e2 rt2 r2 => h v H2 F2 (s1.trans s2 fun a z => .inl (rt1 a z)) e2 (fun a z => rt1 a (rt2 a z)) (hr _ _ _ _ r2)
theorem OP.fromE {Q : VK} {o : Out RV} (e : ER X.K H F σ ρ) (s1 : Stp (Root σ ρ) H F H1 F1) (rt1 : ∀ a, Root σ ρ1 a → Root σ ρ a) (h : OP X W (RRel X.K) σ ρ H F Q o) : OP X W (RRel X.K) σ ρ1 H1 F1 Q o :=
  OP.from e s1 rt1 h fun r v H' F' r1 => r1.since fun a n => s1.new_of n
theorem OP.fromT {Q : Bool → Hp → Prop} {o : Out Bool} (e : ER X.K H F σ ρ) (s1 : Stp (Root σ ρ) H F H1 F1) (rt1 : ∀ a, Root σ ρ1 a → Root σ ρ a) (h : OP X W (fun _ _ _ _ b c => b = c) σ ρ H F Q o) : OP X W (fun _ _ _ _ b c => b = c) σ ρ1 H1 F1 Q o :=
  OP.from e s1 rt1 h fun r v H' F' r1 => r1
def dAndT (f g : DEnv → Out Bool) : DEnv → Out Bool := fun ρ => (f ρ).bind fun b ρ1 => if b = true then g ρ1 else .ok false ρ1
def dOrT (f g : DEnv → Out Bool) : DEnv → Out Bool := fun ρ => (f ρ).bind fun b ρ1 => if b = true then .ok true ρ1 else g ρ1
theorem t_and {a b : Expr} {rest : List Expr} {f g : DEnv → Out Bool} {pos : Pos} (ha : PT X a (LT X W f)) (hb : PW X (.BoolOp .And (b :: rest) pos) (LT X W g)) : PW X (.BoolOp .And (a :: b :: rest) pos) (LT X W (dAndT f g)) :=
  PW.imp (pw_and ha hb) fun σ H Q h => by
    obtain ⟨F, ρ, e, h⟩ := h
    refine ⟨F, ρ, e, OP.seq e h fun b ρ1 c H1 F1 _ s1 e1 rt1 r1 h => ?_⟩
    subst r1
    cases b with
    | true => exact ⟨F1, ρ1, e1, OP.fromT e s1 rt1 h⟩
    | false => exact h _ H1 F1 s1 e1 rt1 rfl
theorem t_or {a b : Expr} {rest : List Expr} {f g : DEnv → Out Bool} {pos : Pos} (ha : PT X a (LT X W f)) (hb : PW X (.BoolOp .Or (b :: rest) pos) (LT X W g)) : PW X (.BoolOp .Or (a :: b :: rest) pos) (LT X W (dOrT f g)) :=
  PW.imp (pw_or ha hb) fun σ H Q h => by
    obtain ⟨F, ρ, e, h⟩ := h
    refine ⟨F, ρ, e, OP.seq e h fun b ρ1 c H1 F1 _ s1 e1 rt1 r1 h => ?_⟩
    subst r1
    cases b with
    | true => exact h _ H1 F1 s1 e1 rt1 rfl
    | false => exact ⟨F1, ρ1, e1, OP.fromT e s1 rt1 h⟩
/-- as values -/
def dIf (c : DEnv → Out Bool) (f g : Den) : Den := fun ρ => (c ρ).bind fun b ρ1 => if b = true then f ρ1 else g ρ1
theorem d_if {c a b : Expr} {fc : DEnv → Out Bool} {f g : Den} {pos : Pos} (hc : PT X c (LT X W fc)) (ha : PE X a (LE X W f)) (hb : PE X b (LE X W g)) : PE X (.IfExp c a b pos) (LE X W (dIf fc f g)) :=
  PE.imp (pe_ifExp hc ha hb) fun σ H Q h => by
    obtain ⟨F, ρ, e, h⟩ := h
    refine ⟨F, ρ, e, OP.seq e h fun b ρ1 c H1 F1 _ s1 e1 rt1 r1 h => ?_⟩
    subst r1
    cases b with
    | true => exact ⟨F1, ρ1, e1, OP.fromE e s1 rt1 h⟩
    | false => exact ⟨F1, ρ1, e1, OP.fromE e s1 rt1 h⟩
def dAnd (f g : Den) : Den := fun ρ => (f ρ).bind fun r ρ1 => match (view ρ1 r).bind truD with
  | some true => g ρ1
  | some false => .ok r ρ1
  | none => .bad
def dOr (f g : Den) : Den := fun ρ => (f ρ).bind fun r ρ1 => match (view ρ1 r).bind truD with
  | some true => .ok r ρ1
  | some false => g ρ1
  | none => .bad
theorem d_one {op : BoolOp} {a : Expr} {f : Den} {pos : Pos} (h : PE X a (LE X W f)) : PE X (.BoolOp op [a] pos) (LE X W f) := pe_one h
theorem d_and {a b : Expr} {rest : List Expr} {f g : Den} {pos : Pos} (ha : PE X a (LE X W f)) (hb : PE X (.BoolOp .And (b :: rest) pos) (LE X W g)) : PE X (.BoolOp .And (a :: b :: rest) pos) (LE X W (dAnd f g)) :=
  PE.imp (pe_andT ha hb) fun σ H Q h => by
    obtain ⟨F, ρ, e, h⟩ := h
    refine ⟨F, ρ, e, OP.seq e h fun r ρ1 v H1 F1 _ s1 e1 rt1 r1 h => ?_⟩
    cases q : view ρ1 r with
    | none => simp only [q, Option.bind_none] at h; exact h.elim
    | some d =>
      cases q2 : truD d with
      | none => simp only [q, Option.bind_some, q2] at h; exact h.elim
      | some b =>
        simp only [q, Option.bind_some, q2] at h
        refine ⟨b, truD_ok (r1.weak.view e1 q) q2, ?_⟩
        cases b with
        | true => exact ⟨F1, ρ1, e1, OP.fromE e s1 rt1 h⟩
        | false => exact h v H1 F1 s1 e1 rt1 r1
theorem d_or {a b : Expr} {rest : List Expr} {f g : Den} {pos : Pos} (ha : PE X a (LE X W f)) (hb : PE X (.BoolOp .Or (b :: rest) pos) (LE X W g)) : PE X (.BoolOp .Or (a :: b :: rest) pos) (LE X W (dOr f g)) :=
  PE.imp (pe_orT ha hb) fun σ H Q h => by
    obtain ⟨F, ρ, e, h⟩ := h
    refine ⟨F, ρ, e, OP.seq e h fun r ρ1 v H1 F1 _ s1 e1 rt1 r1 h => ?_⟩
    cases q : view ρ1 r with
    | none => simp only [q, Option.bind_none] at h; exact h.elim
    | some d =>
      cases q2 : truD d with
      | none => simp only [q, Option.bind_some, q2] at h; exact h.elim
      | some b =>
        simp only [q, Option.bind_some, q2] at h
        refine ⟨b, truD_ok (r1.weak.view e1 q) q2, ?_⟩
        cases b with
        | true => exact h v H1 F1 s1 e1 rt1 r1
        | false => exact ⟨F1, ρ1, e1, OP.fromE e s1 rt1 h⟩
def dNot (f : Den) : Den := fun ρ => (f ρ).bind fun r ρ1 => match (view ρ1 r).bind truD with
  | some b => .ok (.d (.bl (!b))) ρ1
  | none => .bad
theorem d_not {a : Expr} {f : Den} {pos : Pos} (ha : PE X a (LE X W f)) : PE X (.UnaryOp .Not a pos) (LE X W (dNot f)) :=
  PE.imp (pe_notT ha) fun σ H Q h => by
    obtain ⟨F, ρ, e, h⟩ := h
    refine ⟨F, ρ, e, OP.seq e h fun r ρ1 v H1 F1 _ s1 e1 rt1 r1 h => ?_⟩
    cases q : view ρ1 r with
    | none => simp only [q, Option.bind_none] at h; exact h.elim
    | some d =>
      cases q2 : truD d with
      | none => simp only [q, Option.bind_some, q2] at h; exact h.elim
      | some b =>
        simp only [q, Option.bind_some, q2] at h
        exact ⟨b, truD_ok (r1.weak.view e1 q) q2, h _ H1 F1 s1 e1 rt1 (rep_flat rfl)⟩
def notSlice : Expr → Bool
  | .Slice _ _ _ _ => false
  | _ => true
theorem plainIx_of {b : Expr} (h : notSlice b = true) : PlainIx b := by
  intro o i
  cases b <;> first | rfl | cases h
theorem d_ix {a b : Expr} {fa fb : Den} {pos : Pos} (hs : notSlice b = true) (ha : PE X a (LE X W fa)) (hb : PE X b (LE X W fb)) : PE X (.Subscript a b pos) (LE X W (dApp oIx [fa, fb])) :=
  PE.imp (pe_ix ix_seq ha hb (plainIx_of hs)) fun _ _ _ h => la_two (appT od_ix.t h)
end
end DL
set_option maxHeartbeats 2000000
/-! DL, part 5g: functions that run where no repr is under way. -/
namespace DL
open PySem PySem.Spec PyProof.Rows L2
/-- as FnOk, where no guard stands -/
structure FnG (P : Program) (w : World) (K : PySem.W.Frag) (mg : Str → Option Value) (base : Heap) (CX : CXT) (k : Nat) (f : Addr) (fd : FuncData) (ps : List Str) (sp : Sp) : Prop where
  len : ∀ vs H Q E, sp vs H Q E → vs.length = ps.length
  run : ∀ (A : Around) (outer : List Env) (s : Shared) (H : Hp) (args : Args) (us : List Value) (vs : List V) (Q : VK) (E : XK), Room k A → A.guards = some [] → Env0 P w K mg base A outer s H → BindsTo s fd args (ps.zip us) → Vals vs us → sp vs H Q E →
    codeAny (model P w) A (.call (.ref f) args) (CR CX outer P w H s Q E) s
theorem FnG.mono {P : Program} {w : World} {K : PySem.W.Frag} {mg : Str → Option Value} {base : Heap} {CX : CXT} {j k : Nat} {f : Addr} {fd : FuncData} {ps : List Str} {sp : Sp} (F : FnG P w K mg base CX j f fd ps sp) (h : j ≤ k) : FnG P w K mg base CX k f fd ps sp :=
  ⟨F.len, fun A outer s H args us vs Q E hr => F.run A outer s H args us vs Q E (hr.mono h)⟩
theorem FnG.cx {P : Program} {w : World} {K : PySem.W.Frag} {mg : Str → Option Value} {base : Heap} {CX CX' : CXT} {k : Nat} {f : Addr} {fd : FuncData} {ps : List Str} {sp : Sp} (F : FnG P w K mg base CX k f fd ps sp) (h : ∀ outer H s E u s', CX outer H s E u s' → CX' outer H s E u s') : FnG P w K mg base CX' k f fd ps sp :=
  ⟨F.len, fun A outer s H args us vs Q E hr gu he hb hv hs => codeAny_mono (F.run A outer s H args us vs Q E hr gu he hb hv hs) fun r s' hq => by
    cases r with
    | error e => exact h _ _ _ _ _ _ hq
    | ok fl => cases fl <;> exact hq⟩
section
variable {X : Cx} {CX : CXT} {k : Nat} {f C : Addr} {fd : FuncData} {ps : List Str} {sp : Sp} {E : L2.St → XK} {x m : Str} {p pos apos : Pos} {e o : Expr} {es : List Expr} {ta : TE} {t : TA}
theorem run_fnG {pins : List (Addr × Obj)} {σ : L2.St} {H : Hp} {s : Shared} {Q : VK} {us : List Value} {vs : List V} (F : FnG X.prog X.w X.K X.mg X.base CX k f fd ps sp) (hr : Room k X.A) (gu : X.A.guards = some []) (hb : Binds X.K fd ps []) (hx : PassesAt CX X σ (E σ))
    (I : Inv X pins σ H s) (r : Vals vs us) (h : sp vs H Q (E σ)) : wpAny (model X.prog X.w) X.A (call (.ref f) us) (EP X pins σ Q) X.xe s := by
  have hl : us.length = ps.length := by rw [← r.length]; exact F.len _ _ _ _ h
  have b := hb s us I.kIn (by rw [List.append_nil]; exact hl)
  rw [List.append_nil] at b
  refine wpAny_call (codeAny_mono (F.run X.A X.stack s H ⟨us, []⟩ us vs Q (E σ) hr gu I.env0 b r h) fun r s' hq => ?_)
  cases r with
  | error e => exact hx pins H s e s' I hq
  | ok fl =>
    cases fl with
    | ret u => exact I.after hq
    | next => exact False.elim hq
    | brk => exact False.elim hq
    | cont => exact False.elim hq
theorem pe_callG (F : FnG X.prog X.w X.K X.mg X.base CX k f fd ps sp) (hr : Room k X.A) (gu : X.A.guards = some []) (hg : Gl X x) (hm : X.mg x = some (.ref f)) (hk : PySem.W.keepIn X.K (.ref f) = true) (hb : Binds X.K fd ps []) (hx : ∀ σ, PassesAt CX X σ (E σ))
    (ha : PA X (e :: es) t) (hdb : (x == ("__debug__" : Str)) = false) (he : starEach (e :: es) X.env = (false, eval e X.env) :: starEach es X.env) (hpl : (backTo pos (starEach es X.env)).any (·.1) = false) :
    PE X (.Call (.Name x p) (e :: es) [] pos) (tCallS sp E t) := by
  refine ⟨fun pins s σ H Q I h => ?_⟩
  refine wpAny_Call_Name_kw (ld_glob I hg hm ?_ hdb)
  exact PySem.W.callWith_K (h₀ := X.base) I.ok.mod.kin hk (thn (ha.run pos pins s σ H _ I h) fun us s1 ⟨vs, H1, I1, r, q⟩ => ⟨I1.kIn, run_fnG F hr gu hb (hx σ) I1 r q⟩) he hpl
end
theorem fn_ofG {CX : CXT} {P : Program} {w : World} {K : PySem.W.Frag} {mg : Str → Option Value} {base : Heap} {k : Nat} {f : Addr} {name qual : Str} {params : Arguments} {body : List Stmt} {scope : Scope} {dV kV doc pm cdv ct oc : Value} {an od : Option Addr}
    {osl : Array (Option Value)} {N ps : List Str} {sp : Sp} (lk : K.lookup f = some ⟨oc, od, .func (PySem.W.fnOf name qual params body scope dV kV doc pm an cdv ct), osl⟩) (hcd : PySem.W.codeIn K cdv qual = true) (S : FnScope N ps scope)
    (len : ∀ vs H Q E, sp vs H Q E → vs.length = ps.length)
    (hbody : ∀ (A : Around) (outer : List Env) (s : Shared) (H : Hp) (vs : List V) (Q : VK) (E : XK), Room k (A.deeper (envOfC qual scope s.heap.objs.size f cdv)) → A.guards = some [] → sp vs H Q E →
      ∃ t, PSs (cxOf CX P w K mg base N qual scope f cdv A outer s H E) body t ∧ t { nx := fun _ H' => Q .non H', rt := Q } (L2.start N vs) H) :
    FnG P w K mg base CX (k + 1) f (PySem.W.fnOf name qual params body scope dV kV doc pm an cdv ct) ps sp := by
  refine ⟨len, fun A outer s H args us vs Q E hr gu e0 hb r hsp => ?_⟩
  have hl := len _ _ _ _ hsp
  have KX : K.In s.heap := e0.mod.kin.keeps fun b o e => (e0.bs b o e).1
  have lim : s.heap.NoLimit := e0.mod.nolimit.keeps fun b o e => (e0.bs b o e).1
  have hkind : ∀ y ∈ ps.zip us, scope.names.lookup y.1 = some .local ∨ (scope.names.lookup y.1 = some .cell ∧ ((cellsFrom (s.heap.objs.size + 1) scope.names []).lookup y.1).isSome = true) := fun ⟨n, v⟩ hy => by
    rcases S.par n (List.of_mem_zip hy).1 with q | q
    · exact .inl q
    · exact .inr ⟨q, PySem.W.cellsFrom_some _ _ _ (.inl q)⟩
  refine codeAny_call_function hr.depth (KX _ _ lk) rfl S.co S.gen rfl (PySem.W.codeRec_of KX hcd) (hb _ _ _ _ ?_)
  refine wpAny_newFunctionEnv_cells S.kind hkind fun env he s1 x => ?_
  subst he
  refine ⟨lim.keeps x.toInCall.keep, codeAny_func ?_⟩
  obtain ⟨t, ht, hq⟩ := hbody A outer s H vs Q E (hr.deeper _) gu hsp
  have I : Inv (cxOf CX P w K mg base N qual scope f cdv A outer s H E) [] (L2.start N vs) H s1 := inv_start S hr.hd e0 hl r x
  refine wpAny_mono (ht.run [] s1 (L2.start N vs) H _ I hq) (fun fl s' hs => ?_) fun e s' hs => hs
  have fin : ∀ {σ' : St} {H' : Hp} {v : V} {u : Value}, Inv (cxOf CX P w K mg base N qual scope f cdv A outer s H E) [] σ' H' s' → RelV v u → Q v H' → CE outer P w H s Q u s' :=
    fun {σ' H' v u} J rv q => ⟨v, H', J.os, J.bare, J.base, J.hok, rv, q⟩
  cases fl with
  | ret u =>
    obtain ⟨v, σ', H', J, rv, q⟩ := hs
    exact fin J rv q
  | next =>
    obtain ⟨σ', H', J, q⟩ := hs
    exact fin (v := V.non) (u := Value.none) J rfl q
  | brk =>
    obtain ⟨_, _, _, q⟩ := hs
    exact False.elim q
  | cont =>
    obtain ⟨_, _, _, q⟩ := hs
    exact False.elim q
theorem law_callG {P : Program} {w : World} {K : PySem.W.Frag} {mg mb : Str → Option Value} {CX : CXT} {k : Nat} {fa a : Addr} {fd : FuncData} {x : Str} {sp : Sp} {sB : Shared} {vs : List Value} {ns : List Int}
    (KX : K.In sB.heap) (hns : sB.heap.Ns mainGlobals mg) (hb : sB.heap.Ns builtinsNs mb) (hbb : ∀ x : Str, x ≠ "__name__" → mb x = bootBuiltins x) (hlim : sB.heap.NoLimit) (hg : sB.gens = #[])
    (ha : sB.heap.get? a = some { cls := .type "list", data := .seq vs.toArray }) (hi : IntsAre vs ns) (hl : ns.length ≤ sizeLine) (hr : Room k callerA)
    (F : ∀ base : Heap, K.In base → base.Ns mainGlobals mg → FnG P w K mg base CX k fa fd [x] sp) (hbind : ∀ (s : Shared) (u : Value), BindsTo s fd ⟨[u], []⟩ [(x, u)])
    (hsp : ∀ H : Hp, Only H → SqL K H a (ns.map V.int) → sp [.ref a] H (fun v _ => v = .bl true) fun _ _ _ => False)
    (hCX : ∀ H e s', CX [] H sB (fun _ _ _ => False) e s' → False) :
    codeAny (model P w) callerA (.call (.ref fa) ⟨[.ref a], []⟩) (fun r s' => r = .ok (.ret (.bool true)) ∧ OldK sB.heap s'.heap ∧ s'.os = sB.os ∧ AllBare s'.gens) sB := by
  have rv := vals_ints hi
  have lenV := hi.length
  -- from an abstract heap in which nothing but the script may be tracked
  have core : ∀ H : Hp, Only H → SqL K H a (ns.map V.int) → HOk P w H sB.heap → (∀ b, H b ≠ none → b = a) → (H a ≠ none → K.lookup a = none) →
      codeAny (model P w) callerA (.call (.ref fa) ⟨[.ref a], []⟩) (fun r s' => r = .ok (.ret (.bool true)) ∧ OldK sB.heap s'.heap ∧ s'.os = sB.os ∧ AllBare s'.gens) sB := by
    intro H hO hS hok hA hK
    have base_of : ∀ {b : Addr} {o : Obj}, sB.heap.get? b = some o → H b = none → (hidT sB.heap H).get? b = some o := fun e n => hidT_get e n
    have noA : ∀ {b : Addr} {o : Obj} {es : Array DictEntry} {ep : Nat}, sB.heap.get? b = some o → o.data = .dict es ep → H b = none := fun {b o es ep} e d => by
      cases q : H b with
      | none => rfl
      | some u =>
        have e' : b = a := hA b (by rw [q]; simp)
        subst e'
        rw [ha] at e; cases e
        have d' : Data.seq vs.toArray _ = Data.dict es ep := d
        cases d'
    have nsK : ∀ {b : Addr} {m : Str → Option Value}, sB.heap.Ns b m → (hidT sB.heap H).Ns b m := fun {b m} ⟨o, es, ep, e, d, r⟩ => ⟨o, es, ep, base_of e (noA e d), d, r⟩
    have hKb : K.In (hidT sB.heap H) := fun b o e => base_of (KX b o e) (by
      cases q : H b with
      | none => rfl
      | some u =>
        have e' : b = a := hA b (by rw [q]; simp)
        subst e'
        rw [hK (by rw [q]; simp)] at e; cases e)
    have hM : Mod K mg (hidT sB.heap H) := ⟨hKb, nsK hns, ⟨mb, nsK hb, hbb⟩, let ⟨mc, h1, h2⟩ := hlim; ⟨mc, nsK h1, h2⟩⟩
    have e0 : Env0 P w K mg (hidT sB.heap H) callerA [] sB H := ⟨rfl, hM, fun b o e => of_hidT e, Nat.le_of_eq (hidT_size _ _), trivial, fun b hb => absurd (show b ∈ ([] : List Addr) from hb) (by simp), hok, .of_eq hg⟩
    refine codeAny_mono ((F _ hKb (nsK hns)).run callerA [] sB H ⟨[.ref a], []⟩ [.ref a] [.ref a] _ _ hr rfl e0 (hbind sB (.ref a)) (.cons rfl .nil) (hsp H hO hS)) fun r s' h => ?_
    cases r with
    | error e => exact (hCX H e s' h).elim
    | ok fl =>
      cases fl with
      | next => exact False.elim h
      | brk => exact False.elim h
      | cont => exact False.elim h
      | ret u =>
        obtain ⟨v, H', os, bare, un, hok', r', q⟩ := h
        have q' : v = .bl true := q
        subst q'
        obtain rfl : u = Value.bool true := r'
        refine ⟨rfl, OldK.of_keep fun b o e => ?_, os, bare⟩
        cases q : H b with
        | none => exact un.keep b o e q (by intro z; exact absurd (show b ∈ ([] : List Addr) from z) (by simp)) (by simp)
        | some u =>
          rcases hO b with z | ⟨ob, xs, z⟩
          · rw [q] at z; cases z
          · have z2 := un.frzs b ob _ z
            obtain ⟨e1, _⟩ := hok b _ z
            obtain ⟨e2, _⟩ := hok' b _ z2
            rw [e] at e1; cases e1
            exact e2
  cases hk : K.lookup a with
  | some o =>
    -- the script is one of the module's own objects
    have e := KX a o hk
    rw [ha] at e
    cases e
    refine core (fun _ => none) (fun _ => .inl rfl) (.inr ⟨_, vs.toArray, _, hk, rfl, rfl, rfl, by rw [List.size_toArray, lenV]; exact hl, by simpa using rv⟩) (fun b u z => by have z' : (none : Option HO) = some u := z; cases z') (fun b z => absurd rfl z) fun z => absurd rfl z
  | none =>
    refine core (fun b => if b = a then some (.frz { cls := .type "list", data := .seq vs.toArray } (.lst (ns.map V.int))) else none) (fun b => ?_) (.inl (.inr ⟨{ cls := .type "list", data := .seq vs.toArray }, if_pos rfl⟩)) (fun b u z => ?_) (fun b z => ?_) fun _ => hk
    · by_cases hb : b = a
      · exact .inr ⟨_, _, if_pos hb⟩
      · exact .inl (if_neg hb)
    · by_cases hb : b = a
      · have z' := (if_pos hb).symm.trans z
        cases z'
        subst hb
        exact ⟨ha, by rw [List.length_map]; exact hl, vs, _, rv, ha⟩
      · have z' := (if_neg hb).symm.trans z
        cases z'
    · by_cases hb : b = a
      · exact hb
      · exact absurd (if_neg hb) z
theorem walk_ofG {l : PySem.W.OpenLaw} {n k : Nat} {q : Program} {loose : List Str} {XP : (Str → Option Value) → Heap → Prop} {YP : World → Heap → Prop} {d : DefRec} {CX : CXT} {x : Str}
    (hn : l.most = some n) (hn2 : n ≤ sizeLine) (hdf : d.params.defaults = []) (hr : Room k callerA)
    (F : ∀ (w : World) (mg : Str → Option Value) (fa : Addr) (h : Heap), YP w h → h.Ns mainGlobals mg → mg d.name = some (.ref fa) →
      ∃ (K : PySem.W.Frag) (fd : FuncData) (sp : Sp), K.In h ∧ (∀ (s : Shared) (u : Value), BindsTo s fd ⟨[u], []⟩ [(x, u)]) ∧
        (∀ (H : Hp) (a : Addr) (ns : List Int), ns.length ≤ n → Only H → SqL K H a (ns.map V.int) → sp [.ref a] H (fun v _ => v = .bl true) fun _ _ _ => False) ∧
        ∀ base : Heap, K.In base → base.Ns mainGlobals mg → FnG l.prog w K mg base CX k fa fd [x] sp)
    (hCX : ∀ (H : Hp) (s : Shared) (e : Value) (s' : Shared), CX [] H s (fun _ _ _ => False) e s' → False) :
    PySem.W.WalkO q loose XP YP l.row.toRowW d [] (fun f vs => PySem.call f vs) := by
  refine Att.attach_call hn hdf fun w sA sB mg mb fa o pm cd doc a vs ns G Y ho hd hcd hmg hobj hints hlen hg => ?_
  obtain ⟨K, fd, sp, KX, hb, hsp, hF⟩ := F w mg fa _ Y G.T.g hmg
  exact law_callG KX G.T.g G.T.b G.T.builtins G.T.nolimit hg hobj hints (Nat.le_trans hlen hn2) hr hF hb (fun H hO hS => hsp H a ns hlen hO hS) fun H e s' => hCX H sB e s'

theorem funD_okG {P : Program} {w : World} {K : PySem.W.Frag} {mg : Str → Option Value} {base : Heap} {x qual : Str} {params : Arguments} {body : List Stmt} {scope : Scope} {dvs : List V} {kws : List (Str × V)} {f : Addr} {fd : FuncData} {CX : CXT} {N ps : List Str} {k : Nat} {sp : Sp} (F : FunD K x qual params body scope dvs kws f fd) (S : FnScope N ps scope) (len : ∀ vs H Q E, sp vs H Q E → vs.length = ps.length)
    (hbody : ∀ (cdv : Value) (A : Around) (outer : List Env) (s : Shared) (H : Hp) (vs : List V) (Q : VK) (E : XK), Room k (A.deeper (envOfC qual scope s.heap.objs.size f cdv)) → A.guards = some [] → sp vs H Q E →
      ∃ t, PSs (cxOf CX P w K mg base N qual scope f cdv A outer s H E) body t ∧ t { nx := fun _ H' => Q .non H', rt := Q } (L2.start N vs) H) : FnG P w K mg base CX (k + 1) f fd ps sp := by
  obtain ⟨oc, od, dV, kV, doc, pm, an, cdv, ct, osl, rfl, lk, hcd, _, _⟩ := F.ex
  exact fn_ofG lk hcd S len fun A outer s H vs Q E hr gu hsp => hbody cdv A outer s H vs Q E hr gu hsp
end DL
set_option maxHeartbeats 1000000
/-! DL, part 6: chains, slices, calls. -/
namespace DL
open PySem PySem.Spec PyProof.Rows L2
section
variable {X : Cx} {W : WX} {σ : St} {H H' H0 H1 H2 : Hp} {F F' F0 F1 F2 : Addr → Prop} {ρ ρ' ρ1 ρ2 : DEnv} {S : Addr → Prop} {K : PySem.W.Frag}

/-! ### a op b op' c -/
def dChain (o o' : Op) (fa fb fc : Den) : Den := fun ρ => (fa ρ).bind fun ra ρ1 => (fb ρ1).bind fun rb ρ2 => match (views ρ2 [ra, rb]).bind o with
  | some (.d (.bl true)) => (fc ρ2).bind fun rc ρ3 => (match (views ρ3 [rb, rc]).bind o' with
    | some r => .ok r ρ3
    | none => .bad)
  | some (.d (.bl false)) => .ok (.d (.bl false)) ρ2
  | _ => .bad
theorem Views.two {d e : D} {x y : V} (h1 : View K H F d x) (h2 : View K H F e y) : Views K H F [d, e] [x, y] := ⟨x, [y], rfl, h1, y, [], rfl, h2, rfl⟩
theorem views_two {ra rb : RV} {ds : List D} (h : views ρ [ra, rb] = some ds) : ∃ d e, ds = [d, e] ∧ view ρ ra = some d ∧ view ρ rb = some e := by
  unfold views at h
  cases q : view ρ ra with
  | none => rw [q] at h; cases h
  | some d =>
    rw [q] at h
    have h : (views ρ [rb]).bind (fun ds => some (d :: ds)) = some ds := h
    unfold views at h
    cases q2 : view ρ rb with
    | none => rw [q2] at h; cases h
    | some e =>
      rw [q2] at h
      cases h
      exact ⟨d, e, rfl, rfl, rfl⟩
theorem RRel.noroot {r : RV} {v : V} (h : RRel K H0 H F σ r v) (e : ER K H0 F0 σ ρ) (s : Stp S H F H' F') (hS : ∀ a, S a → Root σ ρ a) : RRel K H0 H' F' σ r v :=
  h.step s fun a n z => by
    obtain ⟨o, q⟩ := e.isS (hS a z)
    rw [n] at q; cases q
theorem chain_ok {o o' : Op} {r r' : R2} {fa fb fc : Den} {Q : VK} (od : OpT X (r2 r) o) (od' : OpT X (r2 r') o') (h : LE X W (dChain o o' fa fb fc) σ H Q) : tChain r r' (LE X W fa) (LE X W fb) (LE X W fc) σ H Q := by
  obtain ⟨F, ρ, e, h⟩ := h
  refine ⟨F, ρ, e, OP.seq e h fun ra ρ1 x H1 F1 _ s1 e1 rt1 r1 h => ⟨F1, ρ1, e1, ?_⟩⟩
  have h := OP.fromE e s1 rt1 h
  refine OP.seq e1 h fun rb ρ2 y H2 F2 _ s2 e2 rt2 r2' h => ?_
  have rx : RRel X.K H H2 F2 σ ra x := r1.noroot e s2 rt1
  cases q : (views ρ2 [ra, rb]).bind o with
  | none => rw [q] at h; exact h.elim
  | some res =>
    rw [q] at h
    obtain ⟨ds, hds, ho⟩ := Option.bind_eq_some_iff.mp q
    obtain ⟨d1, d2, rfl, v1, v2⟩ := views_two hds
    have V1 := rx.weak.view e2 v1
    have V2 := r2'.weak.view e2 v2
    have key : ∀ b, res = .d (.bl b) → (∀ H3 F3, Stp (fun _ => False) H2 F2 H3 F3 → ∃ k, V.bl b = .bl k ∧ (if k = true then LE X W fc σ H3 fun w' H4 => r' y w' H4 Q else Q (.bl false) H3)) → r x y H2 fun z H3 => ∃ k, z = .bl k ∧
        (if k = true then LE X W fc σ H3 fun w' H4 => r' y w' H4 Q else Q (.bl false) H3) := fun b hb k => by
      subst hb
      obtain ⟨x', y', e', q'⟩ := od H2 F2 [d1, d2] [x, y] _ (fun z H3 => ∃ k, z = .bl k ∧ (if k = true then LE X W fc σ H3 fun w' H4 => r' y w' H4 Q else Q (.bl false) H3)) e2.trk (Views.two V1 V2) ho fun v H3 F3 s3 r3 => by
        have r3 : Rep X.K H3 F3 (.bl b) v := r3
        rw [Rep] at r3
        subst r3
        exact k H3 F3 s3
      cases e'
      exact q'
    cases res with
    | fresh z => exact h.elim
    | plc i => exact h.elim
    | d z =>
      cases z with
      | bl b =>
        refine key b rfl fun H3 F3 s3 => ⟨b, rfl, ?_⟩
        have e3 : ER X.K H3 F3 σ ρ2 := e2.step s3 fun _ _ z => z
        have s23 : Stp (Root σ ρ1) H1 F1 H3 F3 := s2.trans s3 fun _ z => z.elim
        cases b with
        | false =>
          rw [if_neg Bool.false_ne_true]
          exact h _ H3 F3 s23 e3 rt2 (rep_flat rfl)
        | true =>
          rw [if_pos rfl]
          have h : OP X W (RRel X.K) σ ρ1 H1 F1 Q ((fc ρ2).bind fun rc ρ3 => (match (views ρ3 [rb, rc]).bind o' with | some r => Out.ok r ρ3 | none => .bad)) := h
          refine ⟨F3, ρ2, e3, ?_⟩
          have h := OP.fromE e1 s23 rt2 h
          refine OP.seq e3 h fun rc ρ3 w' H4 F4 _ s4 e4 rt4 r4 h => ?_
          cases q5 : (views ρ3 [rb, rc]).bind o' with
          | none => rw [q5] at h; exact h.elim
          | some res5 =>
            rw [q5] at h
            obtain ⟨ds5, hds5, ho5⟩ := Option.bind_eq_some_iff.mp q5
            obtain ⟨d3, d4, rfl, v3, v4⟩ := views_two hds5
            have ry : RRel X.K H1 H4 F4 σ rb y := (r2'.noroot e1 s3 fun _ z => z.elim).noroot e1 s4 rt2
            obtain ⟨y', w'', e', q'⟩ := od' H4 F4 [d3, d4] [y, w'] _ Q e4.trk (Views.two (ry.weak.view e4 v3) (r4.weak.view e4 v4)) ho5 fun v H5 F5 s5 r5 =>
              h v H5 F5 (s4.trans s5 fun _ z => z.elim) (e4.step s5 fun _ _ z => z) rt4 (r5.any.since fun a n => s4.new_of n)
            cases e'
            exact q'
      | _ => exact h.elim
theorem lastMarks_of {op op' : CmpOp} {b c : Expr} (h : notSet c = true) : lastMarks [op, op'] [b, c] = false := mark_of h
theorem d_chain {a b c : Expr} {fa fb fc : Den} {op op' : CmpOp} {r r' : R2} {o o' : Op} {pos : Pos} (ho : OpR X (compareOp op) r) (ho' : OpR X (compareOp op') r') (od : OpT X (r2 r) o) (od' : OpT X (r2 r') o') (hm : notSet c = true)
    (ha : PE X a (LE X W fa)) (hb : PE X b (LE X W fb)) (hc : PE X c (LE X W fc)) : PE X (.Compare a [op, op'] [b, c] pos) (LE X W (dChain o o' fa fb fc)) :=
  PE.imp (pe_chain ho ho' ha hb hc (lastMarks_of hm)) fun _ _ _ h => chain_ok od od' h
theorem t_chain {a b c : Expr} {fa fb fc : Den} {op op' : CmpOp} {r r' : R2} {o o' : Op} {pos : Pos} (ho : OpR X (compareOp op) r) (ho' : OpR X (compareOp op') r') (od : OpT X (r2 r) o) (od' : OpT X (r2 r') o') (hm : notSet c = true)
    (ha : PE X a (LE X W fa)) (hb : PE X b (LE X W fb)) (hc : PE X c (LE X W fc)) : PT X (.Compare a [op, op'] [b, c] pos) (LT X W (dBool (dChain o o' fa fb fc))) :=
  PT.imp (pt_chain ho ho' ha hb hc (lastMarks_of hm)) fun _ _ _ h => chain_ok od od' (bool_ok h)

/-! ### slices -/
abbrev LP (X : Cx) (W : WX) (f : DEnv → Out (Option Int)) : TO := LO X W (fun _ _ _ _ a b => a = b) f
theorem PO.imp {e : Option Expr} {t t' : TO} (h : PO X e t) (hi : ∀ σ H Q, t' σ H Q → t σ H Q) : PO X e t' := ⟨fun pins s σ H Q I q => h.run pins s σ H Q I (hi σ H Q q)⟩
def dNoPart : DEnv → Out (Option Int) := fun ρ => .ok none ρ
def dPart (f : Den) : DEnv → Out (Option Int) := fun ρ => (f ρ).bind fun r ρ1 => match r with
  | .d (.int i) => .ok (some i) ρ1
  | _ => .bad
theorem d_nopart : PO X none (LP X W dNoPart) := PO.imp po_none fun σ H Q h => by
  obtain ⟨F, ρ, e, h⟩ := h
  exact h none H F e.refl e (fun _ z => z) rfl
theorem d_part {e : Expr} {f : Den} (h : PE X e (LE X W f)) : PO X (some e) (LP X W (dPart f)) := PO.imp (po_some h) fun σ H Q h => by
  obtain ⟨F, ρ, e, h⟩ := h
  refine ⟨F, ρ, e, OP.seq e h fun r ρ1 v H1 F1 _ s1 e1 rt1 r1 h => ?_⟩
  cases r with
  | fresh x => exact h.elim
  | plc i => exact h.elim
  | d x =>
    cases x with
    | int i =>
      have r1 : Rep X.K H1 F1 (.int i) v := r1
      rw [Rep] at r1
      exact ⟨i, r1, h _ H1 F1 s1 e1 rt1 rfl⟩
    | _ => exact h.elim
def cutD {α : Type} (xs : List α) (lo hi : Option Int) : List α := (xs.drop (HT.sIx xs.length 0 lo)).take (HT.sIx xs.length xs.length hi - HT.sIx xs.length 0 lo)
def oSl (lo hi : Option Int) : D → Option RV
  | .lst l => some (.fresh (.lst (cutD l lo hi)))
  | .tup l => some (.d (.tup (cutD l lo hi)))
  | .str z => if okLen z.length then some (.d (.str (cutS z lo hi))) else none
  | _ => none
def rSlAll (K : PySem.W.Frag) : V → Option Int → Option Int → Hp → VK → Prop := fun x lo hi H Q => rSlL K x lo hi H Q ∨ rSlA K x lo hi H Q ∨ rSlS x lo hi H Q
theorem sl_all : SlR X (rSlAll X.K) := sl_list.or (sl_tupA.or sl_str)
def dSlice (f : Den) (lo hi : DEnv → Out (Option Int)) : Den := fun ρ => (f ρ).bind fun r ρ1 => (lo ρ1).bind fun l ρ2 => (hi ρ2).bind fun u ρ3 => match (view ρ3 r).bind (oSl l u) with
  | some r => .ok r ρ3
  | none => .bad
theorem OP.fromP {Q : Option Int → Hp → Prop} {o : Out (Option Int)} : True := trivial
theorem Reps.cut {ds : List D} {vs : List V} (h : Reps K H F ds vs) (lo hi : Option Int) : Reps K H F (cutD ds lo hi) (cutV vs lo hi) := by
  unfold cutD cutV
  rw [h.length]
  exact (h.drop _).take _
theorem cutD_whole {α : Type} {xs : List α} {lo hi : Option Int} (h : HT.sIx xs.length 0 lo = 0 ∧ HT.sIx xs.length xs.length hi = xs.length) : cutD xs lo hi = xs := by
  unfold cutD
  rw [h.1, h.2]
  simp
theorem sl_ok {d : D} {v : V} {lo hi : Option Int} {res : RV} {Q : VK} (t : ∀ a, F a → ∃ o, H a = some o) (h : View K H F d v) (ho : oSl lo hi d = some res) (hQ : ∀ v H' F', Stp (fun _ => False) H F H' F' → RRel K H H' F' [] res v → Q v H') : rSlAll K v lo hi H Q := by
  cases d with
  | lst l =>
    cases ho
    obtain ⟨a, vs, rfl, s1, r1⟩ := h.lst
    exact .inl ⟨a, vs, rfl, s1, fun p hp => give_lst hp (nf_of t hp) (r1.cut lo hi) hQ⟩
  | tup l =>
    cases ho
    obtain ⟨a, vs, rfl, s1, r1⟩ := h.tup
    refine .inr (.inl ⟨a, vs, rfl, s1, fun hw => ?_, fun _ p hp => give_tup hp (r1.cut lo hi) hQ⟩)
    rw [r1.length] at hw
    refine hQ _ H F stp0 ?_
    show Rep _ _ _ (.tup (cutD l lo hi)) _
    rw [cutD_whole hw, Rep]
    exact ⟨a, vs, rfl, s1, r1⟩
  | str z =>
    obtain ⟨hc, ho⟩ := ite_some (show (if okLen z.length = true then _ else none) = some res from ho)
    exact .inr (.inr ⟨z, h.str, okLen_le hc, by cases ho; exact hQ _ H F stp0 (rep_flat rfl)⟩)
  | _ => cases ho
theorem slice_ok {f : Den} {lo hi : DEnv → Out (Option Int)} {Q : VK} (h : LE X W (dSlice f lo hi) σ H Q) : tSl (rSlAll X.K) (LE X W f) (LP X W lo) (LP X W hi) σ H Q := by
  obtain ⟨F, ρ, e, h⟩ := h
  refine ⟨F, ρ, e, OP.seq e h fun r ρ1 x H1 F1 _ s1 e1 rt1 r1 h => ⟨F1, ρ1, e1, ?_⟩⟩
  have h := OP.fromE e s1 rt1 h
  refine OP.seq e1 h fun l ρ2 l' H2 F2 _ s2 e2 rt2 r2 h => ⟨F2, ρ2, e2, ?_⟩
  subst r2
  have h := OP.fromE e1 s2 rt2 h
  refine OP.seq e2 h fun u ρ3 u' H3 F3 _ s3 e3 rt3 r3 h => ?_
  subst r3
  cases q : (view ρ3 r).bind (oSl l u) with
  | none => rw [q] at h; exact h.elim
  | some res =>
    rw [q] at h
    obtain ⟨d, hd, ho⟩ := Option.bind_eq_some_iff.mp q
    have rx : RRel X.K H H3 F3 σ r x := (r1.noroot e s2 rt1).noroot e s3 fun a z => rt1 a (rt2 a z)
    exact sl_ok e3.trk (rx.weak.view e3 hd) ho fun v H4 F4 s4 r4 => h v H4 F4 (s3.trans s4 fun _ z => z.elim) (e3.step s4 fun _ _ z => z) rt3 (r4.any.since fun a n => s3.new_of n)
theorem d_slice {a : Expr} {lo hi : Option Expr} {f : Den} {fl fh : DEnv → Out (Option Int)} {pos p2 : Pos} (ha : PE X a (LE X W f)) (hl : PO X lo (LP X W fl)) (hh : PO X hi (LP X W fh)) : PE X (.Subscript a (.Slice lo hi none p2) pos) (LE X W (dSlice f fl fh)) :=
  PE.imp (pe_slice sl_all ha hl hh) fun _ _ _ h => slice_ok h

/-! ### calls -/
theorem back_any {pos : Pos} {env : Env} : ∀ {es : List Expr}, es.all notStar = true → (backTo pos (starEach es env)).any (·.1) = false
  | [], _ => rfl
  | e :: es, h => by
    rw [List.all_cons, Bool.and_eq_true] at h
    rw [star_of h.1]
    show (false || (backTo pos (starEach es env)).any (·.1)) = false
    rw [back_any h.2]; rfl
/-- a built-in by its name -/
theorem d_callB {x : Str} {id : String} {e : Expr} {es : List Expr} {fs : List Den} {r : List V → Hp → VK → Prop} {o : Op} {p pos : Pos} (hc : CallR X (.builtin id) r) (od : OpT X r o) (hg : Gl X x) (hm : X.mg x = none) (hv : bootBuiltins x = some (.builtin id))
    (hn : x ≠ "__name__") (hdb : (x == ("__debug__" : Str)) = false) (ns : (e :: es).all notStar = true) (ha : PA X (e :: es) (LA X W (dArgs fs))) : PE X (.Call (.Name x p) (e :: es) [] pos) (LE X W (dApp o fs)) := by
  have ns' := ns
  rw [List.all_cons, Bool.and_eq_true] at ns'
  exact PE.imp (pe_callB hc hg hm hv ha hn hdb (star_of ns'.1 es X.env) (back_any ns'.2)) fun _ _ _ h => appT od h
/-- a built-in type by its name -/
theorem d_callTy {x : Str} {T : String} {e : Expr} {es : List Expr} {fs : List Den} {r : List V → Hp → VK → Prop} {o : Op} {p pos : Pos} (hc : CallR X (.type T) r) (od : OpT X r o) (hg : Gl X x) (hm : X.mg x = none) (hv : bootBuiltins x = some (.type T))
    (hn : x ≠ "__name__") (hdb : (x == ("__debug__" : Str)) = false) (ns : (e :: es).all notStar = true) (ha : PA X (e :: es) (LA X W (dArgs fs))) : PE X (.Call (.Name x p) (e :: es) [] pos) (LE X W (dApp o fs)) := by
  have ns' := ns
  rw [List.all_cons, Bool.and_eq_true] at ns'
  exact PE.imp (pe_callTy hc hg hm hv ha hn hdb (star_of ns'.1 es X.env) (back_any ns'.2)) fun _ _ _ h => appT od h
end

/-! ### own functions -/
/-- what a function hands back; what its first argument, a list that it may change, has become -/
inductive FRes where
  | ok (r : RV) (io : Option D) | exc (e : Exn) (io : Option D) | bad
def IoS (io : Bool) (vs : List V) (a : Addr) : Prop := io = true ∧ ∃ tl, vs = .ref a :: tl
def IoR (K : PySem.W.Frag) (H : Hp) (F : Addr → Prop) (io : Bool) (vs : List V) : Option D → Prop
  | none => io = false
  | some d => io = true ∧ ∃ a tl, vs = .ref a :: tl ∧ Own K H F a d
def ArgR (K : PySem.W.Frag) (H : Hp) (F : Addr → Prop) (io : Bool) (ds : List D) (vs : List V) : Prop :=
  (io = false ∧ Reps K H F ds vs) ∨ (io = true ∧ ∃ d ds' a vs', ds = d :: ds' ∧ vs = .ref a :: vs' ∧ Own K H F a d ∧ Reps K H F ds' vs')
def FP (K : PySem.W.Frag) (mg : Str → Option Value) (io : Bool) (vs : List V) (H : Hp) (F : Addr → Prop) (Q : VK) (E : XK) : FRes → Prop
  | .ok r m => (m.isSome = io) ∧ ∀ v H' F', Stp (IoS io vs) H F H' F' → (∀ a, F' a → ∃ o, H' a = some o) → RRel K H H' F' [] r v → IoR K H' F' io vs m → Q v H'
  | .exc e m => (m.isSome = io) ∧ ∀ cls dx H' F', Stp (IoS io vs) H F H' F' → (∀ a, F' a → ∃ o, H' a = some o) → IoR K H' F' io vs m → ExcR K mg H' F' e cls dx → E cls dx H'
  | .bad => False
/-- the promise: it hands back what φ says -/
def SpD (K : PySem.W.Frag) (mg : Str → Option Value) (n : Nat) (io : Bool) (φ : List D → FRes) : Sp := fun vs H Q E =>
  vs.length = n ∧ ∃ F ds, (∀ a, F a → ∃ o, H a = some o) ∧ ArgR K H F io ds vs ∧ FP K mg io vs H F Q E (φ ds)
section
variable {X : Cx} {W : WX} {σ : St} {H H' H0 H1 H2 : Hp} {F F' F0 F1 F2 : Addr → Prop} {ρ ρ' ρ1 ρ2 : DEnv} {S : Addr → Prop} {K : PySem.W.Frag}
def dCall (φ : List D → FRes) (fs : List Den) : Den := fun ρ => (dFrz fs ρ).bind fun ds ρ1 => match φ ds with
  | .ok r none => .ok r ρ1
  | .exc e none => .exc e ρ1
  | _ => .bad
theorem call_ok {φ : List D → FRes} {fs : List Den} {n : Nat} {Q : VK} (hl : fs.length = n) (h : LE X W (dCall φ fs) σ H Q) : LF X W (dFrz fs) σ H fun vs H1 => SpD X.K X.mg n false φ vs H1 Q (WE W σ) := by
  obtain ⟨F, ρ, e, h⟩ := h
  refine ⟨F, ρ, e, OP.seq e h fun ds ρ1 vs H1 F1 q s1 e1 rt1 r1 h => ⟨by rw [r1.length, dFrz_len q]; exact hl, F1, ds, e1.trk, .inl ⟨rfl, r1⟩, ?_⟩⟩
  have st : ∀ {H2 F2}, Stp (IoS false vs) H1 F1 H2 F2 → Stp (Root σ ρ) H F H2 F2 ∧ ER X.K H2 F2 σ ρ1 := fun {H2 F2} s2 =>
    ⟨s1.trans s2 fun a z => absurd z.1 Bool.false_ne_true, e1.step s2 fun a _ z => absurd z.1 Bool.false_ne_true⟩
  cases q2 : φ ds with
  | bad => rw [q2] at h; exact h.elim
  | ok r m =>
    rw [q2] at h
    cases m with
    | some d => exact h.elim
    | none => exact ⟨rfl, fun v H2 F2 s2 _ r2 _ => h v H2 F2 (st s2).1 (st s2).2 rt1 (r2.any.since fun a n => s1.new_of n)⟩
  | exc x m =>
    rw [q2] at h
    cases m with
    | some d => exact h.elim
    | none => exact ⟨rfl, fun cls dx H2 F2 s2 _ _ x2 => h cls dx H2 F2 (st s2).1 (st s2).2 rt1 x2⟩
theorem d_call {k n : Nat} {f : Addr} {fd : FuncData} {ps : List Str} {φ : List D → FRes} {x : Str} {e : Expr} {es : List Expr} {fs : List Den} {p pos : Pos} (G : FnG X.prog X.w X.K X.mg X.base (L2.CX X.prog X.w) k f fd ps (SpD X.K X.mg n false φ))
    (hr : Room k X.A) (gu : X.A.guards = some []) (hg : Gl X x) (hm : X.mg x = some (.ref f)) (hk : PySem.W.keepIn X.K (.ref f) = true) (hb : Binds X.K fd ps []) (tk : Takes X W) (hl : fs.length = n) (hdb : (x == ("__debug__" : Str)) = false) (ns : (e :: es).all notStar = true) (ha : PA X (e :: es) (LA X W (dArgs fs))) :
    PE X (.Call (.Name x p) (e :: es) [] pos) (LE X W (dCall φ fs)) := by
  have ns' := ns
  rw [List.all_cons, Bool.and_eq_true] at ns'
  exact PE.imp (pe_callG G hr gu hg hm hk hb (fun σ => passAt tk σ) (d_frz ha) hdb (star_of ns'.1 es X.env) (back_any ns'.2)) fun _ _ _ h => call_ok hl h
/-- a call that may change its first argument, a list owned by the local in slot i -/
def dCallIo (φ : List D → FRes) (fs : List Den) : Den := fun ρ => (dArgs fs ρ).bind fun rs ρ1 => match rs with
  | .plc i :: rest => (match escs rest ρ1 with
    | some (ds, ρ2) => (match ρ2[i]? with
      | some (.own d) => (match φ (d :: ds) with
        | .ok r (some d') => .ok r (ρ2.set i (.own d'))
        | .exc e (some d') => .exc e (ρ2.set i (.own d'))
        | _ => .bad)
      | _ => .bad)
    | none => .bad)
  | _ => .bad
/-- an owned thing has become another -/
theorem ER.update {i : Nat} {d d' : D} {a : Addr} (e : ER K H F σ ρ) (h : ρ[i]? = some (.own d)) (hs : σ[i]? = some (some (.ref a))) (s : Stp (fun b => b = a) H F H' F') (o : Own K H' F' a d') : ER K H' F' σ (ρ.set i (.own d')) := by
  refine ⟨by rw [List.length_set]; exact e.len, fun j sl hj => ?_, fun b f => ?_, fun j k x y b h1 h2 h3 h4 => ?_⟩
  · rcases getElem?_set_cases hj with ⟨rfl, rfl⟩ | ⟨nj, hj⟩
    · exact ⟨a, by rw [hs]; rfl, o⟩
    · cases sl with
      | no => trivial
      | val d =>
        obtain ⟨v, hv, r⟩ := e.slot hj
        exact ⟨v, by rw [hv]; rfl, s.fut.rep _ _ r⟩
      | own d2 =>
        obtain ⟨b, hb, o'⟩ := e.owned hj
        refine ⟨b, by rw [hb]; rfl, s.own o' fun z => ?_⟩
        subst z
        exact nj (e.sep j i _ _ _ hj h hb hs)
  · rcases s.trk b f with q | q
    · obtain ⟨o, q⟩ := e.trk b q
      exact s.there b o q
    · exact q
  · have own : ∀ {j : Nat} {x : D}, (ρ.set i (.own d'))[j]? = some (.own x) → ∃ x', ρ[j]? = some (.own x') := fun {j x} z => by
      rcases getElem?_set_cases z with ⟨rfl, _⟩ | ⟨_, z⟩
      · exact ⟨d, h⟩
      · exact ⟨x, z⟩
    obtain ⟨x', h1⟩ := own h1
    obtain ⟨y', h2⟩ := own h2
    exact e.sep j k _ _ _ h1 h2 h3 h4
theorem root_upd {i : Nat} {d d' : D} {a : Addr} (h : ρ[i]? = some (.own d)) (z : Root σ (ρ.set i (.own d')) a) : Root σ ρ a := by
  obtain ⟨j, x, h1, h2⟩ := z
  rcases getElem?_set_cases h1 with ⟨rfl, _⟩ | ⟨_, h1⟩
  · exact ⟨_, d, h, h2⟩
  · exact ⟨j, x, h1, h2⟩
end
end DL
set_option maxHeartbeats 1000000
/-! DL, part 7: calls that change a list, methods of lists. -/
namespace DL
open PySem PySem.Spec PyProof.Rows L2
section
variable {X : Cx} {W : WX} {σ : St} {H H' H0 H1 H2 : Hp} {F F' F0 F1 F2 : Addr → Prop} {ρ ρ' ρ1 ρ2 : DEnv} {S : Addr → Prop} {K : PySem.W.Frag}
theorem callIo_ok {φ : List D → FRes} {fs : List Den} {n : Nat} {Q : VK} (hl : fs.length = n) (h : LE X W (dCallIo φ fs) σ H Q) : LA X W (dArgs fs) σ H fun vs H1 => SpD X.K X.mg n true φ vs H1 Q (WE W σ) := by
  obtain ⟨F, ρ, e, h⟩ := h
  refine ⟨F, ρ, e, OP.seq e h fun rs ρ1 vs H1 F1 q s1 e1 rt1 r1 h => ?_⟩
  have hlen : vs.length = n := by rw [r1.length, dArgs_len q]; exact hl
  cases rs with
  | nil => exact h.elim
  | cons r rest =>
    cases r with
    | d x => exact h.elim
    | fresh x => exact h.elim
    | plc i =>
      obtain ⟨v, tl, rfl, hv, r2⟩ := r1
      have hv : σ[i]? = some (some v) := hv
      cases q2 : escs rest ρ1 with
      | none => simp only [q2] at h; exact h.elim
      | some p =>
        obtain ⟨ds, ρ2⟩ := p
        simp only [q2] at h
        obtain ⟨F2, s2, f2, e2, rt2, r3⟩ := escs_ok s1 e1 rt1 r2.weak q2 fun a n z => by
          obtain ⟨o, q⟩ := e.isS z
          rw [n] at q; cases q
        cases q3 : ρ2[i]? with
        | none => simp only [q3] at h; exact h.elim
        | some sl =>
          cases sl with
          | no => simp only [q3] at h; exact h.elim
          | val x => simp only [q3] at h; exact h.elim
          | own d =>
            simp only [q3] at h
            obtain ⟨a, ha, o⟩ := e2.owned q3
            rw [hv] at ha; cases ha
            have rta : Root σ ρ a := rt1 a (rt2 a ⟨i, d, q3, hv⟩)
            refine ⟨hlen, F2, d :: ds, e2.trk, .inr ⟨rfl, d, ds, a, tl, rfl, rfl, o, r3⟩, ?_⟩
            have only : ∀ b, IoS true (V.ref a :: tl) b → b = a := fun b z => by
              obtain ⟨_, tl', z⟩ := z
              cases z; rfl
            have st : ∀ {H3 F3 d'}, Stp (IoS true (V.ref a :: tl)) H1 F2 H3 F3 → Own X.K H3 F3 a d' → Stp (Root σ ρ) H F H3 F3 ∧ ER X.K H3 F3 σ (ρ2.set i (.own d')) := fun {H3 F3 d'} s3 o' =>
              ⟨s2.trans s3 fun b z => by rw [only b z]; exact .inl rta, e2.update q3 hv (s3.wider only fun b z => by subst z; exact o.mt) o'⟩
            have rt3 : ∀ {d'} b, Root σ (ρ2.set i (.own d')) b → Root σ ρ b := fun {d'} b z => rt1 b (rt2 b (root_upd q3 z))
            have io : ∀ {H3 F3 d'}, IoR X.K H3 F3 true (V.ref a :: tl) (some d') → Own X.K H3 F3 a d' := fun {H3 F3 d'} z => by
              obtain ⟨_, b, tl', e', o'⟩ := z
              cases e'; exact o'
            cases q4 : φ (d :: ds) with
            | bad => rw [q4] at h; exact h.elim
            | ok r m =>
              rw [q4] at h
              cases m with
              | none => exact h.elim
              | some d' => exact ⟨rfl, fun w H3 F3 s3 _ r4 i4 => h w H3 F3 (st s3 (io i4)).1 (st s3 (io i4)).2 rt3 (r4.any.since fun b n => s2.new_of n)⟩
            | exc x m =>
              rw [q4] at h
              cases m with
              | none => exact h.elim
              | some d' => exact ⟨rfl, fun cls dx H3 F3 s3 _ i4 x4 => h cls dx H3 F3 (st s3 (io i4)).1 (st s3 (io i4)).2 rt3 x4⟩
theorem d_callIo {k n : Nat} {f : Addr} {fd : FuncData} {ps : List Str} {φ : List D → FRes} {x : Str} {e : Expr} {es : List Expr} {fs : List Den} {p pos : Pos} (G : FnG X.prog X.w X.K X.mg X.base (L2.CX X.prog X.w) k f fd ps (SpD X.K X.mg n true φ))
    (hr : Room k X.A) (gu : X.A.guards = some []) (hg : Gl X x) (hm : X.mg x = some (.ref f)) (hk : PySem.W.keepIn X.K (.ref f) = true) (hb : Binds X.K fd ps []) (tk : Takes X W) (hl : fs.length = n) (hdb : (x == ("__debug__" : Str)) = false) (ns : (e :: es).all notStar = true) (ha : PA X (e :: es) (LA X W (dArgs fs))) :
    PE X (.Call (.Name x p) (e :: es) [] pos) (LE X W (dCallIo φ fs)) := by
  have ns' := ns
  rw [List.all_cons, Bool.and_eq_true] at ns'
  exact PE.imp (pe_callG G hr gu hg hm hk hb (fun σ => passAt tk σ) ha hdb (star_of ns'.1 es X.env) (back_any ns'.2)) fun _ _ _ h => callIo_ok hl h

/-! ### methods that change a list -/
/-- o: the list and the (frozen) arguments to the answer and the new list -/
abbrev MOp := D → List D → Option (D × D)
/-- what a method of the machine needs: of the owned thing at a -/
def MtD (X : Cx) (r : V → List V → Hp → VK → Prop) (o : MOp) : Prop :=
  ∀ (H : Hp) (F : Addr → Prop) (a : Addr) (d : D) (ds : List D) (vs : List V) (res d' : D) (Q : VK), (∀ a, F a → ∃ o, H a = some o) → Own X.K H F a d → Reps X.K H F ds vs → o d ds = some (res, d') →
    (∀ v H' F', Stp (fun b => b = a) H F H' F' → Rep X.K H' F' res v → Own X.K H' F' a d' → Q v H') → r (.ref a) vs H Q
/-- the local in slot i, its list changed -/
def dMeth (i : Nat) (o : MOp) (fs : List Den) : Den := fun ρ => match ρ[i]? with
  | some (.own (.lst _)) => (dFrz fs ρ).bind fun ds ρ1 => (match ρ1[i]? with
    | some (.own d) => (match o d ds with
      | some (res, d') => .ok (.d res) (ρ1.set i (.own d'))
      | none => .bad)
    | _ => .bad)
  | _ => .bad
theorem Own.tyL {a : Addr} {l : List D} (h : Own K H F a (.lst l)) : tyV K "list" (.ref a) H := by
  obtain ⟨_, vs, e, _⟩ := h
  exact .inl ⟨rfl, vs, SqL.of e⟩
theorem meth_ok {i : Nat} {o : MOp} {r : V → List V → Hp → VK → Prop} {fs : List Den} {Q : VK} (om : MtD X r o) (h : LE X W (dMeth i o fs) σ H Q) :
    ∃ a, σ[i]? = some (some (.ref a)) ∧ tyV X.K "list" (.ref a) H ∧ LF X W (dFrz fs) σ H fun vs H1 => r (.ref a) vs H1 Q := by
  obtain ⟨F, ρ, e, h⟩ := h
  unfold dMeth at h
  cases q0 : ρ[i]? with
  | none => simp only [q0] at h; exact h.elim
  | some sl0 =>
    cases sl0 with
    | no => simp only [q0] at h; exact h.elim
    | val x => simp only [q0] at h; exact h.elim
    | own d0 =>
      cases d0 with
      | lst l0 =>
        simp only [q0] at h
        obtain ⟨a, ha, ow0⟩ := e.owned q0
        refine ⟨a, ha, ow0.tyL, F, ρ, e, OP.seq e h fun ds ρ1 vs H1 F1 q s1 e1 rt1 r1 h => ?_⟩
        cases q2 : ρ1[i]? with
        | none => simp only [q2] at h; exact h.elim
        | some sl =>
          cases sl with
          | no => simp only [q2] at h; exact h.elim
          | val x => simp only [q2] at h; exact h.elim
          | own d =>
            simp only [q2] at h
            cases q3 : o d ds with
            | none => simp only [q3] at h; exact h.elim
            | some p =>
              obtain ⟨res, d'⟩ := p
              simp only [q3] at h
              obtain ⟨a', ha', ow⟩ := e1.owned q2
              rw [ha] at ha'; cases ha'
              have rta : Root σ ρ a := rt1 a ⟨i, d, q2, ha⟩
              exact om H1 F1 a d ds vs res d' Q e1.trk ow r1 q3 fun v H2 F2 s2 r2 o2 =>
                h v H2 F2 (s1.trans s2 fun b z => by subst z; exact .inl rta) (e1.update q2 ha s2 o2) (fun b z => rt1 b (root_upd q2 z)) r2
      | _ => simp only [q0] at h; exact h.elim
def baseOk : Expr → Bool
  | .Call _ _ _ _ => false
  | _ => true
theorem base_of {o : Expr} (h : baseOk o = true) (name : Str) (env : Env) (whole : Sem Value) : attributeBase o name env whole = whole := by
  cases o <;> first | rfl | cases h
theorem few_of {pos : Pos} {env : Env} {es : List Expr} (h : es.all notStar = true) (hl : es.length < 30) : ((backTo pos (starEach es env)).all (fun x => !x.1) && (backToKw pos (keywordEach [] env)).all (fun x => x.1.isSome)
      && decide (es.length + ([] : List Keyword).length + (if ([] : List Keyword).isEmpty then 0 else 1) < 30)) = true := by
  have h1 : ∀ {es : List Expr}, es.all notStar = true → (backTo pos (starEach es env)).all (fun x => !x.1) = true := by
    intro es
    induction es with
    | nil => intro _; rfl
    | cons e es ih =>
      intro h
      rw [List.all_cons, Bool.and_eq_true] at h
      rw [star_of h.1]
      show (true && (backTo pos (starEach es env)).all (fun x => !x.1)) = true
      rw [ih h.2]; rfl
  rw [h1 h]
  have h2 : (backToKw pos (keywordEach [] env)).all (fun x => x.1.isSome) = true := rfl
  rw [h2]
  simp
  exact hl
theorem d_meth {i : Nat} {o : MOp} {r : V → List V → Hp → VK → Prop} {fs : List Den} {x name : Str} {id : String} {e : Expr} {es : List Expr} {p apos cpos : Pos} (pa : PlainAttrs "list") (slot : PySem.Slot "list" name id) (hty : typeOf (.builtin id) = pure (.type "method_descriptor"))
    (hm : MtR X id r) (om : MtD X r o) (hN : X.N[i]? = some x) (hv : Vis X.env.scope x) (hd : (x == ("__debug__" : Str)) = false) (hcd : (x == ("__classdict__" : Str)) = false) (ns : (e :: es).all notStar = true) (hfew : (e :: es).length < 30)
    (hline : (apos.endLine == cpos.line) = true) (ha : PA X (e :: es) (LA X W (dArgs fs))) : PE X (.Call (.Attribute (.Name x p) name apos) (e :: es) [] cpos) (LE X W (dMeth i o fs)) := by
  have ns' := ns
  rw [List.all_cons, Bool.and_eq_true] at ns'
  refine PE.imp (pe_bm pa slot hty hm (pe_var hN hv hd hcd) (d_frz ha) (base_of rfl name X.env _) (few_of ns hfew) hline (star_of ns'.1 es X.env) (back_any ns'.2)) fun σ H Q h => ?_
  obtain ⟨a, ha, ty, q⟩ := meth_ok om h
  exact ⟨_, ha, ty, q⟩
theorem d_meth0 {i : Nat} {o : MOp} {r : V → List V → Hp → VK → Prop} {x name : Str} {id : String} {p apos cpos : Pos} (pa : PlainAttrs "list") (slot : PySem.Slot "list" name id) (hty : typeOf (.builtin id) = pure (.type "method_descriptor"))
    (hm : MtR X id r) (om : MtD X r o) (hN : X.N[i]? = some x) (hv : Vis X.env.scope x) (hd : (x == ("__debug__" : Str)) = false) (hcd : (x == ("__classdict__" : Str)) = false)
    (hline : (apos.endLine == cpos.line) = true) : PE X (.Call (.Attribute (.Name x p) name apos) [] [] cpos) (LE X W (dMeth i o [])) := by
  refine PE.imp (pe_bm0 pa slot hty hm (pe_var hN hv hd hcd) (base_of rfl name X.env _) hline) fun σ H Q h => ?_
  obtain ⟨a, ha, ty, q⟩ := meth_ok om h
  refine ⟨_, ha, ty, ?_⟩
  obtain ⟨F, ρ, e, q⟩ := q
  exact q [] H F e.refl e (fun _ z => z) Reps.nil

/-! ### append, extend, insert, pop, reverse, a place stored -/
def mAppend : MOp
  | .lst l, [x] => if okLen l.length then some (.non, .lst (l ++ [x])) else none
  | _, _ => none
theorem stp_upd {a : Addr} {o : HO} {d : D} (t : ∀ b, F b → ∃ o, H b = some o) (ow : Own K H F a d) : Stp (fun b => b = a) H F (upd H a o) F :=
  ⟨fun b u e n => by rw [upd_ne n]; exact e, fun b u e => by
    by_cases hb : b = a
    · exact ⟨o, by rw [hb]; exact upd_same⟩
    · exact ⟨u, by rw [upd_ne hb]; exact e⟩, fun _ h => h, fun _ h => .inl h, fun _ h => .inl h, fun b z => by subst z; exact ow.mt⟩
/-- an owned list stored anew -/
theorem own_upd {a : Addr} {d : D} {l : List D} {vs : List V} {Q : VK} {v : V} {res : D} (t : ∀ b, F b → ∃ o, H b = some o) (ow : Own K H F a d) (r : Reps K H F l vs) (rr : Rep K H F res v)
    (hQ : ∀ v H' F', Stp (fun b => b = a) H F H' F' → Rep K H' F' res v → Own K H' F' a (.lst l) → Q v H') : Q v (upd H a (.lst vs)) := by
  have s := stp_upd (o := .lst vs) t ow
  exact hQ _ _ F s (s.fut.rep _ _ rr) ⟨ow.1, vs, upd_same, s.fut.reps _ _ r⟩
theorem okLen_lt {n : Nat} (h : okLen n = true) : n < sizeLine := by
  have := Nat.le_of_ble_eq_true h
  rw [sizeLine_eq]; omega
theorem md_append : MtD X rAppend mAppend := by
  intro H F a d ds vs res d' Q t ow r ho hQ
  unfold mAppend at ho
  split at ho
  · obtain ⟨hc, ho⟩ := ite_some ho
    cases ho
    rw [Reps] at r
    obtain ⟨v, tl, rfl, h1, h2⟩ := r
    rw [Reps] at h2
    subst h2
    obtain ⟨nf, us, e, ru⟩ := id ow
    exact ⟨a, us, v, rfl, rfl, e, by rw [ru.length]; exact okLen_lt hc, own_upd t ow (ru.append (Reps.cons h1 Reps.nil)) (rep_flat rfl) hQ⟩
  · cases ho
def mPop0 : MOp
  | .lst l, [] => (l[l.length - 1]?).map fun x => (x, .lst l.dropLast)
  | _, _ => none
theorem Reps.dropLast : ∀ {ds : List D} {vs : List V}, Reps K H F ds vs → Reps K H F ds.dropLast vs.dropLast := fun {ds vs} h => by
  rw [List.dropLast_eq_take, List.dropLast_eq_take, h.length]
  exact h.take _
theorem md_pop0 : MtD X rPop mPop0 := by
  intro H F a d ds vs res d' Q t ow r ho hQ
  unfold mPop0 at ho
  split at ho
  · obtain ⟨x, hx, ho⟩ := Option.map_eq_some_iff.mp ho
    cases ho
    rw [Reps] at r
    subst r
    obtain ⟨nf, us, e, ru⟩ := id ow
    obtain ⟨y, hy, ry⟩ := ru.get hx
    exact ⟨a, us, y, rfl, rfl, e, by rw [ru.length]; exact hy, own_upd t ow ru.dropLast ry hQ⟩
  · cases ho
def mReverse : MOp
  | .lst l, [] => some (.non, .lst l.reverse)
  | _, _ => none
theorem Reps.reverse : ∀ {ds : List D} {vs : List V}, Reps K H F ds vs → Reps K H F ds.reverse vs.reverse
  | [], vs, h => by rw [Reps] at h; subst h; exact Reps.nil
  | d :: ds, vs, h => by
    rw [Reps] at h
    obtain ⟨v, r, rfl, h1, h2⟩ := h
    rw [List.reverse_cons, List.reverse_cons]
    exact (Reps.reverse h2).append (Reps.cons h1 Reps.nil)
theorem md_reverse : MtD X rReverse mReverse := by
  intro H F a d ds vs res d' Q t ow r ho hQ
  unfold mReverse at ho
  split at ho
  · cases ho
    rw [Reps] at r
    subst r
    obtain ⟨nf, us, e, ru⟩ := id ow
    exact ⟨a, us, rfl, rfl, e, own_upd t ow ru.reverse (rep_flat rfl) hQ⟩
  · cases ho
def mInsert : MOp
  | .lst l, [.int i, x] => if okLen l.length && (decide (0 ≤ i) && decide (i < 1000000)) then some (.non, .lst (l.take i.toNat ++ x :: l.drop i.toNat)) else none
  | _, _ => none
end
end DL
set_option maxHeartbeats 1000000
/-! DL, part 8: statements. -/
namespace DL
open PySem PySem.Spec PyProof.Rows L2

inductive SOut where
  | nx (ρ : DEnv) | rt (r : RV) (ρ : DEnv) | bk (ρ : DEnv) | ct (ρ : DEnv) | exc (e : Exn) (ρ : DEnv) | bad
abbrev SDen := DEnv → SOut
/-- behind a statement: the slot j0 (a parameter that is handed on changed) stays where it is -/
structure After (X : Cx) (j0 : Bool) (σ : St) (ρ : DEnv) (H : Hp) (F : Addr → Prop) (σ' : St) (ρ' : DEnv) (H' : Hp) (F' : Addr → Prop) : Prop where
  stp : Stp (Root σ ρ) H F H' F'
  er : ER X.K H' F' σ' ρ'
  rt : ∀ a, Root σ' ρ' a → Root σ ρ a ∨ H a = none
  io : j0 = true → σ'[0]? = σ[0]?
def SPo (X : Cx) (W : WX) (j0 : Bool) (σ : St) (ρ : DEnv) (H : Hp) (F : Addr → Prop) (D : Ends) : SOut → Prop
  | .nx ρ' => ∀ σ' H' F', After X j0 σ ρ H F σ' ρ' H' F' → D.nx σ' H'
  | .bk ρ' => ∀ σ' H' F', After X j0 σ ρ H F σ' ρ' H' F' → D.bk σ' H'
  | .ct ρ' => ∀ σ' H' F', After X j0 σ ρ H F σ' ρ' H' F' → D.ct σ' H'
  | .rt r ρ' => ∀ v σ' H' F', After X j0 σ ρ H F σ' ρ' H' F' → RRel X.K H H' F' σ' r v → D.rt v H'
  | .exc e ρ' => ∀ cls dx σ' H' F', After X j0 σ ρ H F σ' ρ' H' F' → ExcR X.K X.mg H' F' e cls dx → W cls dx σ' H'
  | .bad => False
def LS (X : Cx) (W : WX) (j0 : Bool) (f : SDen) : TS := fun D σ H => ∃ F ρ, ER X.K H F σ ρ ∧ SPo X W j0 σ ρ H F D (f ρ)

section
variable {X : Cx} {W : WX} {j0 : Bool} {σ σ1 σ2 σ' : St} {H H' H0 H1 H2 : Hp} {F F' F0 F1 F2 : Addr → Prop} {ρ ρ' ρ1 ρ2 : DEnv} {S : Addr → Prop} {K : PySem.W.Frag} {Dn : Ends}
theorem After.refl (e : ER X.K H F σ ρ) : After X j0 σ ρ H F σ ρ H F := ⟨e.refl, e, fun _ z => .inl z, fun _ => rfl⟩
theorem After.trans (a : After X j0 σ ρ H F σ1 ρ1 H1 F1) (b : After X j0 σ1 ρ1 H1 F1 σ2 ρ2 H2 F2) : After X j0 σ ρ H F σ2 ρ2 H2 F2 :=
  ⟨a.stp.trans b.stp a.rt, b.er, fun x z => (b.rt x z).elim (a.rt x) fun n => .inr (a.stp.new_of n), fun h => (b.io h).trans (a.io h)⟩
theorem After.of (s : Stp (Root σ ρ) H F H' F') (e : ER X.K H' F' σ ρ') (r : ∀ a, Root σ ρ' a → Root σ ρ a) : After X j0 σ ρ H F σ ρ' H' F' := ⟨s, e, fun a z => .inl (r a z), fun _ => rfl⟩
theorem SPo.from {o : SOut} (a : After X j0 σ ρ H F σ1 ρ1 H1 F1) (h : SPo X W j0 σ ρ H F Dn o) : SPo X W j0 σ1 ρ1 H1 F1 Dn o := by
  cases o with
  | bad => exact h
  | nx ρ2 => exact fun σ2 H2 F2 b => h σ2 H2 F2 (a.trans b)
  | bk ρ2 => exact fun σ2 H2 F2 b => h σ2 H2 F2 (a.trans b)
  | ct ρ2 => exact fun σ2 H2 F2 b => h σ2 H2 F2 (a.trans b)
  | rt r ρ2 => exact fun v σ2 H2 F2 b r2 => h v σ2 H2 F2 (a.trans b) (r2.since fun x n => a.stp.new_of n)
  | exc e ρ2 => exact fun cls dx σ2 H2 F2 b x2 => h cls dx σ2 H2 F2 (a.trans b) x2
def sNext : SDen := fun ρ => .nx ρ
def sSeq (f g : SDen) : SDen := fun ρ => match f ρ with
  | .nx ρ1 => g ρ1
  | o => o
theorem s_nil : PSs X [] (LS X W j0 sNext) := PSs.imp pss_nil fun D σ H h => by
  obtain ⟨F, ρ, e, h⟩ := h
  exact h σ H F (.refl e)
theorem seq_ok {f g : SDen} (h : LS X W j0 (sSeq f g) Dn σ H) : tSeq (LS X W j0 f) (LS X W j0 g) Dn σ H := by
  obtain ⟨F, ρ, e, h⟩ := h
  refine ⟨F, ρ, e, ?_⟩
  unfold sSeq at h
  cases q : f ρ with
  | nx ρ1 =>
    rw [q] at h
    exact fun σ1 H1 F1 a => ⟨F1, ρ1, a.er, SPo.from a h⟩
  | bad => rw [q] at h; exact h
  | bk ρ1 => rw [q] at h; exact h
  | ct ρ1 => rw [q] at h; exact h
  | rt r ρ1 => rw [q] at h; exact h
  | exc x ρ1 => rw [q] at h; exact h
theorem s_cons {st : Stmt} {rest : List Stmt} {f g : SDen} (h : PS X st (LS X W j0 f)) (t : PSs X rest (LS X W j0 g)) : PSs X (st :: rest) (LS X W j0 (sSeq f g)) := PSs.imp (pss_cons h t) fun _ _ _ h => seq_ok h
theorem s_one {st : Stmt} {f : SDen} (h : PS X st (LS X W j0 f)) : PSs X [st] (LS X W j0 f) := pss_one h
theorem s_pass {pos : Pos} : PS X (.Pass pos) (LS X W j0 sNext) := PS.imp ps_pass fun D σ H h => by
  obtain ⟨F, ρ, e, h⟩ := h
  exact h σ H F (.refl e)
theorem s_break {pos : Pos} : PS X (.Break pos) (LS X W j0 fun ρ => .bk ρ) := PS.imp ps_break fun D σ H h => by
  obtain ⟨F, ρ, e, h⟩ := h
  exact h σ H F (.refl e)
theorem s_continue {pos : Pos} : PS X (.Continue pos) (LS X W j0 fun ρ => .ct ρ) := PS.imp ps_continue fun D σ H h => by
  obtain ⟨F, ρ, e, h⟩ := h
  exact h σ H F (.refl e)
theorem s_doc {x : Str} {j : Nat} {pos pos' : Pos} : PS X (.Expr (.Constant (.str x) j pos) pos') (LS X W j0 sNext) := PS.imp ps_doc fun D σ H h => by
  obtain ⟨F, ρ, e, h⟩ := h
  exact h σ H F (.refl e)
/-- an expression first -/
def sE {α : Type} (f : DEnv → Out α) (k : α → DEnv → SOut) : SDen := fun ρ => match f ρ with
  | .ok a ρ1 => k a ρ1
  | .exc e ρ1 => .exc e ρ1
  | .bad => .bad
theorem sE_ok {α β : Type} {R : Hp → Hp → (Addr → Prop) → St → α → β → Prop} {f : DEnv → Out α} {k : α → DEnv → SOut} {P : β → Hp → Prop} (h : LS X W j0 (sE f k) Dn σ H)
    (hk : ∀ ρ F a ρ1 v H1 F1, ER X.K H F σ ρ → f ρ = .ok a ρ1 → Stp (Root σ ρ) H F H1 F1 → ER X.K H1 F1 σ ρ1 → (∀ a, Root σ ρ1 a → Root σ ρ a) → R H H1 F1 σ a v → SPo X W j0 σ ρ H F Dn (k a ρ1) → P v H1) : LO X W R f σ H P := by
  obtain ⟨F, ρ, e, h⟩ := h
  refine ⟨F, ρ, e, ?_⟩
  unfold sE at h
  cases q : f ρ with
  | bad => rw [q] at h; exact h
  | exc x ρ1 =>
    rw [q] at h
    exact fun cls dx H1 F1 s1 e1 rt1 x1 => h cls dx σ H1 F1 (.of s1 e1 rt1) x1
  | ok a ρ1 =>
    rw [q] at h
    exact fun v H1 F1 s1 e1 rt1 r1 => hk ρ F a ρ1 v H1 F1 e q s1 e1 rt1 r1 h
theorem sE_from {σ0 : St} {ρ0 : DEnv} {α β : Type} {R : Hp → Hp → (Addr → Prop) → St → α → β → Prop} {f : DEnv → Out α} {k : α → DEnv → SOut} {P : β → Hp → Prop} (a0 : After X j0 σ0 ρ0 H0 F0 σ ρ H F) (h : SPo X W j0 σ0 ρ0 H0 F0 Dn (sE f k ρ))
    (hk : ∀ a ρ1 v H1 F1, f ρ = .ok a ρ1 → Stp (Root σ ρ) H F H1 F1 → ER X.K H1 F1 σ ρ1 → (∀ a, Root σ ρ1 a → Root σ ρ a) → R H H1 F1 σ a v → SPo X W j0 σ0 ρ0 H0 F0 Dn (k a ρ1) → P v H1) : LO X W R f σ H P := by
  refine ⟨F, ρ, a0.er, ?_⟩
  unfold sE at h
  cases q : f ρ with
  | bad => rw [q] at h; exact h
  | exc x ρ1 =>
    rw [q] at h
    exact fun cls dx H1 F1 s1 e1 rt1 x1 => h cls dx σ H1 F1 (a0.trans (.of s1 e1 rt1)) x1
  | ok a ρ1 =>
    rw [q] at h
    exact fun v H1 F1 s1 e1 rt1 r1 => hk a ρ1 v H1 F1 q s1 e1 rt1 r1 h
def sDrop (f : Den) : SDen := sE f fun _ ρ1 => .nx ρ1
def notLC : Expr → Bool
  | .ListComp _ _ _ _ => false
  | .SetComp _ _ _ _ => false
  | .DictComp _ _ _ _ _ => false
  | _ => true
theorem swaps_of {e : Expr} (h : notLC e = true) (t : Option Expr) (l : Nat) (env : Env) : swapsWith e t l env = pure false := by
  cases e <;> first | rfl | cases h
theorem s_expr {e : Expr} {f : Den} {pos : Pos} (nl : notLC e = true) (h : PE X e (LE X W f)) : PS X (.Expr e pos) (LS X W j0 (sDrop f)) := PS.imp (ps_expr h (swaps_of nl none pos.line X.env)) fun D σ H h =>
  sE_ok h fun ρ F a ρ1 v H1 F1 e q s1 e1 rt1 r1 h => h σ H1 F1 (.of s1 e1 rt1)
def sRet (f : Den) : SDen := sE f fun r ρ1 => .rt r ρ1
theorem s_ret {e : Expr} {f : Den} {pos : Pos} (h : PE X e (LE X W f)) : PS X (.Return (some e) pos) (LS X W j0 (sRet f)) := PS.imp (ps_ret h) fun D σ H h =>
  sE_ok h fun ρ F a ρ1 v H1 F1 e q s1 e1 rt1 r1 h => h v σ H1 F1 (.of s1 e1 rt1) r1
theorem s_retN {pos : Pos} : PS X (.Return none pos) (LS X W j0 fun ρ => .rt (.d .non) ρ) := PS.imp ps_retN fun D σ H h => by
  obtain ⟨F, ρ, e, h⟩ := h
  exact h .non σ H F (.refl e) (rep_flat rfl)
def sIf (c : DEnv → Out Bool) (f g : SDen) : SDen := sE c fun b ρ1 => if b = true then f ρ1 else g ρ1
theorem s_if {c : Expr} {a b : List Stmt} {fc : DEnv → Out Bool} {f g : SDen} {pos : Pos} (hc : PT X c (LT X W fc)) (ha : PSs X a (LS X W j0 f)) (hb : PSs X b (LS X W j0 g)) : PS X (.If c a b pos) (LS X W j0 (sIf fc f g)) :=
  PS.imp (ps_if hc ha hb) fun D σ H h => sE_ok h fun ρ F b ρ1 c H1 F1 e q s1 e1 rt1 r1 h => by
    subst r1
    have h := SPo.from (.of s1 e1 rt1) h
    cases b with
    | true => exact ⟨F1, ρ1, e1, h⟩
    | false => exact ⟨F1, ρ1, e1, h⟩

/-! ### stores -/
/-- a local gets a value: a new list is owned, a place is frozen -/
def setR (i : Nat) (r : RV) (ρ : DEnv) : Option DEnv := match r with
  | .d x => some (ρ.set i (.val x))
  | .fresh x => some (ρ.set i (.own x))
  | .plc j => (esc ρ (.plc j)).map fun p => p.2.set i (.val p.1)
theorem ER.setVal {i : Nat} {d : D} {v : V} (e : ER K H F σ ρ) (r : Rep K H F d v) : ER K H F (σ.set i (some v)) (ρ.set i (.val d)) := by
  refine ⟨by rw [List.length_set, List.length_set]; exact e.len, fun j sl hj => ?_, e.trk, fun j k x y b h1 h2 h3 h4 => ?_⟩
  · rcases getElem?_set_cases hj with ⟨rfl, rfl⟩ | ⟨nj, hj⟩
    · refine ⟨v, ?_, r⟩
      have hl : j < ρ.length := by
        by_cases z : j < ρ.length
        · exact z
        · rw [List.getElem?_eq_none (by simpa using z)] at hj; cases hj
      rw [List.getElem?_set_self (by rw [e.len]; exact hl)]; rfl
    · have := e.at_ j sl hj
      rw [List.getElem?_set_ne (Ne.symm nj)]
      exact this
  · rcases getElem?_set_cases h1 with ⟨_, h1⟩ | ⟨n1, h1⟩
    · cases h1
    · rcases getElem?_set_cases h2 with ⟨_, h2⟩ | ⟨n2, h2⟩
      · cases h2
      · rw [List.getElem?_set_ne (Ne.symm n1)] at h3
        rw [List.getElem?_set_ne (Ne.symm n2)] at h4
        exact e.sep j k _ _ _ h1 h2 h3 h4
theorem root_setVal {i : Nat} {d : D} {v : V} {a : Addr} (h : Root (σ.set i (some v)) (ρ.set i (.val d)) a) : Root σ ρ a := by
  obtain ⟨j, x, h1, h2⟩ := h
  rcases getElem?_set_cases h1 with ⟨_, h1⟩ | ⟨n1, h1⟩
  · cases h1
  · rw [List.getElem?_set_ne (Ne.symm n1)] at h2
    exact ⟨j, x, h1, h2⟩
theorem ER.setOwn {i : Nat} {d : D} {a : Addr} (e : ER K H F σ ρ) (o : Own K H F a d) (n : ¬ Root σ ρ a) : ER K H F (σ.set i (some (.ref a))) (ρ.set i (.own d)) := by
  refine ⟨by rw [List.length_set, List.length_set]; exact e.len, fun j sl hj => ?_, e.trk, fun j k x y b h1 h2 h3 h4 => ?_⟩
  · rcases getElem?_set_cases hj with ⟨rfl, rfl⟩ | ⟨nj, hj⟩
    · refine ⟨a, ?_, o⟩
      have hl : j < ρ.length := by
        by_cases z : j < ρ.length
        · exact z
        · rw [List.getElem?_eq_none (by simpa using z)] at hj; cases hj
      rw [List.getElem?_set_self (by rw [e.len]; exact hl)]; rfl
    · have := e.at_ j sl hj
      rw [List.getElem?_set_ne (Ne.symm nj)]
      exact this
  · have at_i : ∀ {b}, (σ.set i (some (V.ref a)))[i]? = some (some (V.ref b)) → b = a := fun {b} z => by
      rcases getElem?_set_cases z with ⟨_, z⟩ | ⟨z, _⟩
      · cases z; rfl
      · exact absurd rfl z
    rcases getElem?_set_cases h1 with ⟨e1, g1⟩ | ⟨n1, g1⟩
    · rcases getElem?_set_cases h2 with ⟨e2, g2⟩ | ⟨n2, g2⟩
      · rw [e1, e2]
      · rw [e1] at h3
        rw [List.getElem?_set_ne (Ne.symm n2)] at h4
        have := at_i h3
        rw [this] at h4
        exact absurd ⟨k, y, g2, h4⟩ n
    · rw [List.getElem?_set_ne (Ne.symm n1)] at h3
      rcases getElem?_set_cases h2 with ⟨e2, g2⟩ | ⟨n2, g2⟩
      · rw [e2] at h4
        have := at_i h4
        rw [this] at h3
        exact absurd ⟨j, x, g1, h3⟩ n
      · rw [List.getElem?_set_ne (Ne.symm n2)] at h4
        exact e.sep j k _ _ _ g1 g2 h3 h4
theorem root_setOwn {i : Nat} {d : D} {a b : Addr} (h : Root (σ.set i (some (.ref a))) (ρ.set i (.own d)) b) : Root σ ρ b ∨ b = a := by
  obtain ⟨j, x, h1, h2⟩ := h
  rcases getElem?_set_cases h1 with ⟨rfl, _⟩ | ⟨n1, h1⟩
  · rcases getElem?_set_cases h2 with ⟨_, h2⟩ | ⟨z, _⟩
    · cases h2; exact .inr rfl
    · exact absurd rfl z
  · rw [List.getElem?_set_ne (Ne.symm n1)] at h2
    exact .inl ⟨j, x, h1, h2⟩
/-- what a store does -/
theorem set_ok {i : Nat} {r : RV} {v : V} (s : Stp (Root σ ρ) H F H1 F1) (e0 : ER X.K H F σ ρ) (e : ER X.K H1 F1 σ ρ1) (rt : ∀ a, Root σ ρ1 a → Root σ ρ a) (h : RRel X.K H H1 F1 σ r v) (hs : setR i r ρ1 = some ρ') (hi : j0 = true → i ≠ 0) :
    ∃ F2, After X j0 σ ρ H F (σ.set i (some v)) ρ' H1 F2 := by
  have hio : j0 = true → (σ.set i (some v))[0]? = σ[0]? := fun z => List.getElem?_set_ne (hi z)
  cases r with
  | d x =>
    cases hs
    exact ⟨F1, s, e.setVal h, fun a z => .inl (rt a (root_setVal z)), hio⟩
  | fresh x =>
    cases hs
    obtain ⟨a, rfl, hn, o⟩ := h
    refine ⟨F1, s, e.setOwn o fun z => ?_, fun b z => ?_, hio⟩
    · obtain ⟨o', q⟩ := e0.isS (rt a z)
      rw [hn] at q; cases q
    · rcases root_setOwn z with z | z
      · exact .inl (rt b z)
      · subst z; exact .inr hn
  | plc j =>
    obtain ⟨p, hp, rfl⟩ := Option.map_eq_some_iff.mp hs
    obtain ⟨F2, s2, f2, e2, rt2, r2⟩ := esc_ok (r := .plc j) s e rt h.weak hp fun a n z => by
      obtain ⟨o, q⟩ := e0.isS z
      rw [n] at q; cases q
    exact ⟨F2, s2, e2.setVal r2, fun a z => .inl (rt a (rt2 a (root_setVal z))), hio⟩
def sSet (i : Nat) (f : Den) : SDen := sE f fun r ρ1 => match setR i r ρ1 with
  | some ρ' => .nx ρ'
  | none => .bad
theorem s_set {i : Nat} {x : Str} {e : Expr} {f : Den} {pos pos' : Pos} (nl : swapsWith e (some (.Name x pos')) pos.line X.env = pure false) (hN : X.N.Nodup) (hi : X.N[i]? = some x) (hx : Loc X.env.scope x) (hf : X.fn x = true ∨ X.env.scope.names.lookup x = some .local) (hio : j0 = true → i ≠ 0) (h : PE X e (LE X W f)) :
    PS X (.Assign [.Name x pos'] e pos) (LS X W j0 (sSet i f)) := PS.imp (ps_set hN hi hx h nl hf) fun D σ H h =>
  sE_ok h fun ρ F r ρ1 v H1 F1 e q s1 e1 rt1 r1 h => by
    cases q2 : setR i r ρ1 with
    | none => rw [q2] at h; exact h.elim
    | some ρ' =>
      rw [q2] at h
      obtain ⟨F2, a⟩ := set_ok (j0 := j0) s1 e e1 rt1 r1 q2 hio
      exact h _ _ F2 a
end
end DL
set_option maxHeartbeats 1000000
/-! DL, part 9: targets, stores of places, pairs. -/
namespace DL
open PySem PySem.Spec PyProof.Rows L2

abbrev Tgt := D → DEnv → Option DEnv
def LG (X : Cx) (T : List Nat) (t : Tgt) : TG := fun v σ H Q => ∃ F ρ d, ER X.K H F σ ρ ∧ Rep X.K H F d v ∧ ∃ ρ', t d ρ = some ρ' ∧ ∀ σ', ER X.K H F σ' ρ' → (∀ a, Root σ' ρ' a → Root σ ρ a) → (σ'.length = σ.length ∧ ∀ i, i ∉ T → σ'[i]? = σ[i]?) → Q σ' H
def LGs (X : Cx) (T : List Nat) (t : List D → DEnv → Option DEnv) : TGs := fun vs σ H Q => ∃ F ρ ds, ER X.K H F σ ρ ∧ Reps X.K H F ds vs ∧ ∃ ρ', t ds ρ = some ρ' ∧ ∀ σ', ER X.K H F σ' ρ' → (∀ a, Root σ' ρ' a → Root σ ρ a) → (σ'.length = σ.length ∧ ∀ i, i ∉ T → σ'[i]? = σ[i]?) → Q σ' H
section
variable {X : Cx} {W : WX} {j0 : Bool} {σ σ1 σ2 σ' : St} {H H' H0 H1 H2 : Hp} {F F' F0 F1 F2 : Addr → Prop} {ρ ρ' ρ1 ρ2 : DEnv} {S : Addr → Prop} {K : PySem.W.Frag} {Dn : Ends}
theorem PG.imp {e : Expr} {t t' : TG} (h : PG X e t) (hi : ∀ v σ H Q, t' v σ H Q → t v σ H Q) : PG X e t' := ⟨fun pins s σ H v u Q I r q => h.run pins s σ H v u Q I r (hi v σ H Q q)⟩
theorem PGs.imp {e : List Expr} {t t' : TGs} (h : PGs X e t) (hi : ∀ v σ H Q, t' v σ H Q → t v σ H Q) : PGs X e t' := ⟨fun pins s σ H v u Q I r q => h.run pins s σ H v u Q I r (hi v σ H Q q)⟩
theorem PG.or {e : Expr} {t t' : TG} (h : PG X e t) (h' : PG X e t') : PG X e (fun v σ H Q => t v σ H Q ∨ t' v σ H Q) := ⟨fun pins s σ H v u Q I r q => q.elim (h.run pins s σ H v u Q I r) (h'.run pins s σ H v u Q I r)⟩
def tName (i : Nat) : Tgt := fun d ρ => some (ρ.set i (.val d))
theorem g_name {i : Nat} {x : Str} {pos : Pos} (hN : X.N.Nodup) (hi : X.N[i]? = some x) (hx : Loc X.env.scope x) (hf : X.fn x = true ∨ X.env.scope.names.lookup x = some .local) : PG X (.Name x pos) (LG X [i] (tName i)) :=
  PG.imp (pg_name hN hi hx hf) fun v σ H Q h => by
    obtain ⟨F, ρ, d, e, r, ρ', ht, k⟩ := h
    cases ht
    exact k _ (e.setVal r) (fun a z => root_setVal z) ⟨List.length_set, fun j z => List.getElem?_set_ne fun q => z (by simp [q])⟩
def tNil' : List D → DEnv → Option DEnv := fun ds ρ => match ds with
  | [] => some ρ
  | _ => none
def tCons' (t : Tgt) (u : List D → DEnv → Option DEnv) : List D → DEnv → Option DEnv := fun ds ρ => match ds with
  | d :: ds => (t d ρ).bind fun ρ1 => u ds ρ1
  | [] => none
theorem g_nil : PGs X [] (LGs X [] tNil') := PGs.imp pgs_nil fun vs σ H Q h => by
  obtain ⟨F, ρ, ds, e, r, ρ', ht, k⟩ := h
  cases ds with
  | nil =>
    cases ht
    rw [Reps] at r
    exact ⟨r, k σ e (fun _ z => z) ⟨rfl, fun _ _ => rfl⟩⟩
  | cons d ds => cases ht
theorem asg_star {e : Expr} (h : notStar e = true) (es : List Expr) (env : Env) : (assignEach (e :: es) env).map (·.2) = assign e env :: (assignEach es env).map (·.2) := by
  cases e <;> first | rfl | cases h
theorem g_cons {e : Expr} {es : List Expr} {t : Tgt} {T U : List Nat} {u : List D → DEnv → Option DEnv} (ns : notStar e = true) (h : PG X e (LG X T t)) (hs : PGs X es (LGs X U u)) : PGs X (e :: es) (LGs X (T ++ U) (tCons' t u)) :=
  PGs.imp (pgs_cons h hs (asg_star ns es X.env)) fun vs σ H Q h => by
    obtain ⟨F, ρ, ds, e, r, ρ', ht, k⟩ := h
    cases ds with
    | nil => cases ht
    | cons d ds =>
      rw [Reps] at r
      obtain ⟨v, tl, rfl, r1, r2⟩ := r
      obtain ⟨ρ1, h1, h2⟩ := Option.bind_eq_some_iff.mp (show (t d ρ).bind (fun ρ1 => u ds ρ1) = some ρ' from ht)
      exact ⟨v, tl, rfl, F, ρ, d, e, r1, ρ1, h1, fun σ1 e1 rt1 io1 => ⟨F, ρ1, ds, e1, r2, ρ', h2, fun σ2 e2 rt2 io2 => k σ2 e2 (fun a z => rt1 a (rt2 a z)) ⟨io2.1.trans io1.1, fun i z => (io2.2 i fun q => z (List.mem_append_right _ q)).trans (io1.2 i fun q => z (List.mem_append_left _ q))⟩⟩⟩
/-- a, b, .. = a tuple or a list of so many -/
def tTupT (n : Nat) (u : List D → DEnv → Option DEnv) : Tgt := fun d ρ => match d with
  | .tup ds => if ds.length == n then u ds ρ else none
  | .lst ds => if ds.length == n then u ds ρ else none
  | _ => none
theorem asg_len {env : Env} : ∀ {es : List Expr}, (assignEach es env).length = es.length
  | [] => rfl
  | e :: es => by
    cases e <;> (show (assignEach es env).length + 1 = es.length + 1; rw [asg_len])
theorem asg_nostar {env : Env} : ∀ {es : List Expr}, es.all notStar = true → (assignEach es env).findIdx? (·.1) = none
  | [], _ => rfl
  | e :: es, h => by
    rw [List.all_cons, Bool.and_eq_true] at h
    have ih := asg_nostar (env := env) h.2
    have key : ∀ t, (((false, t) : Bool × (Value → Sem Unit)) :: assignEach es env).findIdx? (·.1) = none := fun t => by
      rw [List.findIdx?_cons]
      simp [ih]
    cases e <;> first | exact key _ | cases h.1
theorem g_tup {es : List Expr} {k : Nat} {pos : Pos} {T : List Nat} {u : List D → DEnv → Option DEnv} (hc : X.calm = true) (ns : es.all notStar = true) (h : PGs X es (LGs X T u)) : PG X (.Tuple es k pos) (LG X T (tTupT es.length u)) :=
  PG.imp (PG.or (pg_tup hc h asg_len (asg_nostar ns)) (pg_lst hc h asg_len (asg_nostar ns))) fun v σ H Q h => by
    obtain ⟨F, ρ, d, e, r, ρ', ht, k⟩ := h
    cases d with
    | tup ds =>
      obtain ⟨hl, ht⟩ := ite_some (show (if (ds.length == es.length) = true then u ds ρ else none) = some ρ' from ht)
      rw [Rep] at r
      obtain ⟨a, vs, rfl, s, rs⟩ := r
      exact .inl ⟨a, vs, rfl, s, by rw [rs.length]; simpa using hl, F, ρ, ds, e, rs, ρ', ht, k⟩
    | lst ds =>
      obtain ⟨hl, ht⟩ := ite_some (show (if (ds.length == es.length) = true then u ds ρ else none) = some ρ' from ht)
      rw [Rep] at r
      obtain ⟨a, vs, rfl, s, rs⟩ := r
      exact .inr ⟨a, vs, rfl, s.sq, by rw [rs.length]; simpa using hl, F, ρ, ds, e, rs, ρ', ht, k⟩
    | _ => cases ht
/-- target = value, the value frozen -/
def sAsg (f : Den) (t : Tgt) : SDen := sE f fun r ρ1 => match esc ρ1 r with
  | some (d, ρ2) => (match t d ρ2 with
    | some ρ3 => .nx ρ3
    | none => .bad)
  | none => .bad
theorem esc_after {F0 : Addr → Prop} {r : RV} {v : V} {d : D} (s : Stp (Root σ ρ) H F H1 F1) (e0 : ER K H F σ ρ) (e : ER K H1 F1 σ ρ1) (rt : ∀ a, Root σ ρ1 a → Root σ ρ a) (h : RRel K H H1 F1 σ r v) (hv : esc ρ1 r = some (d, ρ2)) :
    ∃ F2, Stp (Root σ ρ) H F H1 F2 ∧ Fut H1 F1 H1 F2 ∧ ER K H1 F2 σ ρ2 ∧ (∀ a, Root σ ρ2 a → Root σ ρ a) ∧ Rep K H1 F2 d v := by
  obtain ⟨F2, s2, f2, e2, rt2, r2⟩ := esc_ok s e rt h.weak hv fun a n z => by
    obtain ⟨o, q⟩ := e0.isS z
    rw [n] at q; cases q
  exact ⟨F2, s2, f2, e2, fun a z => rt a (rt2 a z), r2⟩
theorem s_asg {tg e : Expr} {f : Den} {t : Tgt} {T : List Nat} {pos : Pos} (hT : j0 = true → 0 ∉ T) (hs : swapsWithSole [tg] e pos.line X.env = pure false) (hw : swappedStores [tg] e X.env = pure none) (ns : notStar tg = true) (h : PE X e (LE X W f)) (hg : PG X tg (LG X T t)) :
    PS X (.Assign [tg] e pos) (LS X W j0 (sAsg f t)) := PS.imp (ps_asg h hg hs hw (asg_star ns [] X.env)) fun D σ H h =>
  sE_ok h fun ρ F r ρ1 v H1 F1 e q s1 e1 rt1 r1 h => by
    cases q2 : esc ρ1 r with
    | none => rw [q2] at h; exact h.elim
    | some p =>
      obtain ⟨d, ρ2⟩ := p
      simp only [q2] at h
      cases q3 : t d ρ2 with
      | none => simp only [q3] at h; exact h.elim
      | some ρ3 =>
        simp only [q3] at h
        obtain ⟨F2, s2, f2, e2, rt2, r2⟩ := esc_after (F0 := F) s1 e e1 rt1 r1 q2
        exact ⟨F2, ρ2, d, e2, r2, ρ3, q3, fun σ3 e3 rt3 io3 => h σ3 H1 F2 ⟨s2, e3, fun a z => .inl (rt2 a (rt3 a z)), fun z => io3.2 0 (hT z)⟩⟩

/-! ### x[i] = e, x an owned list -/
theorem sole_of {t e : Expr} (h : notLC e = true) (l : Nat) (env : Env) : swapsWithSole [t] e l env = pure false := swaps_of h (some t) l env
def notTup : Expr → Bool
  | .Tuple _ _ _ => false
  | _ => true
def notTupT : Expr → Bool
  | .Tuple _ _ _ => false
  | .List _ _ => false
  | _ => true
theorem swapped_none {t e : Expr} (h : (notTupT t || notTup e) = true) (env : Env) : swappedStores [t] e env = pure none := by
  cases t <;> cases e <;> first | rfl | cases h
def sItem (j : Nat) (fi fe : Den) : SDen := sE fe fun r ρ1 => match ρ1[j]? with
  | some (.own (.lst _)) => sE fi (fun ri ρ2 => match ri with
    | .d (.int k) => (match esc ρ2 r with
      | some (d, ρ3) => (match ρ3[j]? with
        | some (.own (.lst l)) => (match ixN l.length k with
          | some n => .nx (ρ3.set j (.own (.lst (l.set n d))))
          | none => .bad)
        | _ => .bad)
      | none => .bad)
    | _ => .bad) ρ1
  | _ => .bad
theorem s_item {j : Nat} {x : Str} {i e : Expr} {fi fe : Den} {p tpos pos : Pos} (hN : X.N[j]? = some x) (hv : Vis X.env.scope x) (hd : (x == ("__debug__" : Str)) = false) (hcd : (x == ("__classdict__" : Str)) = false)
    (hi : PE X i (LE X W fi)) (he : PE X e (LE X W fe)) (nl : notLC e = true)
    (ha : ∀ v, assign (.Subscript (.Name x p) i tpos) X.env v = (do
      let ov ← holding [v] (eval (.Name x p) X.env)
      let iv ← holding [v, ov] (eval i X.env)
      standAt tpos
      holding [v, ov, iv] (setItem ov iv v)
      release [v, ov, iv] []))
    : PS X (.Assign [.Subscript (.Name x p) i tpos] e pos) (LS X W j0 (sItem j fi fe)) :=
  PS.imp (ps_asg he (pg_sub (pe_var hN hv hd hcd) hi set_list ha) (sole_of nl _ X.env) (swapped_none rfl X.env) (asg_star rfl [] X.env)) fun Dn σ H h => by
    refine sE_ok (R := RRel X.K) h fun ρ F r ρ1 v H1 F1 e q s1 e1 rt1 r1 h => ?_
    cases q0 : ρ1[j]? with
    | none => simp only [q0] at h; exact h.elim
    | some sl0 =>
      cases sl0 with
      | no => simp only [q0] at h; exact h.elim
      | val x => simp only [q0] at h; exact h.elim
      | own d0 =>
        cases d0 with
        | lst l0 =>
          simp only [q0] at h
          obtain ⟨a, ha, ow0⟩ := e1.owned q0
          refine ⟨.ref a, ha, ?_⟩
          refine sE_from (R := RRel X.K) (After.of s1 e1 rt1) h fun ri ρ2 vi H2 F2 q' s2 e2 rt2 r2 h => ?_
          cases ri with
          | fresh z => exact h.elim
          | plc z => exact h.elim
          | d z =>
            cases z with
            | int k =>
              have r2 : Rep X.K H2 F2 (.int k) vi := r2
              rw [Rep] at r2
              subst r2
              have h : SPo X W j0 σ ρ H F Dn (match esc ρ2 r with
                | some (d, ρ3) => (match ρ3[j]? with
                  | some (.own (.lst l)) => (match ixN l.length k with
                    | some n => .nx (ρ3.set j (.own (.lst (l.set n d))))
                    | none => .bad)
                  | _ => .bad)
                | none => .bad) := h
              cases q2 : esc ρ2 r with
              | none => simp only [q2] at h; exact h.elim
              | some p =>
                obtain ⟨d, ρ3⟩ := p
                simp only [q2] at h
                have r1' : RRel X.K H H2 F2 σ r v := r1.noroot e s2 rt1
                have s12 : Stp (Root σ ρ) H F H2 F2 := s1.trans s2 fun a z => .inl (rt1 a z)
                obtain ⟨F3, s3, f3, e3, rt3, r3⟩ := esc_after (F0 := F) s12 e e2 (fun a z => rt1 a (rt2 a z)) r1' q2
                cases q3 : ρ3[j]? with
                | none => simp only [q3] at h; exact h.elim
                | some sl =>
                  cases sl with
                  | no => simp only [q3] at h; exact h.elim
                  | val x => simp only [q3] at h; exact h.elim
                  | own d3 =>
                    cases d3 with
                    | lst l =>
                      simp only [q3] at h
                      cases q4 : ixN l.length k with
                      | none => simp only [q4] at h; exact h.elim
                      | some n =>
                        simp only [q4] at h
                        obtain ⟨a', ha', ow⟩ := e3.owned q3
                        rw [ha] at ha'; cases ha'
                        obtain ⟨nf, us, eu, ru⟩ := id ow
                        refine ⟨a, us, k, n, rfl, rfl, eu, by rw [ru.length]; exact q4, ?_⟩
                        have s4 := stp_upd (o := .lst (us.set n v)) e3.trk ow
                        have rta : Root σ ρ a := rt3 a ⟨j, _, q3, ha⟩
                        have oa : Own X.K (upd H2 a (.lst (us.set n v))) F3 a (.lst (l.set n d)) := ⟨nf, _, upd_same, s4.fut.reps _ _ (ru.set n r3)⟩
                        have af : After X j0 σ ρ H F σ (ρ3.set j (.own (.lst (l.set n d)))) (upd H2 a (.lst (us.set n v))) F3 :=
                          .of (s3.trans s4 fun b z => by subst z; exact .inl rta) (e3.update q3 ha s4 oa) fun b z => rt3 b (root_upd q3 z)
                        exact h σ _ F3 af
                    | _ => simp only [q3] at h; exact h.elim
            | _ => exact h.elim
        | _ => simp only [q0] at h; exact h.elim
end
end DL
set_option maxHeartbeats 1000000
/-! DL, part 10: pairs stored at once; while; for; comprehensions. -/
namespace DL
open PySem PySem.Spec PyProof.Rows L2
section
variable {X : Cx} {W : WX} {j0 : Bool} {σ σ1 σ2 σ' : St} {H H' H0 H1 H2 : Hp} {F F' F0 F1 F2 : Addr → Prop} {ρ ρ' ρ1 ρ2 : DEnv} {S : Addr → Prop} {K : PySem.W.Frag} {Dn : Ends}
theorem swap2 {x y : Str} {px py pt pt2 : Pos} {kt k2 : Nat} {a b : Expr} {env : Env} (hk : env.scope.kind = .function) (hx : env.scope.names.lookup x = some .local) (hy : env.scope.names.lookup y = some .local) (hxy : (y == x) = false) (hl : (py.line == px.line) = true)
    (na : notStar a = true) (nb : notStar b = true) (hf : [a, b].all (foldedForSure 8) = false) (hc : [a, b].all (constantsAlone 8) = false) :
    swappedStores [.Tuple [.Name x px, .Name y py] kt pt] (.Tuple [a, b] k2 pt2) env = pure (some [x, y]) := by
  have hbk : env.blockKind = .function := by unfold Env.blockKind; rw [hk]; rfl
  have kx : env.kindOf x = some .local := hx
  have ky : env.kindOf y = some .local := hy
  unfold swappedStores
  simp only [List.any_cons, List.any_nil, hbk, hf, hc]
  simp [kx, ky, hl, List.filterMap, Expr.pos, List.eraseDups_cons, hxy]
  intro h
  exfalso
  rcases h with h | h
  · cases a <;> first | exact Bool.noConfusion h | cases na
  · cases b <;> first | exact Bool.noConfusion h | cases nb
def sPar (i j : Nat) (fs : List Den) : SDen := sE (dFrz fs) fun ds ρ1 => match ds with
  | [d, e] => .nx ((ρ1.set i (.val d)).set j (.val e))
  | _ => .bad
theorem s_par {i j : Nat} {x y : Str} {a b : Expr} {fs : List Den} {px py pt pt2 pos : Pos} {kt k2 : Nat} (hc : X.calm = true) (hN : X.N.Nodup) (hi : X.N[i]? = some x) (hj : X.N[j]? = some y) (hij : i ≠ j)
    (hx : X.env.scope.names.lookup x = some .local) (hy : X.env.scope.names.lookup y = some .local) (hk : X.env.scope.kind = .function) (hxy : (y == x) = false) (hl : (py.line == px.line) = true)
    (na : notStar a = true) (nb : notStar b = true) (hf : [a, b].all (foldedForSure 8) = false) (hcn : [a, b].all (constantsAlone 8) = false) (hio : j0 = true → i ≠ 0 ∧ j ≠ 0) (ha : PA X [a, b] (LA X W (dArgs fs))) :
    PS X (.Assign [.Tuple [.Name x px, .Name y py] kt pt] (.Tuple [a, b] k2 pt2) pos) (LS X W j0 (sPar i j fs)) :=
  PS.imp (ps_par hc hN hi hj hij hx hy (d_frz ha) (swap2 hk hx hy hxy hl na nb hf hcn)) fun Dn σ H h =>
    sE_ok h fun ρ F ds ρ1 vs H1 F1 e q s1 e1 rt1 r1 h => by
      match ds, h, r1 with
      | [d1, d2], h, r1 =>
        rw [Reps] at r1
        obtain ⟨v, tl, rfl, h1, r1⟩ := r1
        rw [Reps] at r1
        obtain ⟨u, tl, rfl, h2, r1⟩ := r1
        rw [Reps] at r1
        subst r1
        exact ⟨v, u, rfl, h _ H1 F1 ⟨s1, (e1.setVal h1).setVal h2, fun a z => .inl (rt1 a (root_setVal (root_setVal z))), fun z => by
          rw [List.getElem?_set_ne (hio z).2, List.getElem?_set_ne (hio z).1]⟩⟩
      | [], h, _ => exact h.elim
      | [_], h, _ => exact h.elim
      | _ :: _ :: _ :: _, h, _ => exact h.elim

/-! ### while -/
/-- at most n turns -/
def whileN (c : DEnv → Out Bool) (b : SDen) : Nat → DEnv → Option SOut
  | 0, _ => none
  | n + 1, ρ => match c ρ with
    | .bad => some .bad
    | .exc e ρ1 => some (.exc e ρ1)
    | .ok false ρ1 => some (.nx ρ1)
    | .ok true ρ1 => match b ρ1 with
      | .nx ρ2 => whileN c b n ρ2
      | .ct ρ2 => whileN c b n ρ2
      | .bk ρ2 => some (.nx ρ2)
      | o => some o
open Classical in
noncomputable def sWhile (c : DEnv → Out Bool) (b : SDen) : SDen := fun ρ => if h : ∃ n o, whileN c b n ρ = some o then Classical.choose (Classical.choose_spec h) else .bad
theorem whileN_mono {c : DEnv → Out Bool} {b : SDen} : ∀ {n : Nat} {ρ : DEnv} {o : SOut}, whileN c b n ρ = some o → ∀ k, whileN c b (n + k) ρ = some o
  | 0, ρ, o, h, k => by cases h
  | n + 1, ρ, o, h, k => by
    rw [Nat.add_right_comm]
    unfold whileN at h ⊢
    split at h <;> try exact h
    split at h <;> first | exact whileN_mono h k | exact h
theorem while_eq {c : DEnv → Out Bool} {b : SDen} {n : Nat} {ρ : DEnv} {o : SOut} (h : whileN c b n ρ = some o) : sWhile c b ρ = o := by
  have hx : ∃ n o, whileN c b n ρ = some o := ⟨n, o, h⟩
  unfold sWhile
  rw [dif_pos hx]
  have h2 := Classical.choose_spec (Classical.choose_spec hx)
  have a1 := whileN_mono h (Classical.choose hx)
  have a2 := whileN_mono h2 n
  rw [Nat.add_comm, a1] at a2
  exact (Option.some.inj a2).symm
theorem while_ok {c : DEnv → Out Bool} {b : SDen} (h : LS X W j0 (sWhile c b) Dn σ H) : tWhile (LT X W c) (LS X W j0 b) Dn σ H := by
  obtain ⟨F, ρ, e, h⟩ := h
  unfold sWhile at h
  split at h
  · rename_i hx
    obtain ⟨n, o, ho, e0⟩ : ∃ n o, whileN c b n ρ = some o ∧ SPo X W j0 σ ρ H F Dn o := ⟨_, _, Classical.choose_spec (Classical.choose_spec hx), h⟩
    refine ⟨fun m σ1 H1 => ∃ F1 ρ1, After X j0 σ ρ H F σ1 ρ1 H1 F1 ∧ whileN c b m ρ1 = some o, ⟨n, F, ρ, .refl e, ho⟩, ?_⟩
    rintro m σ1 H1 ⟨F1, ρ1, a1, hm⟩
    refine ⟨F1, ρ1, a1.er, ?_⟩
    cases m with
    | zero => cases hm
    | succ m =>
      unfold whileN at hm
      cases q : c ρ1 with
      | bad => simp only [q] at hm; cases hm; exact e0
      | exc x ρ2 =>
        simp only [q] at hm
        cases hm
        exact fun cls dx H2 F2 s2 e2 rt2 x2 => e0 cls dx σ1 H2 F2 (a1.trans (.of s2 e2 rt2)) x2
      | ok t ρ2 =>
        intro t' H2 F2 s2 e2 rt2 et
        subst et
        have a2 := a1.trans (.of s2 e2 rt2)
        cases t with
        | false =>
          simp only [q] at hm
          cases hm
          rw [if_neg Bool.false_ne_true]
          exact e0 σ1 H2 F2 a2
        | true =>
          simp only [q] at hm
          rw [if_pos rfl]
          refine ⟨fun σ3 H3 => ∃ m', m' < m + 1 ∧ ∃ F3 ρ3, After X j0 σ ρ H F σ3 ρ3 H3 F3 ∧ whileN c b m' ρ3 = some o, fun _ _ z => z, F2, ρ2, e2, ?_⟩
          cases q2 : b ρ2 with
          | bad => simp only [q2] at hm; cases hm; exact e0
          | nx ρ3 => simp only [q2] at hm; exact fun σ3 H3 F3 a3 => ⟨m, Nat.lt_succ_self _, F3, ρ3, a2.trans a3, hm⟩
          | ct ρ3 => simp only [q2] at hm; exact fun σ3 H3 F3 a3 => ⟨m, Nat.lt_succ_self _, F3, ρ3, a2.trans a3, hm⟩
          | bk ρ3 => simp only [q2] at hm; cases hm; exact fun σ3 H3 F3 a3 => e0 σ3 H3 F3 (a2.trans a3)
          | rt r ρ3 => simp only [q2] at hm; cases hm; exact SPo.from a2 e0
          | exc x ρ3 => simp only [q2] at hm; cases hm; exact SPo.from a2 e0
  · exact h.elim
theorem s_while {c : Expr} {body : List Stmt} {fc : DEnv → Out Bool} {fb : SDen} {pos : Pos} (hp : PassesOwn (model X.prog X.w) X.A X.env X.xe) (hc : PT X c (LT X W fc)) (hb : PSs X body (LS X W j0 fb)) : PS X (.While c body [] pos) (LS X W j0 (sWhile fc fb)) :=
  PS.imp (ps_while hp hc hb) fun _ _ _ h => while_ok h
end
end DL
set_option maxHeartbeats 1000000
/-! DL, part 11: what is walked; for. -/
namespace DL
open PySem PySem.Spec PyProof.Rows L2
/-- the iterator J yields these data, whatever happens meanwhile to what is not frozen -/
def ItRep (K : PySem.W.Frag) (H : Hp) (F : Addr → Prop) (ds : List D) (J : It) : Prop :=
  ∀ H1 F1 i, Fut H F H1 F1 → (∀ d, ds[i]? = some d → J.go i H1 ∧ ∀ x H2, J.yld i H1 x H2 → Stp (fun _ => False) H1 F1 H2 F1 ∧ Rep K H2 F1 d x) ∧ (ds.length ≤ i → J.stop i H1)
abbrev LI (X : Cx) (W : WX) (f : DEnv → Out (List D)) : TI := LO X W (fun _ H F _ ds J => ItRep X.K H F ds J) f
section
variable {X : Cx} {W : WX} {j0 : Bool} {σ σ1 σ2 σ' : St} {H H' H0 H1 H2 : Hp} {F F' F0 F1 F2 : Addr → Prop} {ρ ρ' ρ1 ρ2 : DEnv} {S : Addr → Prop} {K : PySem.W.Frag} {Dn : Ends}
theorem PI.imp {tg e : Expr} {t t' : TI} (h : PI X tg e t) (hi : ∀ σ H Q, t' σ H Q → t σ H Q) : PI X tg e t' := ⟨fun pins s σ H R I q => h.run pins s σ H R I (hi σ H R q)⟩
theorem PI.or {tg e : Expr} {t t' : TI} (h : PI X tg e t) (h' : PI X tg e t') : PI X tg e (fun σ H R => t σ H R ∨ t' σ H R) := ⟨fun pins s σ H R I q => q.elim (h.run pins s σ H R I) (h'.run pins s σ H R I)⟩

/-! ### the loop -/
def forL (t : Tgt) (b : SDen) : List D → DEnv → SOut
  | [], ρ => .nx ρ
  | d :: ds, ρ => match t d ρ with
    | none => .bad
    | some ρ1 => match b ρ1 with
      | .nx ρ2 => forL t b ds ρ2
      | .ct ρ2 => forL t b ds ρ2
      | .bk ρ2 => .nx ρ2
      | o => o
def sFor (fi : DEnv → Out (List D)) (t : Tgt) (b : SDen) : SDen := sE fi fun ds ρ1 => forL t b ds ρ1
theorem for_ok {fi : DEnv → Out (List D)} {t : Tgt} {T : List Nat} {b : SDen} (hT : j0 = true → 0 ∉ T) (h : LS X W j0 (sFor fi t b) Dn σ H) : tFor (LI X W fi) (LG X T t) (LS X W j0 b) Dn σ H :=
  sE_ok h fun ρ F ds ρ1 J H1 F1 e _ s1 e1 rt1 it h => by
    have a1 : After X j0 σ ρ H F σ ρ1 H1 F1 := .of s1 e1 rt1
    obtain ⟨o, ho, e0⟩ : ∃ o, forL t b ds ρ1 = o ∧ SPo X W j0 σ ρ H F Dn o := ⟨_, rfl, h⟩
    refine ⟨fun i m σ2 H2 => ∃ F2 ρ2, After X j0 σ ρ H F σ2 ρ2 H2 F2 ∧ Fut H1 F1 H2 F2 ∧ forL t b (ds.drop i) ρ2 = o ∧ m = ds.length - i, ⟨_, F1, ρ1, a1, Fut.refl, ho, rfl⟩, ?_⟩
    rintro i m σ2 H2 ⟨F2, ρ2, a2, f2, hf, rfl⟩
    obtain ⟨i1, i2⟩ := it H2 F2 i f2
    by_cases hi : i < ds.length
    · obtain ⟨go, yl⟩ := i1 ds[i] (List.getElem?_eq_getElem hi)
      refine .inr ⟨go, fun σ3 H3 => ∃ F3 ρ3, After X j0 σ ρ H F σ3 ρ3 H3 F3 ∧ Fut H1 F1 H3 F3 ∧ forL t b (ds.drop (i + 1)) ρ3 = o, fun σ3 H3 ⟨F3, ρ3, z⟩ => ⟨ds.length - (i + 1), by omega, F3, ρ3, z.1, z.2.1, z.2.2, rfl⟩, fun x H3 hy => ?_⟩
      obtain ⟨s3, r3⟩ := yl x H3 hy
      rw [List.drop_eq_getElem_cons hi] at hf
      unfold forL at hf
      have e3 : ER X.K H3 F2 σ2 ρ2 := a2.er.step s3 fun _ _ z => z
      have a3 : After X j0 σ ρ H F σ2 ρ2 H3 F2 := ⟨a2.stp.trans s3 fun _ z => z.elim, e3, a2.rt, a2.io⟩
      cases q : t ds[i] ρ2 with
      | none => simp only [q] at hf; subst hf; exact e0.elim
      | some ρ3 =>
        simp only [q] at hf
        refine ⟨F2, ρ2, _, e3, r3, ρ3, q, fun σ3 e3' rt3 io3 => ?_⟩
        have a4 : After X j0 σ ρ H F σ3 ρ3 H3 F2 := ⟨a3.stp, e3', fun a z => a3.rt a (rt3 a z), fun z => (io3.2 0 (hT z)).trans (a3.io z)⟩
        have f4 : Fut H1 F1 H3 F2 := f2.trans s3.fut
        refine ⟨F2, ρ3, e3', ?_⟩
        cases q2 : b ρ3 with
        | bad => simp only [q2] at hf; subst hf; exact e0.elim
        | nx ρ4 => simp only [q2] at hf; exact fun σ5 H5 F5 a5 => ⟨F5, ρ4, a4.trans a5, f4.trans a5.stp.fut, hf⟩
        | ct ρ4 => simp only [q2] at hf; exact fun σ5 H5 F5 a5 => ⟨F5, ρ4, a4.trans a5, f4.trans a5.stp.fut, hf⟩
        | bk ρ4 => simp only [q2] at hf; subst hf; exact fun σ5 H5 F5 a5 => e0 σ5 H5 F5 (a4.trans a5)
        | rt r ρ4 => simp only [q2] at hf; subst hf; exact SPo.from a4 e0
        | exc x ρ4 => simp only [q2] at hf; subst hf; exact SPo.from a4 e0
    · refine .inl ⟨i2 (by omega), ?_⟩
      rw [List.drop_eq_nil_of_le (by omega)] at hf
      unfold forL at hf
      subst hf
      exact e0 σ2 H2 F2 a2
theorem folded_of {e : Expr} (h : notSet e = true) (env : Env) (x : Value) : foldedSetIterable e env x = pure x := by
  cases e <;> first | rfl | cases h
theorem s_for {tg iter : Expr} {body : List Stmt} {fi : DEnv → Out (List D)} {t : Tgt} {T : List Nat} {fb : SDen} {pos : Pos} (hT : j0 = true → 0 ∉ T) (hp : PassesOwn (model X.prog X.w) X.A X.env X.xe) (hc : X.calm = true) (ns : notSet iter = true) (hi : PI X tg iter (LI X W fi)) (hg : PG X tg (LG X T t)) (hb : PSs X body (LS X W j0 fb)) :
    PS X (.For tg iter body [] pos) (LS X W j0 (sFor fi t fb)) := PS.imp (ps_for hp hc hi hg hb fun x => folded_of ns X.env x) fun _ _ _ h => for_ok hT h

/-! ### what is walked: a frozen list, a tuple, a text; a range -/
/-- the signs of a text -/
def signs (z : Str) : List D := z.cps.toList.map fun c => .str ⟨#[c]⟩
def itemsD : D → Option (List D)
  | .lst l => some l
  | .tup l => some l
  | .str z => some (signs z)
  | _ => none
def dIter (f : Den) : DEnv → Out (List D) := fun ρ => (f ρ).bind fun r ρ1 => match esc ρ1 r with
  | some (d, ρ2) => (match itemsD d with
    | some ds => .ok ds ρ2
    | none => .bad)
  | none => .bad
theorem Reps.inj_at {ds : List D} {vs us : List V} {i : Nat} {x : V} {d : D} (h : Reps K H F ds vs) (hd : ds[i]? = some d) (hx : vs[i]? = some x) : Rep K H F d x := by
  obtain ⟨v, hv, r⟩ := h.get hd
  rw [hx] at hv; cases hv
  exact r
theorem itrep_lst {a : Addr} {vs : List V} {ds : List D} (s : LsF K H F a vs) (r : Reps K H F ds vs) : ItRep K H F ds (Itl K a) := by
  intro H1 F1 i f
  have s1 : SqL K H1 a vs := (f.lsF s).sq
  refine ⟨fun d hd => ?_, fun hl => ⟨vs, s1, by rw [r.length]; exact hl⟩⟩
  obtain ⟨v, hv, rv⟩ := r.get hd
  refine ⟨⟨vs, v, s1, hv⟩, fun x H2 hy => ?_⟩
  obtain ⟨rfl, hx⟩ := hy
  have hx := hx vs s1
  rw [hv] at hx; cases hx
  exact ⟨stp0, f.rep _ _ rv⟩
theorem itrep_tup {a : Addr} {vs : List V} {ds : List D} (s : SqT K H a vs) (r : Reps K H F ds vs) : ItRep K H F ds (Itt K a) := by
  intro H1 F1 i f
  have s1 : SqT K H1 a vs := f.sqT s
  refine ⟨fun d hd => ?_, fun hl => ⟨vs, s1, by rw [r.length]; exact hl⟩⟩
  obtain ⟨v, hv, rv⟩ := r.get hd
  refine ⟨⟨vs, v, s1, hv⟩, fun x H2 hy => ?_⟩
  obtain ⟨rfl, hx⟩ := hy
  have hx := hx vs s1
  rw [hv] at hx; cases hx
  exact ⟨stp0, f.rep _ _ rv⟩
theorem itrep_str {z : Str} : ItRep K H F (signs z) (Its z) := by
  intro H1 F1 i f
  refine ⟨fun d hd => ?_, fun hl => ?_⟩
  · unfold signs at hd
    rw [List.getElem?_map] at hd
    cases q : z.cps.toList[i]? with
    | none => rw [q] at hd; cases hd
    | some c =>
      rw [q] at hd
      cases hd
      have q' : z.cps[i]? = some c := by simpa using q
      refine ⟨show i < z.cps.size by simpa using (Array.getElem?_eq_some_iff.mp q').1, fun x H2 hy => ?_⟩
      obtain ⟨rfl, c', hc, rfl⟩ := hy
      rw [q'] at hc; cases hc
      exact ⟨stp0, rep_flat rfl⟩
  · show z.cps.size ≤ i
    simpa [signs] using hl
theorem iter_ok {f : Den} {R : It → Hp → Prop} (h : LI X W (dIter f) σ H R) : iList X.K (LE X W f) σ H R ∨ iTup X.K (LE X W f) σ H R ∨ iStr (LE X W f) σ H R := by
  obtain ⟨F, ρ, e, h⟩ := h
  cases q : f ρ with
  | bad => unfold dIter at h; rw [q] at h; exact h.elim
  | exc x ρ1 =>
    unfold dIter at h; rw [q] at h
    exact .inl ⟨F, ρ, e, by rw [q]; exact h⟩
  | ok r ρ1 =>
    unfold dIter at h; rw [q] at h
    have h : OP X W (fun _ H F _ ds J => ItRep X.K H F ds J) σ ρ H F R (match esc ρ1 r with | some (d, ρ2) => (match itemsD d with | some ds => Out.ok ds ρ2 | none => .bad) | none => .bad) := h
    cases q2 : esc ρ1 r with
    | none => rw [q2] at h; exact h.elim
    | some p =>
      obtain ⟨d, ρ2⟩ := p
      simp only [q2] at h
      have main : ∀ v H1 F1, Stp (Root σ ρ) H F H1 F1 → ER X.K H1 F1 σ ρ1 → (∀ a, Root σ ρ1 a → Root σ ρ a) → RRel X.K H H1 F1 σ r v → ∃ F2, Stp (Root σ ρ) H F H1 F2 ∧ ER X.K H1 F2 σ ρ2 ∧ (∀ a, Root σ ρ2 a → Root σ ρ a) ∧ Rep X.K H1 F2 d v := fun v H1 F1 s1 e1 rt1 r1 => by
        obtain ⟨F2, s2, _, e2, rt2, r2⟩ := esc_after (F0 := F) s1 e e1 rt1 r1 q2
        exact ⟨F2, s2, e2, rt2, r2⟩
      cases d with
      | lst l =>
        simp only [itemsD] at h
        refine .inl ⟨F, ρ, e, ?_⟩
        rw [q]
        intro v H1 F1 s1 e1 rt1 r1
        obtain ⟨F2, s2, e2, rt2, r2⟩ := main v H1 F1 s1 e1 rt1 r1
        rw [Rep] at r2
        obtain ⟨a, vs, rfl, sl, rs⟩ := r2
        exact ⟨a, rfl, ⟨vs, sl.sq⟩, h _ H1 F2 s2 e2 rt2 (itrep_lst sl rs)⟩
      | tup l =>
        simp only [itemsD] at h
        refine .inr (.inl ⟨F, ρ, e, ?_⟩)
        rw [q]
        intro v H1 F1 s1 e1 rt1 r1
        obtain ⟨F2, s2, e2, rt2, r2⟩ := main v H1 F1 s1 e1 rt1 r1
        rw [Rep] at r2
        obtain ⟨a, vs, rfl, sl, rs⟩ := r2
        exact ⟨a, rfl, ⟨vs, sl⟩, h _ H1 F2 s2 e2 rt2 (itrep_tup sl rs)⟩
      | str z =>
        simp only [itemsD] at h
        refine .inr (.inr ⟨F, ρ, e, ?_⟩)
        rw [q]
        intro v H1 F1 s1 e1 rt1 r1
        obtain ⟨F2, s2, e2, rt2, r2⟩ := main v H1 F1 s1 e1 rt1 r1
        rw [Rep] at r2
        subst r2
        exact ⟨z, rfl, h _ H1 F2 s2 e2 rt2 itrep_str⟩
      | _ => simp only [itemsD] at h; exact h.elim
theorem i_any {tg e : Expr} {f : Den} (h : PE X e (LE X W f)) : PI X tg e (LI X W (dIter f)) := PI.imp (PI.or (pi_list h) (PI.or (pi_tup h) (pi_str h))) fun _ _ _ h => iter_ok h
/-- lo, lo + 1, .. -/
def rangeD (lo : Int) (n : Nat) : List D := (List.range n).map fun i => .int (lo + (i : Nat))
theorem itrep_rng {lo : Int} {n : Nat} : ItRep K H F (rangeD lo n) (Itr lo n) := by
  intro H1 F1 i f
  refine ⟨fun d hd => ?_, fun hl => show n ≤ i by simpa [rangeD] using hl⟩
  unfold rangeD at hd
  rw [List.getElem?_map] at hd
  cases q : (List.range n)[i]? with
  | none => rw [q] at hd; cases hd
  | some k =>
    rw [q] at hd
    cases hd
    have hk : i < n := by simpa using (List.getElem?_eq_some_iff.mp q).1
    have : k = i := by
      have := (List.getElem?_eq_some_iff.mp q).2
      simpa using this.symm
    subst this
    refine ⟨hk, fun x H2 hy => ?_⟩
    obtain ⟨rfl, rfl⟩ := hy
    exact ⟨stp0, rep_flat rfl⟩
def okInt (i : Int) : Bool := Nat.ble i.natAbs 1000000000000
/-- whole numbers alone -/
def intsR : List RV → Option (List Int)
  | [] => some []
  | .d (.int i) :: rs => (intsR rs).map fun l => i :: l
  | _ => none
theorem intsR_ok : ∀ {rs : List RV} {vs : List V} {l : List Int}, RRels K H0 H F σ rs vs → intsR rs = some l → vs = l.map V.int
  | [], vs, l, h, e => by cases e; exact h
  | r :: rs, vs, l, h, e => by
    obtain ⟨v, tl, rfl, h1, h2⟩ := h
    unfold intsR at e
    split at e
    · rename_i hh; cases hh
    · rename_i i rs' hh
      cases hh
      obtain ⟨l', hl, rfl⟩ := Option.map_eq_some_iff.mp e
      have h1 : Rep K H F (.int i) v := h1
      rw [Rep] at h1
      rw [h1, intsR_ok h2 hl]; rfl
    · cases e
def rngD : List Int → Option (List D)
  | [j] => if okInt j then some (rangeD 0 j.toNat) else none
  | [i, j] => if okInt i && okInt j then some (rangeD i (j - i).toNat) else none
  | _ => none
def dRng (fs : List Den) : DEnv → Out (List D) := fun ρ => (dArgs fs ρ).bind fun rs ρ1 => match (intsR rs).bind rngD with
  | some ds => .ok ds ρ1
  | none => .bad
theorem okInt_of {i : Int} (h : okInt i = true) : -(2 ^ 62) ≤ i ∧ i < 2 ^ 62 := by
  have := Nat.le_of_ble_eq_true h
  omega
theorem i_rng1 {tg a : Expr} {f : Den} {p pos : Pos} (hg : Gl X "range") (hm : X.mg "range" = none) (ns : notStar a = true) (h : PE X a (LE X W f)) : PI X tg (.Call (.Name "range" p) [a] [] pos) (LI X W (dRng [f])) :=
  PI.imp (pi_range1 hg hm (d_cons ns h d_nil) (star_of ns [] X.env)) fun σ H R h => by
    obtain ⟨F, ρ, e, h⟩ := h
    refine ⟨F, ρ, e, OP.seq e h fun rs ρ1 vs H1 F1 q0 s1 e1 rt1 r1 h => ?_⟩
    cases q : (intsR rs).bind rngD with
    | none => rw [q] at h; exact h.elim
    | some ds =>
      rw [q] at h
      obtain ⟨l, hl, hd⟩ := Option.bind_eq_some_iff.mp q
      have hv := intsR_ok r1 hl
      have hlen : l.length = 1 := by
        have h1 := r1.length
        rw [hv, List.length_map, dArgs_len q0] at h1
        exact h1
      match l, hlen with
      | [j], _ =>
        obtain ⟨ho, hd⟩ := ite_some (show (if okInt j = true then _ else none) = some ds from hd)
        cases hd
        exact ⟨j, hv, (okInt_of ho).1, (okInt_of ho).2, h _ H1 F1 s1 e1 rt1 itrep_rng⟩
theorem i_rng2 {tg a b : Expr} {f g : Den} {p pos : Pos} (hg : Gl X "range") (hm : X.mg "range" = none) (ns : notStar a = true) (nt : notStar b = true) (h : PE X a (LE X W f)) (h' : PE X b (LE X W g)) : PI X tg (.Call (.Name "range" p) [a, b] [] pos) (LI X W (dRng [f, g])) :=
  PI.imp (pi_range2 hg hm (d_cons ns h (d_cons nt h' d_nil)) (by rw [star_of ns, star_of nt]; rfl) (star_of nt [] X.env)) fun σ H R h => by
    obtain ⟨F, ρ, e, h⟩ := h
    refine ⟨F, ρ, e, OP.seq e h fun rs ρ1 vs H1 F1 q0 s1 e1 rt1 r1 h => ?_⟩
    cases q : (intsR rs).bind rngD with
    | none => rw [q] at h; exact h.elim
    | some ds =>
      rw [q] at h
      obtain ⟨l, hl, hd⟩ := Option.bind_eq_some_iff.mp q
      have hv := intsR_ok r1 hl
      have hlen : l.length = 2 := by
        have h1 := r1.length
        rw [hv, List.length_map, dArgs_len q0] at h1
        exact h1
      match l, hlen with
      | [i, j], _ =>
        obtain ⟨ho, hd⟩ := ite_some (show (if (okInt i && okInt j) = true then _ else none) = some ds from hd)
        cases hd
        rw [Bool.and_eq_true] at ho
        exact ⟨i, j, hv, ⟨(okInt_of ho.1).1, (okInt_of ho.1).2, (okInt_of ho.2).1, (okInt_of ho.2).2⟩, h _ H1 F1 s1 e1 rt1 itrep_rng⟩
end
end DL
set_option maxHeartbeats 1000000
/-! DL, part 12: comprehensions. -/
namespace DL
open PySem PySem.Spec PyProof.Rows L2
section
variable {X : Cx} {W : WX} {j0 : Bool} {σ σ1 σ2 σ' : St} {H H' H0 H1 H2 : Hp} {F F' F0 F1 F2 : Addr → Prop} {ρ ρ' ρ1 ρ2 : DEnv} {S : Addr → Prop} {K : PySem.W.Frag} {Dn : Ends}
def wipeD (ρ : DEnv) : List Nat → DEnv
  | [] => ρ
  | v :: vs => (wipeD ρ vs).set v .no
def unw (ρ1 ρ2 : DEnv) : List Nat → DEnv
  | [] => ρ2
  | v :: vs => match ρ1[v]? with
    | some s => (unw ρ1 ρ2 vs).set v s
    | none => unw ρ1 ρ2 vs
def dYes : DEnv → Out Bool := fun ρ => .ok true ρ
def compL (t : Tgt) (ff : DEnv → Out Bool) (fe : Den) (vs : List Nat) : List D → DEnv → List D → Out (List D)
  | [], ρ, acc => .ok acc ρ
  | d :: ds, ρ, acc => match t d (wipeD ρ vs) with
    | none => .bad
    | some ρ1 => match ff ρ1 with
      | .ok true ρ2 => (match fe ρ2 with
        | .ok r ρ3 => (match esc ρ3 r with
          | some (x, ρ4) => if okLen acc.length = true then compL t ff fe vs ds ρ4 (acc ++ [x]) else .bad
          | none => .bad)
        | _ => .bad)
      | .ok false ρ2 => compL t ff fe vs ds ρ2 acc
      | _ => .bad
def dComp (vs : List Nat) (fi : DEnv → Out (List D)) (t : Tgt) (ff : DEnv → Out Bool) (fe : Den) : Den := fun ρ => (fi ρ).bind fun ds ρ1 => match compL t ff fe vs ds ρ1 [] with
  | .ok acc ρ2 => .ok (.fresh (.lst acc)) (unw ρ1 ρ2 vs)
  | _ => .bad
theorem wipeD_len (ρ : DEnv) : ∀ vs : List Nat, (wipeD ρ vs).length = ρ.length
  | [] => rfl
  | v :: vs => by unfold wipeD; rw [List.length_set, wipeD_len ρ vs]
theorem wipeD_some {i : Nat} {s : Sl} (hs : s ≠ .no) : ∀ {vs : List Nat}, (wipeD ρ vs)[i]? = some s → ρ[i]? = some s ∧ i ∉ vs
  | [], h => ⟨h, by simp⟩
  | v :: vs, h => by
    unfold wipeD at h
    rcases getElem?_set_cases h with ⟨_, h⟩ | ⟨n, h⟩
    · exact absurd h hs
    · obtain ⟨h1, h2⟩ := wipeD_some hs h
      exact ⟨h1, by simp [n, h2]⟩
theorem wipeD_at {i : Nat} : ∀ {vs : List Nat}, i ∉ vs → (wipeD ρ vs)[i]? = ρ[i]?
  | [], _ => rfl
  | v :: vs, h => by
    unfold wipeD
    rw [List.getElem?_set_ne (fun e => h (by simp [e])), wipeD_at fun z => h (by simp [z])]
theorem wipe_at {σ : St} {i : Nat} : ∀ {vs : List Nat}, i ∉ vs → (wipe σ vs)[i]? = σ[i]?
  | [], _ => rfl
  | v :: vs, h => by
    unfold wipe
    rw [List.getElem?_set_ne (fun e => h (by simp [e])), wipe_at fun z => h (by simp [z])]
theorem wipe_in {σ : St} {i : Nat} : ∀ {vs : List Nat}, i ∈ vs → i < σ.length → (wipe σ vs)[i]? = some none
  | v :: vs, h, hl => by
    unfold wipe
    by_cases e : v = i
    · subst e
      exact List.getElem?_set_self (by rw [wipe_length]; exact hl)
    · rw [List.getElem?_set_ne e]
      exact wipe_in (by simpa [Ne.symm e] using h) hl
theorem wipe_same {σ σ2 : St} {vs : List Nat} (hl : σ2.length = σ.length) (h : ∀ i, i ∉ vs → σ2[i]? = (wipe σ vs)[i]?) : wipe σ2 vs = wipe σ vs := by
  apply List.ext_getElem?
  intro i
  by_cases hi : i ∈ vs
  · by_cases hb : i < σ.length
    · rw [wipe_in hi hb, wipe_in hi (by rw [hl]; exact hb)]
    · rw [List.getElem?_eq_none (by rw [wipe_length, hl]; omega), List.getElem?_eq_none (by rw [wipe_length]; omega)]
  · rw [wipe_at hi, h i hi]
theorem unw_len (ρ1 ρ2 : DEnv) : ∀ vs : List Nat, (unw ρ1 ρ2 vs).length = ρ2.length
  | [] => rfl
  | v :: vs => by
    unfold unw
    cases ρ1[v]? with
    | none => exact unw_len ρ1 ρ2 vs
    | some s => simp only [List.length_set]; exact unw_len ρ1 ρ2 vs
theorem unw_out {i : Nat} : ∀ {vs : List Nat}, i ∉ vs → (unw ρ1 ρ2 vs)[i]? = ρ2[i]?
  | [], _ => rfl
  | v :: vs, h => by
    unfold unw
    have nv : i ∉ vs := fun z => h (List.mem_cons_of_mem _ z)
    have ih := unw_out nv
    cases ρ1[v]? with
    | none => exact ih
    | some s =>
      show ((unw ρ1 ρ2 vs).set v s)[i]? = _
      rw [List.getElem?_set_ne (fun e => h (by simp [e]))]; exact ih
theorem unw_in {i : Nat} (hl : ρ1.length = ρ2.length) : ∀ {vs : List Nat}, i ∈ vs → (unw ρ1 ρ2 vs)[i]? = ρ1[i]?
  | v :: vs, h => by
    unfold unw
    by_cases e : v = i
    · subst e
      cases q : ρ1[v]? with
      | none =>
        show (unw ρ1 ρ2 vs)[v]? = none
        rw [List.getElem?_eq_none]
        rw [unw_len, ← hl]
        exact List.getElem?_eq_none_iff.mp q
      | some s =>
        show ((unw ρ1 ρ2 vs).set v s)[v]? = _
        exact List.getElem?_set_self (by rw [unw_len, ← hl]; exact (List.getElem?_eq_some_iff.mp q).1)
    · have ih := unw_in hl (vs := vs) (by simpa [Ne.symm e] using h)
      cases ρ1[v]? with
      | none => exact ih
      | some s =>
        show ((unw ρ1 ρ2 vs).set v s)[i]? = _
        rw [List.getElem?_set_ne e]; exact ih
theorem ER.wiped (e : ER K H F σ ρ) (vs : List Nat) : ER K H F (wipe σ vs) (wipeD ρ vs) := by
  refine ⟨by rw [wipe_length, wipeD_len]; exact e.len, fun i s h => ?_, e.trk, fun i j x y a h1 h2 h3 h4 => ?_⟩
  · cases s with
    | no => trivial
    | val d =>
      obtain ⟨h1, h2⟩ := wipeD_some (by simp) h
      rw [wipe_at h2]; exact e.at_ i _ h1
    | own d =>
      obtain ⟨h1, h2⟩ := wipeD_some (by simp) h
      rw [wipe_at h2]; exact e.at_ i _ h1
  · obtain ⟨g1, n1⟩ := wipeD_some (by simp) h1
    obtain ⟨g2, n2⟩ := wipeD_some (by simp) h2
    rw [wipe_at n1] at h3
    rw [wipe_at n2] at h4
    exact e.sep i j _ _ _ g1 g2 h3 h4
theorem root_wiped {vs : List Nat} {a : Addr} (h : Root (wipe σ vs) (wipeD ρ vs) a) : ∃ (i : Nat) (d : D), i ∉ vs ∧ ρ[i]? = some (.own d) ∧ σ[i]? = some (some (.ref a)) := by
  obtain ⟨i, d, h1, h2⟩ := h
  obtain ⟨g1, n1⟩ := wipeD_some (by simp) h1
  rw [wipe_at n1] at h2
  exact ⟨i, d, n1, g1, h2⟩
theorem root_wiped' {vs : List Nat} {a : Addr} (h : Root (wipe σ vs) (wipeD ρ vs) a) : Root σ ρ a := by
  obtain ⟨i, d, _, h1, h2⟩ := root_wiped h
  exact ⟨i, d, h1, h2⟩
/-- the outer environment behind the block -/
theorem ER.unwiped {vs : List Nat} (e1 : ER K H1 F1 σ ρ1) (s : Stp (Root (wipe σ vs) (wipeD ρ1 vs)) H1 F1 H2 F2) (e2 : ER K H2 F2 (wipe σ vs) (wipeD ρ2 vs)) (rt : ∀ a, Root (wipe σ vs) (wipeD ρ2 vs) a → Root (wipe σ vs) (wipeD ρ1 vs) a) :
    ER K H2 F2 σ (unw ρ1 ρ2 vs) ∧ ∀ a, Root σ (unw ρ1 ρ2 vs) a → Root σ ρ1 a := by
  have hl : ρ1.length = ρ2.length := by
    have h1 := e1.len
    have h2 := e2.len
    rw [wipe_length, wipeD_len] at h2
    omega
  have cases' : ∀ {i : Nat} {s : Sl}, (unw ρ1 ρ2 vs)[i]? = some s → (i ∈ vs ∧ ρ1[i]? = some s) ∨ (i ∉ vs ∧ ρ2[i]? = some s) := fun {i s} h => by
    by_cases hi : i ∈ vs
    · rw [unw_in hl hi] at h; exact .inl ⟨hi, h⟩
    · rw [unw_out hi] at h; exact .inr ⟨hi, h⟩
  have inner : ∀ {i : Nat} {d : D} {a : Addr}, i ∉ vs → ρ2[i]? = some (.own d) → σ[i]? = some (some (.ref a)) → ∃ (j : Nat) (d' : D), j ∉ vs ∧ ρ1[j]? = some (.own d') ∧ σ[j]? = some (some (.ref a)) := fun {i d a} hi h1 h2 =>
    root_wiped (rt a ⟨i, d, by rw [wipeD_at hi]; exact h1, by rw [wipe_at hi]; exact h2⟩)
  refine ⟨⟨by rw [unw_len, ← hl]; exact e1.len, fun i s' h => ?_, e2.trk, fun i j x y a h1 h2 h3 h4 => ?_⟩, fun a z => ?_⟩
  · rcases cases' h with ⟨hi, h⟩ | ⟨hi, h⟩
    · cases s' with
      | no => trivial
      | val d =>
        obtain ⟨v, hv, r⟩ := e1.slot h
        exact ⟨v, by rw [hv]; rfl, s.fut.rep _ _ r⟩
      | own d =>
        obtain ⟨a, ha, o⟩ := e1.owned h
        refine ⟨a, by rw [ha]; rfl, s.own o fun z => ?_⟩
        obtain ⟨j, d', hj, h1, h2⟩ := root_wiped z
        exact hj (e1.sep i j _ _ _ h h1 ha h2 ▸ hi)
    · have := e2.at_ i s' (by rw [wipeD_at hi]; exact h)
      rw [wipe_at hi] at this
      exact this
  · rcases cases' h1 with ⟨hi, g1⟩ | ⟨hi, g1⟩ <;> rcases cases' h2 with ⟨hj, g2⟩ | ⟨hj, g2⟩
    · exact e1.sep i j _ _ _ g1 g2 h3 h4
    · obtain ⟨k, d', hk, q1, q2⟩ := inner hj g2 h4
      exact absurd (e1.sep i k _ _ _ g1 q1 h3 q2 ▸ hi) hk
    · obtain ⟨k, d', hk, q1, q2⟩ := inner hi g1 h3
      exact absurd (e1.sep j k _ _ _ g2 q1 h4 q2 ▸ hj) hk
    · exact e2.sep i j _ _ _ (by rw [wipeD_at hi]; exact g1) (by rw [wipeD_at hj]; exact g2) (by rw [wipe_at hi]; exact h3) (by rw [wipe_at hj]; exact h4)
  · obtain ⟨i, d, h1, h2⟩ := z
    rcases cases' h1 with ⟨hi, g1⟩ | ⟨hi, g1⟩
    · exact ⟨i, d, g1, h2⟩
    · obtain ⟨j, d', _, q1, q2⟩ := inner hi g1 h2
      exact ⟨j, d', q1, q2⟩
theorem wipeD_wipeD {vs : List Nat} : wipeD (wipeD ρ vs) vs = wipeD ρ vs := by
  apply List.ext_getElem?
  intro i
  by_cases hi : i ∈ vs
  · have key : ∀ (ρ : DEnv) (us : List Nat), i ∈ us → (wipeD ρ us)[i]? = if i < ρ.length then some .no else none := fun ρ us => by
      induction us with
      | nil => intro h; cases h
      | cons u us ih =>
        intro h
        unfold wipeD
        by_cases e : u = i
        · subst e
          by_cases hl : u < ρ.length
          · rw [if_pos hl]; exact List.getElem?_set_self (by rw [wipeD_len]; exact hl)
          · rw [if_neg hl, List.getElem?_eq_none]; rw [List.length_set, wipeD_len]; omega
        · rw [List.getElem?_set_ne e]
          exact ih (by simpa [Ne.symm e] using h)
    rw [key _ _ hi, key _ _ hi, wipeD_len]
  · rw [wipeD_at hi]
theorem comp_ok {vs T : List Nat} {fi : DEnv → Out (List D)} {t : Tgt} {ff : DEnv → Out Bool} {fe : Den} {Q : VK} (hT : ∀ i ∈ T, i ∈ vs) (h : LE X W (dComp vs fi t ff fe) σ H Q) :
    tLc (LI X W fi) (LG X T t) (LT X (fun _ _ _ _ => False) ff) (LE X (fun _ _ _ _ => False) fe) vs σ H Q := by
  obtain ⟨F, ρ, e, h⟩ := h
  refine ⟨F, ρ, e, OP.seq e h fun ds ρ1 J H1 F1 _ s1 e1 rt1 it h => fun L hL => ?_⟩
  -- the new list at L
  have sL : Stp (Root (wipe σ vs) (wipeD ρ1 vs)) H1 F1 (upd H1 L (.lst [])) F1 := Stp.new hL (e1.wiped vs).mt
  have nFL : ¬ F1 L := nf_of e1.trk hL
  obtain ⟨o, ho, e0⟩ : ∃ o, compL t ff fe vs ds ρ1 [] = o ∧ OP X W (RRel X.K) σ ρ H F Q (match o with | .ok acc ρ2 => .ok (.fresh (.lst acc)) (unw ρ1 ρ2 vs) | _ => .bad) := ⟨_, rfl, h⟩
  have dead : ∀ {p : Prop}, o = .bad → p := fun q => by subst q; exact e0.elim
  refine ⟨fun i m H2 => ∃ F2 ρ2 acc us, ER X.K H2 F2 (wipe σ vs) (wipeD ρ2 vs) ∧ Stp (Root (wipe σ vs) (wipeD ρ1 vs)) H1 F1 H2 F2 ∧ (∀ a, Root (wipe σ vs) (wipeD ρ2 vs) a → Root (wipe σ vs) (wipeD ρ1 vs) a) ∧
      H2 L = some (.lst us) ∧ ¬ F2 L ∧ Reps X.K H2 F2 acc us ∧ compL t ff fe vs (ds.drop i) ρ2 acc = o ∧ m = ds.length - i,
    ⟨_, F1, ρ1, [], [], (e1.wiped vs).step (Stp.new (S := fun _ => False) hL fun _ z => z.elim) fun _ _ z => z, sL, fun _ z => z, upd_same, nFL, Reps.nil, ho, rfl⟩, ?_⟩
  rintro i m H2 ⟨F2, ρ2, acc, us, e2, s2, rt2, hL2, nF2, r2, hc, rfl⟩
  obtain ⟨i1, i2⟩ := it H2 F2 i s2.fut
  have nR : ¬ Root (wipe σ vs) (wipeD ρ1 vs) L := fun z => by
    obtain ⟨o, q⟩ := (e1.wiped vs).isS z
    rw [hL] at q; cases q
  by_cases hi : i < ds.length
  · obtain ⟨go, yl⟩ := i1 ds[i] (List.getElem?_eq_getElem hi)
    refine .inr ⟨go, fun H3 => ∃ F3 ρ3 acc us, ER X.K H3 F3 (wipe σ vs) (wipeD ρ3 vs) ∧ Stp (Root (wipe σ vs) (wipeD ρ1 vs)) H1 F1 H3 F3 ∧ (∀ a, Root (wipe σ vs) (wipeD ρ3 vs) a → Root (wipe σ vs) (wipeD ρ1 vs) a) ∧
      H3 L = some (.lst us) ∧ ¬ F3 L ∧ Reps X.K H3 F3 acc us ∧ compL t ff fe vs (ds.drop (i + 1)) ρ3 acc = o,
      fun H3 ⟨F3, ρ3, acc3, us3, z1, z2, z3, z4, z5, z6, z7⟩ => ⟨ds.length - (i + 1), by omega, F3, ρ3, acc3, us3, z1, z2, z3, z4, z5, z6, z7, rfl⟩, fun x H3 hy => ?_⟩
    obtain ⟨s3, r3⟩ := yl x H3 hy
    rw [List.drop_eq_getElem_cons hi] at hc
    unfold compL at hc
    have e3 : ER X.K H3 F2 (wipe σ vs) (wipeD ρ2 vs) := e2.step s3 fun _ _ z => z
    cases q : t ds[i] (wipeD ρ2 vs) with
    | none => simp only [q] at hc; exact dead hc.symm
    | some ρ3 =>
      simp only [q] at hc
      refine ⟨F2, wipeD ρ2 vs, _, e3, r3, ρ3, q, fun σ3 e3' rt3 io3 => ?_⟩
      have hw : wipe σ3 vs = wipe σ vs := wipe_same (by rw [io3.1, wipe_length]) fun j hj => io3.2 j fun z => hj (hT j z)
      refine ⟨hw, F2, ρ3, e3', ?_⟩
      have hL3 : H3 L = some (.lst us) := s3.keep L _ hL2 fun z => z
      have rt3w : ∀ a, Root σ3 ρ3 a → Root (wipe σ vs) (wipeD ρ1 vs) a := fun a z => rt2 a (rt3 a z)
      have s13 : Stp (Root (wipe σ vs) (wipeD ρ1 vs)) H1 F1 H3 F2 := s2.trans s3 fun _ z => z.elim
      cases q2 : ff ρ3 with
      | bad => simp only [q2] at hc; exact dead hc.symm
      | exc z ρ4 => simp only [q2] at hc; exact dead hc.symm
      | ok b ρ4 =>
        intro c H4 F4 s4 e4 rt4 eb
        subst eb
        have s14 : Stp (Root (wipe σ vs) (wipeD ρ1 vs)) H1 F1 H4 F4 := s13.trans s4 fun a z => .inl (rt3w a z)
        have hL4 : H4 L = some (.lst us) := s4.keep L _ hL3 fun z => nR (rt3w L z)
        have rt4w : ∀ a, Root σ3 ρ4 a → Root (wipe σ vs) (wipeD ρ1 vs) a := fun a z => rt3w a (rt4 a z)
        have nF4 : ¬ F4 L := fun z => by
          rcases s4.back L z with z | z | z
          · exact nF2 z
          · rw [hL3] at z; cases z
          · exact nR (rt3w L z)
        cases b with
        | false =>
          simp only [q2] at hc
          rw [if_neg Bool.false_ne_true]
          have ew := e4.wiped vs
          rw [hw] at ew
          refine ⟨F4, ρ4, acc, us, ew, s14, fun a z => ?_, hL4, nF4, s4.fut.reps _ _ (s3.fut.reps _ _ r2), hc⟩
          rw [← hw] at z
          exact rt4w a (root_wiped' z)
        | true =>
          simp only [q2] at hc
          rw [if_pos rfl]
          refine ⟨F4, ρ4, e4, ?_⟩
          cases q3 : fe ρ4 with
          | bad => simp only [q3] at hc; exact dead hc.symm
          | exc z ρ5 => simp only [q3] at hc; exact dead hc.symm
          | ok r ρ5 =>
            simp only [q3] at hc
            intro y H5 F5 s5 e5 rt5 r5
            cases q4 : esc ρ5 r with
            | none => simp only [q4] at hc; exact dead hc.symm
            | some p =>
              obtain ⟨d6, ρ6⟩ := p
              simp only [q4] at hc
              obtain ⟨F6, s6, f6, e6, rt6, r6⟩ := esc_after (F0 := F4) s5 e4 e5 rt5 r5 q4
              cases q5 : okLen acc.length with
              | false => rw [q5] at hc; simp at hc; exact dead hc.symm
              | true =>
                rw [q5, if_pos rfl] at hc
                have hL5 : H5 L = some (.lst us) := s6.keep L _ hL4 fun z => nR (rt4w L z)
                have nF6 : ¬ F6 L := fun z => by
                  rcases s6.back L z with z | z | z
                  · exact nF4 z
                  · rw [hL4] at z; cases z
                  · exact nR (rt4w L z)
                have ra : Reps X.K H5 F6 acc us := s6.fut.reps _ _ (s4.fut.reps _ _ (s3.fut.reps _ _ r2))
                have ow : Own X.K H5 F6 L (.lst acc) := ⟨nF6, us, hL5, ra⟩
                refine ⟨us, hL5, by rw [ra.length]; exact okLen_lt q5, ?_⟩
                have s7 := stp_upd (o := .lst (us ++ [y])) e6.trk ow
                have rt6w : ∀ a, Root σ3 ρ6 a → Root (wipe σ vs) (wipeD ρ1 vs) a := fun a z => rt4w a (rt6 a z)
                have e7 := (e6.step s7 fun a z q => by subst q; exact nR (rt6w _ z)).wiped vs
                rw [hw] at e7
                refine ⟨F6, ρ6, acc ++ [d6], us ++ [y], e7, (s14.trans s6 fun a z => .inl (rt4w a z)).trans s7 fun a z => by subst z; exact .inr hL, fun a z => ?_, upd_same, nF6, s7.fut.reps _ _ (ra.append (Reps.cons r6 Reps.nil)), hc⟩
                rw [← hw] at z
                exact rt6w a (root_wiped' z)
  · refine .inl ⟨i2 (by omega), ?_⟩
    rw [List.drop_eq_nil_of_le (by omega)] at hc
    unfold compL at hc
    subst hc
    obtain ⟨e9, rt9⟩ := e1.unwiped s2 e2 rt2
    exact e0 (.ref L) H2 F2 (s1.trans s2 fun a z => .inl (rt1 a (root_wiped' z))) e9 (fun a z => rt1 a (rt9 a z)) ⟨L, rfl, s1.new_of hL, nF2, us, hL2, r2⟩
end
end DL
set_option maxHeartbeats 1000000
/-! DL, part 13: built-ins. -/
namespace DL
open PySem PySem.Spec PyProof.Rows L2
theorem d_comp {X : Cx} {W : WX} {vs T : List Nat} {fi : DEnv → Out (List D)} {t : Tgt} {ff : DEnv → Out Bool} {fe : Den} {elt tg iter : Expr} {ifs : List Expr} {scope : Scope} {own : List (Str × Nat)} {pos : Pos} (hc : X.calm = true) (hN : X.N.Nodup) (ho : own.map (·.2) = vs) (hT : ∀ i ∈ T, i ∈ vs) (ns : notSet iter = true)
    (hi : PI X tg iter (LI X W fi)) (ok : BlkOk X.N X.env.scope scope own)
    (hg : ∀ (s : Shared) (H : Hp) (C : Addr) (cl : List (Str × Addr)) (fp : List Addr), PG (X.blk s H scope (compEnvC scope cl C X.env) fp) tg (LG X T t))
    (ht : ∀ (s : Shared) (H : Hp) (C : Addr) (cl : List (Str × Addr)) (fp : List Addr), PTs (X.blk s H scope (compEnvC scope cl C X.env) fp) ifs (LT X (fun _ _ _ _ => False) ff))
    (he : ∀ (s : Shared) (H : Hp) (C : Addr) (cl : List (Str × Addr)) (fp : List Addr), PE (X.blk s H scope (compEnvC scope cl C X.env) fp) elt (LE X (fun _ _ _ _ => False) fe)) :
    PE X (.ListComp elt [⟨tg, iter, ifs, 0⟩] scope pos) (LE X W (dComp vs fi t ff fe)) :=
  PE.imp (pe_lc hc hN hi ok hg ht he fun x => folded_of ns X.env x) fun σ H Q h => by
    rw [ho]
    exact comp_ok hT h
theorem s_comp {X : Cx} {W : WX} {j0 : Bool} {vs T : List Nat} {i : Nat} {y : Str} {py : Pos} {fi : DEnv → Out (List D)} {t : Tgt} {ff : DEnv → Out Bool} {fe : Den} {elt tg iter : Expr} {ifs : List Expr} {scope : Scope} {own : List (Str × Nat)} {pos spos : Pos} (hc : X.calm = true) (hN : X.N.Nodup) (hy : X.N[i]? = some y) (hyl : X.env.scope.names.lookup y = some .local)
    (hsw : swapsWith (.ListComp elt [⟨tg, iter, ifs, 0⟩] scope pos) (some (.Name y py)) spos.line X.env = pure true) (ho : own.map (·.2) = vs) (hT : ∀ i ∈ T, i ∈ vs) (ns : notSet iter = true) (hio : j0 = true → i ≠ 0)
    (hi : PI X tg iter (LI X W fi)) (ok : BlkOk X.N X.env.scope scope own)
    (hg : ∀ (s : Shared) (H : Hp) (C : Addr) (cl : List (Str × Addr)) (fp : List Addr), PG (X.blk s H scope (compEnvC scope cl C X.env) fp) tg (LG X T t))
    (ht : ∀ (s : Shared) (H : Hp) (C : Addr) (cl : List (Str × Addr)) (fp : List Addr), PTs (X.blk s H scope (compEnvC scope cl C X.env) fp) ifs (LT X (fun _ _ _ _ => False) ff))
    (he : ∀ (s : Shared) (H : Hp) (C : Addr) (cl : List (Str × Addr)) (fp : List Addr), PE (X.blk s H scope (compEnvC scope cl C X.env) fp) elt (LE X (fun _ _ _ _ => False) fe)) :
    PS X (.Assign [.Name y py] (.ListComp elt [⟨tg, iter, ifs, 0⟩] scope pos) spos) (LS X W j0 (sSet i (dComp vs fi t ff fe))) :=
  PS.imp (ps_setLc hc hN hy hyl hsw hi ok hg ht he fun x => folded_of ns X.env x) fun D σ H h => by
    rw [ho]
    refine comp_ok hT (sE_ok h fun ρ F r ρ1 v H1 F1 e q s1 e1 rt1 r1 h => ?_)
    cases q2 : setR i r ρ1 with
    | none => rw [q2] at h; exact h.elim
    | some ρ' =>
      rw [q2] at h
      obtain ⟨F2, a⟩ := set_ok (j0 := j0) s1 e e1 rt1 r1 q2 hio
      exact h _ _ F2 a
section
variable {X : Cx} {W : WX} {j0 : Bool} {σ σ1 σ2 σ' : St} {H H' H0 H1 H2 : Hp} {F F' F0 F1 F2 : Addr → Prop} {ρ ρ' ρ1 ρ2 : DEnv} {S : Addr → Prop} {K : PySem.W.Frag} {Dn : Ends}
theorem t_nil : PTs X [] (LT X W dYes) := ⟨fun pins s σ H Q I h => pts_nil.run pins s σ H Q I (by
  obtain ⟨F, ρ, e, h⟩ := h
  exact h true H F e.refl e (fun _ z => z) rfl)⟩
theorem t_one {c : Expr} {f : DEnv → Out Bool} (h : PT X c (LT X W f)) : PTs X [c] (LT X W f) := pts_one h

/-! ### built-ins of one argument -/
theorem opTn {r : List V → Hp → VK → Prop} {o : Op} (h : ∀ (H : Hp) (F : Addr → Prop) (d : D) (x : V) (res : RV) (Q : VK), (∀ a, F a → ∃ o, H a = some o) → View X.K H F d x → o [d] = some res →
    (∀ v H' F', Stp (fun _ => False) H F H' F' → RRel X.K H H' F' [] res v → Q v H') → r [x] H Q) (hl : ∀ ds res, o ds = some res → ∃ d, ds = [d]) : OpT X r o := by
  intro H F ds vs res Q ht hv ho hQ
  obtain ⟨d, rfl⟩ := hl ds res ho
  obtain ⟨x, rfl, h1⟩ := views1 hv
  exact h H F d x res Q ht h1 ho hQ
def oLen : Op
  | [.str z] => if okLen z.length then dat (.int z.length) else none
  | [.tup l] => dat (.int l.length)
  | [.lst l] => dat (.int l.length)
  | _ => none
theorem od_len : OpT X (fun xs H Q => ∃ x n, xs = [x] ∧ LenV X.K x H n ∧ Q (.int n) H) oLen := by
  refine opTn (fun H F d x res Q ht h1 ho hQ => ?_) fun ds res h => ?_
  · unfold oLen at ho
    split at ho
    · rename_i z hh
      cases hh
      obtain ⟨hc, ho⟩ := ite_some ho
      exact ⟨x, _, rfl, by rw [h1.str]; exact ⟨okLen_le hc, rfl⟩, give ho rfl hQ⟩
    · rename_i l hh
      cases hh
      obtain ⟨a, vs, rfl, s1, r1⟩ := h1.tup
      refine ⟨_, vs.length, rfl, .inr ⟨vs, s1, rfl⟩, ?_⟩
      rw [r1.length]
      exact give ho rfl hQ
    · rename_i l hh
      cases hh
      obtain ⟨a, vs, rfl, s1, r1⟩ := h1.lst
      refine ⟨_, vs.length, rfl, .inl ⟨vs, s1, rfl⟩, ?_⟩
      rw [r1.length]
      exact give ho rfl hQ
    · cases ho
  · unfold oLen at h
    split at h <;> first | exact ⟨_, rfl⟩ | cases h
def oAbs : Op
  | [.int i] => dat (.int (if i < 0 then -i else i))
  | _ => none
theorem od_abs : OpT X (fun xs H Q => ∃ i, xs = [.int i] ∧ Q (.int (if i < 0 then -i else i)) H) oAbs := by
  refine opTn (fun H F d x res Q ht h1 ho hQ => ?_) fun ds res h => ?_
  · unfold oAbs at ho
    split at ho
    · rename_i z hh
      cases hh
      exact ⟨z, by rw [h1.int], give ho rfl hQ⟩
    · cases ho
  · unfold oAbs at h
    split at h <;> first | exact ⟨_, rfl⟩ | cases h
def oInt : Op
  | [.int i] => dat (.int i)
  | [.bl b] => dat (.int (if b then 1 else 0))
  | _ => none
theorem od_int1 : OpT X (fun xs H Q => (∃ i, xs = [.int i] ∧ Q (.int i) H) ∨ ∃ k, xs = [.bl k] ∧ Q (.int (if k then 1 else 0)) H) oInt := by
  refine opTn (fun H F d x res Q ht h1 ho hQ => ?_) fun ds res h => ?_
  · unfold oInt at ho
    split at ho
    · rename_i z hh
      cases hh
      exact .inl ⟨z, by rw [h1.int], give ho rfl hQ⟩
    · rename_i z hh
      cases hh
      exact .inr ⟨z, by rw [h1.bl], give ho rfl hQ⟩
    · cases ho
  · unfold oInt at h
    split at h <;> first | exact ⟨_, rfl⟩ | cases h
def oList : Op
  | [.lst l] => some (.fresh (.lst l))
  | [.tup l] => some (.fresh (.lst l))
  | _ => none
theorem od_list : OpT X (fun xs H Q => ∃ p ys, xs = [.ref p] ∧ (SqL X.K H p ys ∨ SqT X.K H p ys) ∧ ∀ l, H l = none → Q (.ref l) (upd H l (.lst ys))) oList := by
  refine opTn (fun H F d x res Q ht h1 ho hQ => ?_) fun ds res h => ?_
  · unfold oList at ho
    split at ho
    · rename_i l hh
      cases hh
      cases ho
      obtain ⟨a, vs, rfl, s1, r1⟩ := h1.lst
      exact ⟨a, vs, rfl, .inl s1, fun p hp => give_lst hp (nf_of ht hp) r1 hQ⟩
    · rename_i l hh
      cases hh
      cases ho
      obtain ⟨a, vs, rfl, s1, r1⟩ := h1.tup
      exact ⟨a, vs, rfl, .inr s1, fun p hp => give_lst hp (nf_of ht hp) r1 hQ⟩
    · cases ho
  · unfold oList at h
    split at h <;> first | exact ⟨_, rfl⟩ | cases h
def oTuple : Op
  | [.lst l] => dat (.tup l)
  | [.tup l] => dat (.tup l)
  | _ => none
theorem od_tuple : OpT X (fun xs H Q => ∃ p ys, xs = [.ref p] ∧ ((SqL X.K H p ys ∧ ∀ l, H l = none → Q (.ref l) (upd H l (.tup ys))) ∨ (SqT X.K H p ys ∧ Q (.ref p) H))) oTuple := by
  refine opTn (fun H F d x res Q ht h1 ho hQ => ?_) fun ds res h => ?_
  · unfold oTuple at ho
    split at ho
    · rename_i l hh
      cases hh
      cases ho
      obtain ⟨a, vs, rfl, s1, r1⟩ := h1.lst
      exact ⟨a, vs, rfl, .inl ⟨s1, fun p hp => give_tup hp r1 hQ⟩⟩
    · rename_i l hh
      cases hh
      cases ho
      obtain ⟨a, vs, rfl, s1, r1⟩ := h1.tup
      refine ⟨a, vs, rfl, .inr ⟨s1, hQ _ H F stp0 ?_⟩⟩
      show Rep _ _ _ (.tup l) _
      rw [Rep]
      exact ⟨a, vs, rfl, s1, r1⟩
    · cases ho
  · unfold oTuple at h
    split at h <;> first | exact ⟨_, rfl⟩ | cases h
/-! sums, any, all of lists -/
def intsD : List D → Option (List Int)
  | [] => some []
  | .int i :: l => (intsD l).map fun r => i :: r
  | _ => none
def blsD : List D → Option (List Bool)
  | [] => some []
  | .bl i :: l => (blsD l).map fun r => i :: r
  | _ => none
theorem Reps.ints : ∀ {l : List D} {vs : List V} {ns : List Int}, Reps K H F l vs → intsD l = some ns → vs = ns.map V.int
  | [], vs, ns, h, e => by cases e; rw [Reps] at h; exact h
  | d :: l, vs, ns, h, e => by
    rw [Reps] at h
    obtain ⟨v, r, rfl, h1, h2⟩ := h
    unfold intsD at e
    split at e
    · rename_i hh; cases hh
    · rename_i i l' hh
      cases hh
      obtain ⟨ns', hn, rfl⟩ := Option.map_eq_some_iff.mp e
      rw [Rep] at h1
      rw [h1, Reps.ints h2 hn]; rfl
    · cases e
theorem Reps.bls : ∀ {l : List D} {vs : List V} {ns : List Bool}, Reps K H F l vs → blsD l = some ns → vs = ns.map V.bl
  | [], vs, ns, h, e => by cases e; rw [Reps] at h; exact h
  | d :: l, vs, ns, h, e => by
    rw [Reps] at h
    obtain ⟨v, r, rfl, h1, h2⟩ := h
    unfold blsD at e
    split at e
    · rename_i hh; cases hh
    · rename_i i l' hh
      cases hh
      obtain ⟨ns', hn, rfl⟩ := Option.map_eq_some_iff.mp e
      rw [Rep] at h1
      rw [h1, Reps.bls h2 hn]; rfl
    · cases e
def oSum : Op
  | [.lst l] => (intsD l).map fun ns => .d (.int ns.sum)
  | _ => none
theorem od_sum : OpT X (rSum X.K) oSum := by
  refine opTn (fun H F d x res Q ht h1 ho hQ => ?_) fun ds res h => ?_
  · unfold oSum at ho
    split at ho
    · rename_i l hh
      cases hh
      obtain ⟨ns, hn, rfl⟩ := Option.map_eq_some_iff.mp ho
      obtain ⟨a, vs, rfl, s1, r1⟩ := h1.lst
      exact ⟨a, ns, rfl, by rw [← r1.ints hn]; exact s1, hQ _ H F stp0 (rep_flat rfl)⟩
    · cases ho
  · unfold oSum at h
    split at h <;> first | exact ⟨_, rfl⟩ | cases h
def oAny : Op
  | [.lst l] => (blsD l).map fun ns => .d (.bl (ns.any id))
  | _ => none
def oAll : Op
  | [.lst l] => (blsD l).map fun ns => .d (.bl (ns.all id))
  | _ => none
theorem od_any : OpT X (rAny X.K) oAny := by
  refine opTn (fun H F d x res Q ht h1 ho hQ => ?_) fun ds res h => ?_
  · unfold oAny at ho
    split at ho
    · rename_i l hh
      cases hh
      obtain ⟨ns, hn, rfl⟩ := Option.map_eq_some_iff.mp ho
      obtain ⟨a, vs, rfl, s1, r1⟩ := h1.lst
      exact ⟨a, ns, rfl, by rw [← r1.bls hn]; exact s1, hQ _ H F stp0 (rep_flat rfl)⟩
    · cases ho
  · unfold oAny at h
    split at h <;> first | exact ⟨_, rfl⟩ | cases h
theorem od_all : OpT X (rAll X.K) oAll := by
  refine opTn (fun H F d x res Q ht h1 ho hQ => ?_) fun ds res h => ?_
  · unfold oAll at ho
    split at ho
    · rename_i l hh
      cases hh
      obtain ⟨ns, hn, rfl⟩ := Option.map_eq_some_iff.mp ho
      obtain ⟨a, vs, rfl, s1, r1⟩ := h1.lst
      exact ⟨a, ns, rfl, by rw [← r1.bls hn]; exact s1, hQ _ H F stp0 (rep_flat rfl)⟩
    · cases ho
  · unfold oAll at h
    split at h <;> first | exact ⟨_, rfl⟩ | cases h
/-! least, greatest -/
def leastI : List Int → Int
  | [] => 0
  | [i] => i
  | i :: l => if leastI l < i then leastI l else i
def greatI : List Int → Int
  | [] => 0
  | [i] => i
  | i :: l => if i < greatI l then greatI l else i
theorem leastI_ok : ∀ (i : Int) (l : List Int), leastI (i :: l) ∈ i :: l ∧ ∀ y ∈ i :: l, leastI (i :: l) ≤ y
  | i, [] => ⟨by simp [leastI], by simp [leastI]⟩
  | i, j :: l => by
    obtain ⟨h1, h2⟩ := leastI_ok j l
    show (if leastI (j :: l) < i then leastI (j :: l) else i) ∈ _ ∧ ∀ y ∈ i :: j :: l, (if leastI (j :: l) < i then leastI (j :: l) else i) ≤ y
    split
    · refine ⟨List.mem_cons_of_mem _ h1, fun y hy => ?_⟩
      rcases List.mem_cons.mp hy with rfl | hy
      · omega
      · exact h2 y hy
    · refine ⟨List.mem_cons_self, fun y hy => ?_⟩
      rcases List.mem_cons.mp hy with rfl | hy
      · omega
      · have := h2 y hy; omega
theorem greatI_ok : ∀ (i : Int) (l : List Int), greatI (i :: l) ∈ i :: l ∧ ∀ y ∈ i :: l, y ≤ greatI (i :: l)
  | i, [] => ⟨by simp [greatI], by simp [greatI]⟩
  | i, j :: l => by
    obtain ⟨h1, h2⟩ := greatI_ok j l
    show (if i < greatI (j :: l) then greatI (j :: l) else i) ∈ _ ∧ ∀ y ∈ i :: j :: l, y ≤ (if i < greatI (j :: l) then greatI (j :: l) else i)
    split
    · refine ⟨List.mem_cons_of_mem _ h1, fun y hy => ?_⟩
      rcases List.mem_cons.mp hy with rfl | hy
      · omega
      · exact h2 y hy
    · refine ⟨List.mem_cons_self, fun y hy => ?_⟩
      rcases List.mem_cons.mp hy with rfl | hy
      · omega
      · have := h2 y hy; omega
def max3I (i j k : Int) : Int := if (if i < j then j else i) < k then k else (if i < j then j else i)
theorem nuMax3_int (i j k : Int) : nuMax3 (.int i) (.int j) (.int k) = some (.int (max3I i j k)) := by
  have e : ∀ a b : Int, nuMax2 (.int a) (.int b) = some (.int (if a < b then b else a)) := fun a b => by
    show some (if decide (a < b) = true then V.int b else .int a) = _
    by_cases h : a < b <;> simp [h]
  unfold nuMax3
  rw [e, Option.bind_some, e]
  rfl
def oMax : Op
  | [.int i, .int j] => dat (.int (if j > i then j else i))
  | [.int i, .int j, .int k] => dat (.int (max3I i j k))
  | [.lst l] => match intsD l with
    | some (i :: ns) => dat (.int (greatI (i :: ns)))
    | _ => none
  | _ => none
def oMin : Op
  | [.int i, .int j] => dat (.int (if j < i then j else i))
  | [.lst l] => match intsD l with
    | some (i :: ns) => dat (.int (leastI (i :: ns)))
    | _ => none
  | _ => none
theorem od_max : OpT X (fun xs H Q => (∃ i j, xs = [.int i, .int j] ∧ Q (.int (if j > i then j else i)) H) ∨ rMax X.K xs H Q ∨ rNuC3 nuMax3 xs H Q) oMax := by
  intro H F ds vs res Q ht hv ho hQ
  unfold oMax at ho
  split at ho
  · obtain ⟨x, y, rfl, h1, h2⟩ := views2 hv
    exact .inl ⟨_, _, by rw [h1.int, h2.int], give ho rfl hQ⟩
  · obtain ⟨x, tl, rfl, h1, hv⟩ := hv
    obtain ⟨y, z, rfl, h2, h3⟩ := views2 hv
    exact .inr (.inr ⟨x, y, z, _, rfl, by rw [h1.int, h2.int, h3.int]; exact nuMax3_int _ _ _, give ho rfl hQ⟩)
  · obtain ⟨x, rfl, h1⟩ := views1 hv
    split at ho
    · rename_i i ns hn
      obtain ⟨a, vs, rfl, s1, r1⟩ := h1.lst
      refine .inr (.inl ⟨a, i :: ns, rfl, by rw [← r1.ints hn]; exact s1, Nat.succ_pos _, fun m hm hy => ?_⟩)
      have e : m = greatI (i :: ns) := by
        have h3 := hy _ (greatI_ok i ns).1
        have h4 := (greatI_ok i ns).2 m hm
        omega
      rw [e]
      exact give ho rfl hQ
    · cases ho
  · cases ho
theorem od_min : OpT X (fun xs H Q => (∃ i j, xs = [.int i, .int j] ∧ Q (.int (if j < i then j else i)) H) ∨ rMin X.K xs H Q) oMin := by
  intro H F ds vs res Q ht hv ho hQ
  unfold oMin at ho
  split at ho
  · obtain ⟨x, y, rfl, h1, h2⟩ := views2 hv
    exact .inl ⟨_, _, by rw [h1.int, h2.int], give ho rfl hQ⟩
  · obtain ⟨x, rfl, h1⟩ := views1 hv
    split at ho
    · rename_i i ns hn
      obtain ⟨a, vs, rfl, s1, r1⟩ := h1.lst
      refine .inr ⟨a, i :: ns, rfl, by rw [← r1.ints hn]; exact s1, Nat.succ_pos _, fun m hm hy => ?_⟩
      have e : m = leastI (i :: ns) := by
        have h3 := hy _ (leastI_ok i ns).1
        have h4 := (leastI_ok i ns).2 m hm
        omega
      rw [e]
      exact give ho rfl hQ
    · cases ho
  · cases ho

/-! ### isinstance of built-in types -/
inductive BT where
  | int | bool | str | tuple | list
def BT.nm : BT → String
  | .int => "int" | .bool => "bool" | .str => "str" | .tuple => "tuple" | .list => "list"
def tyD : D → String
  | .non => "NoneType" | .bl _ => "bool" | .int _ => "int" | .str _ => "str" | .tup _ => "tuple" | .lst _ => "list"
def isiD : BT → D → Bool
  | .int, .int _ => true
  | .int, .bl _ => true
  | .bool, .bl _ => true
  | .str, .str _ => true
  | .tuple, .tup _ => true
  | .list, .lst _ => true
  | _, _ => false
theorem isi_ok (b : BT) (d : D) : kitB (tyD d) b.nm = some (isiD b d) := by
  cases b <;> cases d <;> (simp only [tyD, BT.nm, isiD]; decide +kernel)
theorem View.ty {d : D} {v : V} (h : View K H F d v) : TyX K H v (.type (tyD d)) := by
  cases d with
  | non => rw [h.non]; exact .base .non
  | bl b => rw [h.bl]; exact .base (.bl b)
  | int b => rw [h.int]; exact .base (.int b)
  | str b => rw [h.str]; exact .base (.str b)
  | tup l =>
    obtain ⟨a, vs, rfl, s1, r1⟩ := h.tup
    rcases s1 with (s1 | ⟨o, s1⟩) | ⟨o, its, n, hk, hc, _⟩
    · exact .base (.tup s1)
    · exact .fTuple s1
    · exact .kTuple hk hc
  | lst l =>
    obtain ⟨a, vs, rfl, s1, r1⟩ := h.lst
    rcases s1 with (s1 | ⟨o, s1⟩) | ⟨o, its, n, hk, hc, _⟩
    · exact .base (.lst s1)
    · exact .base (.frz s1)
    · exact .kList hk hc
def oIsi (b : BT) : Op
  | [d] => dat (.bl (isiD b d))
  | _ => none
theorem d_isi {b : BT} {x T : Str} {e : Expr} {f : Den} {p p2 pos : Pos} (hg : Gl X x) (hm : X.mg x = none) (hv : bootBuiltins x = some (.builtin "isinstance")) (hn : x ≠ "__name__") (hdb : (x == ("__debug__" : Str)) = false)
    (hgT : Gl X T) (hmT : X.mg T = none) (hvT : bootBuiltins T = some (.type b.nm)) (hnT : T ≠ "__name__") (hdT : (T == ("__debug__" : Str)) = false) (ns : notStar e = true) (he : PE X e (LE X W f)) :
    PE X (.Call (.Name x p) [e, .Name T p2] [] pos) (LE X W (dApp (oIsi b) [f])) := by
  refine PE.imp (pe_callB call_isi hg hm hv (pa_cons he (pa_cons (pe_bltn (v := .ty b.nm) hgT hmT hvT rfl hnT hdT) pa_nil) (star_of ns _ X.env)) hn hdb (star_of ns _ X.env) rfl) fun σ H Q h => ?_
  have od : OpT X (fun vs H Q => ∃ x, vs = [x] ∧ rIsi X.K [x, .ty b.nm] H Q) (oIsi b) := by
    refine opTn (fun H F d x res Q ht h1 ho hQ => ?_) fun ds res h => ?_
    · cases ho
      exact ⟨x, rfl, x, _, _, _, _, rfl, .ty _, h1.ty, kit_ty (isi_ok b d), hQ _ H F stp0 (rep_flat rfl)⟩
    · unfold oIsi at h
      split at h <;> first | exact ⟨_, rfl⟩ | cases h
  refine (la_cons (appT od h)).mono fun x H1 h1 => ?_
  obtain ⟨x', e', q⟩ := la_nil h1
  cases e'
  exact q
end
end DL
set_option maxHeartbeats 2000000
/-! DL, part 13r: repr. -/
namespace DL
open PySem PySem.Spec PyProof.Rows L2
def rReprD (K : PySem.W.Frag) : List V → Hp → VK → Prop := fun xs H Q => ∃ x d, xs = [x] ∧ Dp K H x d ∧ d.showable = true ∧ d.hasDict = false ∧ d.shown.length ≤ sizeLine ∧ d.depth ≤ 64 ∧ Q (.str d.shown) H
section
variable {X : Cx}
theorem call_repr (gu : X.A.guards = some []) (hu : X.A.units + 140 < cLine) : CallR X (.builtin "repr") (rReprD X.K) := by
  intro pins s σ H xs us Q I r h
  obtain ⟨x, d, rfl, dp, hs, hk, hz, hd, q⟩ := h
  obtain ⟨u, rfl, rx⟩ := vals1 r
  obtain ⟨as, rd⟩ := Dp.reads I d x u dp rx
  have fin : ∀ h' u tk, (∀ b o, s.heap.get? b = some o → h'.get? b = some o) → EP X pins σ Q (.str d.shown u) { s with heap := h', toks := tk } := fun h' u tk kp =>
    ⟨.str d.shown, H, I.un (h' := h') (t' := tk) (Un.kept kp) (I.hok.kept kp), ⟨u, rfl⟩, q⟩
  have leaf : ∀ tk, EP X pins σ Q (.str d.shown s.toks) { s with toks := tk } := fun tk => ⟨.str d.shown, H, I.tok _, ⟨_, rfl⟩, q⟩
  have heap : ∀ a, u = .ref a → wpAny (model X.prog X.w) X.A (call (.builtin "repr") [u]) (EP X pins σ Q) X.xe s := fun a e => by
    subst e
    exact repr_of_reads' rd hs (fun z => by rw [hk] at z; cases z) gu (by omega) (fun _ _ e => e) fin hz
  cases rd with
  | none => simp only [PyData.shown] at leaf; exact P.repr_of_none (leaf _)
  | bool b => simp only [PyData.shown] at leaf; exact P.repr_of_bool (leaf _)
  | int i t => simp only [PyData.shown] at leaf; exact P.repr_of_int (by simpa [PyData.showable] using hs) (leaf _)
  | str y t => simp only [PyData.shown] at leaf hz; exact P.repr_of_str (leaf _) hz
  | _ => exact heap _ rfl
/-- repr of data -/
def shownD (d : D) : Str := (toP d).shown
mutual
theorem noDict : ∀ d : D, (toP d).hasDict = false
  | .non => by rw [toP]; simp only [PyData.hasDict]
  | .bl _ => by rw [toP]; simp only [PyData.hasDict]
  | .int _ => by rw [toP]; simp only [PyData.hasDict]
  | .str _ => by rw [toP]; simp only [PyData.hasDict]
  | .tup l => by rw [toP]; simp only [PyData.hasDict]; exact noDicts l
  | .lst l => by rw [toP]; simp only [PyData.hasDict]; exact noDicts l
theorem noDicts : ∀ l : List D, PyData.hasDictAll (toPs l) = false
  | [] => by rw [toPs]; simp only [PyData.hasDictAll]
  | d :: l => by rw [toPs]; simp only [PyData.hasDictAll]; rw [noDict d, noDicts l]; rfl
end
def repOk (d : D) : Bool := (toP d).showable && okLen (shownD d).length && Nat.ble (toP d).depth 64
def oRepr : Op
  | [d] => if repOk d then dat (.str (shownD d)) else none
  | _ => none
theorem od_repr : OpT X (rReprD X.K) oRepr := by
  refine opTn (fun H F d x res Q ht h1 ho hQ => ?_) fun ds res h => ?_
  · obtain ⟨hc, ho⟩ := ite_some (show (if repOk d = true then _ else none) = some res from ho)
    unfold repOk at hc
    rw [Bool.and_eq_true, Bool.and_eq_true] at hc
    exact ⟨x, _, rfl, h1.dp, hc.1.1, noDict d, okLen_le hc.1.2, Nat.le_of_ble_eq_true hc.2, give ho rfl hQ⟩
  · unfold oRepr at h
    split at h <;> first | exact ⟨_, rfl⟩ | cases h
end
end DL
set_option maxHeartbeats 2000000
/-! DL, part 13s: list(range(..)). -/
namespace DL
open PySem PySem.Spec PyProof.Rows L2
section
variable {X : Cx} {W : WX} {σ : St} {H H' H0 H1 H2 : Hp} {F F' F0 F1 F2 : Addr → Prop} {ρ ρ' ρ1 ρ2 : DEnv} {S : Addr → Prop} {K : PySem.W.Frag}
def rgPair : List Int → Option (Int × Int)
  | [j] => some (0, j)
  | [i, j] => some (i, j)
  | _ => none
def rngL (l : List Int) : Option (List D) := (rgPair l).bind fun p => if okInt p.1 && okInt p.2 && okLen (p.2 - p.1).toNat then some (rangeD p.1 (p.2 - p.1).toNat) else none
def dListR (fs : List Den) : Den := fun ρ => (dArgs fs ρ).bind fun rs ρ1 => match (intsR rs).bind rngL with
  | some ds => .ok (.fresh (.lst ds)) ρ1
  | none => .bad
theorem reps_rg {a b : Int} : Reps K H F (rangeD a (b - a).toNat) (rgV a b) := by
  unfold rangeD rgV
  generalize List.range (b - a).toNat = l
  induction l with
  | nil => exact Reps.nil
  | cons i l ih => exact Reps.cons (rep_flat rfl) ih
theorem listR_ok {fs : List Den} {Q : VK} (h : LE X W (dListR fs) σ H Q) : LA X W (dArgs fs) σ H (fun vs H1 => ∃ l a b, vs = l.map V.int ∧ rgPair l = some (a, b) ∧ RgOk a b ∧ ∀ q, H1 q = none → Q (.ref q) (upd H1 q (.lst (rgV a b)))) := by
  obtain ⟨F, ρ, e, h⟩ := h
  refine ⟨F, ρ, e, OP.seq e h fun rs ρ1 vs H1 F1 q0 s1 e1 rt1 r1 h => ?_⟩
  cases q : (intsR rs).bind rngL with
  | none => rw [q] at h; exact h.elim
  | some ds =>
    rw [q] at h
    obtain ⟨l, hl, hd⟩ := Option.bind_eq_some_iff.mp q
    have hv := intsR_ok r1 hl
    unfold rngL at hd
    obtain ⟨⟨a, b⟩, hp, hd⟩ := Option.bind_eq_some_iff.mp hd
    obtain ⟨ho, hd⟩ := ite_some (show (if (okInt a && okInt b && okLen (b - a).toNat) = true then _ else none) = some ds from hd)
    cases hd
    rw [Bool.and_eq_true, Bool.and_eq_true] at ho
    have hlen := Nat.le_of_ble_eq_true ho.2
    refine ⟨l, a, b, hv, hp, ⟨(okInt_of ho.1.1).1, (okInt_of ho.1.1).2, (okInt_of ho.1.2).1, (okInt_of ho.1.2).2, by omega⟩, fun p hp => ?_⟩
    have s2 : Stp (fun _ => False) H1 F1 (upd H1 p (.lst (rgV a b))) F1 := Stp.new hp fun _ z => z.elim
    refine h (.ref p) _ F1 (s1.trans s2 fun _ z => z.elim) (e1.step s2 fun _ _ z => z) rt1 ⟨p, rfl, s1.new_of hp, fun f => ?_, rgV a b, upd_same, reps_rg⟩
    obtain ⟨o, z⟩ := e1.trk p f
    rw [hp] at z; cases z
theorem d_listR1 {a : Expr} {f : Den} {p p' pos pos' : Pos} (hc : X.calm = true) (hg : Gl X "list") (hm : X.mg "list" = none) (hg2 : Gl X "range") (hm2 : X.mg "range" = none) (ns : notStar a = true) (h : PE X a (LE X W f)) :
    PE X (.Call (.Name "list" p) [.Call (.Name "range" p') [a] [] pos'] [] pos) (LE X W (dListR [f])) :=
  PE.imp (pe_listRg hc hg hm (prg_1 hg2 hm2 h (star_of ns [] X.env)) rfl) fun σ H Q h => by
    refine (la_cons (listR_ok h)).mono fun x H1 h1 => ?_
    obtain ⟨l, a, b, hv, hp, ok, hq⟩ := la_nil h1
    match l, hp with
    | [j], hp =>
      cases hp
      cases hv
      exact ⟨_, rfl, ok, hq⟩
    | [i, j], hp => cases hv
theorem d_listR2 {a b : Expr} {f g : Den} {p p' pos pos' : Pos} (hc : X.calm = true) (hg : Gl X "list") (hm : X.mg "list" = none) (hg2 : Gl X "range") (hm2 : X.mg "range" = none) (ns : notStar a = true) (nt : notStar b = true) (h : PE X a (LE X W f)) (h' : PE X b (LE X W g)) :
    PE X (.Call (.Name "list" p) [.Call (.Name "range" p') [a, b] [] pos'] [] pos) (LE X W (dListR [f, g])) :=
  PE.imp (pe_listRg hc hg hm (prg_2 hg2 hm2 h h' (star_of ns [b] X.env) (star_of nt [] X.env) (by rw [star_of nt]; rfl)) rfl) fun σ H Q h => by
    refine (la_cons (listR_ok h)).mono fun x H1 h1 => ?_
    refine (la_cons h1).mono fun y H2 h2 => ?_
    obtain ⟨l, a, b, hv, hp, ok, hq⟩ := la_nil h2
    match l, hp with
    | [j], hp => cases hv
    | [i, j], hp =>
      cases hp
      cases hv
      exact ⟨_, _, rfl, rfl, ok, hq⟩
end
end DL
set_option maxHeartbeats 2000000
/-! DL, part 13o: < of data that are alike; sorted. -/
namespace DL
open PySem PySem.Spec PyProof.Rows L2
section
variable {X : Cx} {W : WX} {σ : St} {H H' H0 H1 H2 : Hp} {F F' F0 F1 F2 : Addr → Prop} {ρ ρ' ρ1 ρ2 : DEnv} {S : Addr → Prop} {K : PySem.W.Frag}
/-! ### a < b -/
def ltP (d e : D) : Bool := PySem.W.dataLt (toP d) (toP e)
def alP (d e : D) : Bool := PySem.W.alike (toP d) (toP e)
def oLtI : Op
  | [.int i, .int j] => dat (.bl (decide (i < j)))
  | [d, e] => if shP d && alP d e && !isNon d then dat (.bl (ltP d e)) else none
  | _ => none
def rLtA (K : PySem.W.Frag) : R2 := fun x y H Q => (∃ i j, x = .int i ∧ y = .int j ∧ Q (.bl (decide (i < j))) H) ∨
  ∃ d e, Dp K H x d ∧ Dp K H y e ∧ SeqAt.shaped d = true ∧ PySem.W.alike d e = true ∧ d ≠ .none ∧ Q (.bl (PySem.W.dataLt d e)) H
theorem shaped_depth {d : PyData} (h : SeqAt.shaped d = true) : d.depth ≤ 64 := by
  have h1 : (d.canLay0 && decide (d.depth ≤ 64)) = true := h
  rw [Bool.and_eq_true, decide_eq_true_eq] at h1
  exact h1.2
theorem op_ltA (hu : X.A.units + 65 < cLine) : OpR X (compareOp .Lt) (rLtA X.K) := by
  intro pins s σ H x y v u Q I rx ry h
  rcases h with h | ⟨d, e, hd, he, sd, ha, hn, q⟩
  · exact op_lt pins s σ H x y v u Q I rx ry h
  · obtain ⟨as, r1⟩ := Dp.reads I d x v hd rx
    obtain ⟨bs, r2⟩ := Dp.reads I e y u he ry
    have h64 := shaped_depth sd
    exact PySem.W.lt_data r1 r2 ha hn (by omega) ⟨.bl _, H, I, rfl, q⟩
theorem toP_none {d : D} (h : isNon d = false) : toP d ≠ .none := by
  cases d with
  | non => cases h
  | bl b => rw [toP]; intro z; cases z
  | int b => rw [toP]; intro z; cases z
  | str b => rw [toP]; intro z; cases z
  | tup b => rw [toP]; intro z; cases z
  | lst b => rw [toP]; intro z; cases z
theorem od_lt : OpD X (r2 (rLtA X.K)) oLtI := by
  refine op2 (fun H F d e x y res Q h1 h2 ho hQ => ?_) fun ds res h => ?_
  · unfold oLtI at ho
    split at ho
    · rename_i i j hh
      cases hh
      exact .inl ⟨i, j, h1.int, h2.int, give ho rfl hQ⟩
    · rename_i a b _ hh
      cases hh
      obtain ⟨hs, ho⟩ := ite_some ho
      rw [Bool.and_eq_true, Bool.and_eq_true] at hs
      refine .inr ⟨_, _, h1.dp, h2.dp, hs.1.1, hs.1.2, toP_none (by simpa using hs.2), give ho rfl hQ⟩
    · cases ho
  · unfold oLtI at h
    split at h
    · exact ⟨_, _, rfl⟩
    · exact ⟨_, _, rfl⟩
    · cases h
/-! ### sorted -/
def zle (p q : V × D) : Bool := PySem.W.dataLe false (fun p : V × D => toP p.2) p q
def rSortedD (K : PySem.W.Frag) : List V → Hp → VK → Prop := fun vs H Q => ∃ (a : Addr) (xs : List V) (ds : List D), vs = [V.ref a] ∧ SqL K H a xs ∧ xs.length = ds.length ∧ (∀ p ∈ xs.zip ds, Dp K H p.1 (toP p.2)) ∧
  PySem.W.AllAlike (ds.map toP) ∧ PySem.W.Sortable (ds.map toP) ∧ (∀ d ∈ ds, (toP d).depth ≤ 60) ∧ ∀ p, H p = none → Q (.ref p) (upd H p (.lst (((xs.zip ds).mergeSort zle).map Prod.fst)))
theorem each_zip : ∀ {xs : List V} {us : List Value} {ds : List D}, Vals xs us → xs.length = ds.length → PySem.W.EachIs (fun (v : Value) (p : V × D) => RelV p.1 v ∧ p ∈ xs.zip ds) us (xs.zip ds) := by
  intro xs us ds r hl
  refine PySem.W.EachIs.of_zip (by rw [List.length_zip, ← r.length]; omega) fun p hp => ?_
  obtain ⟨i, hi, e⟩ := List.mem_iff_getElem.mp hp
  rw [List.getElem_zip] at e
  subst e
  rw [List.length_zip, List.length_zip] at hi
  have hx : i < xs.length := by omega
  obtain ⟨u, hu, ru⟩ := r.get (List.getElem?_eq_getElem hx)
  have hz : i < (xs.zip ds).length := by rw [List.length_zip]; omega
  refine ⟨?_, List.getElem_mem hz⟩
  rw [List.getElem?_eq_getElem (by omega)] at hu
  cases hu
  simpa using ru
theorem vals_of : ∀ {us : List Value} {zs : List (V × D)} {P : V × D → Prop}, PySem.W.EachIs (fun (v : Value) (p : V × D) => RelV p.1 v ∧ P p) us zs → Vals (zs.map Prod.fst) us
  | _, _, _, .nil => .nil
  | _, _, _, .cons h t => .cons h.1 (vals_of t)
theorem cr_sortedD (hu : X.A.units + 65 < cLine) : CallR X (.builtin "sorted") (rSortedD X.K) := by
  intro pins s σ H vs us Q I r h
  obtain ⟨a, xs, ds, rfl, hs, hlen, hx, hal, hk, hdep, q⟩ := h
  obtain ⟨its, rv, hl, hz⟩ := I.list hs
  obtain ⟨u, rfl, ru⟩ := vals1 r
  obtain rfl : u = Value.ref a := ru
  have em : (xs.zip ds).map (fun p : V × D => toP p.2) = ds.map toP := by
    rw [show (fun p : V × D => toP p.2) = toP ∘ Prod.snd from rfl, ← List.map_map, List.map_snd_zip (by omega)]
  have e := each_zip (ds := ds) rv hlen
  refine PySem.W.sorted_data (bs := xs.zip ds) (enc := fun p : V × D => toP p.2) hl.isList e (e.mono fun v p h => Dp.reads I _ _ _ (hx p h.2) h.1) (by rw [em]; exact hal) (by rw [em]; exact hk) (by rw [List.length_zip]; omega) (fun b hb => ?_) fun out ho eo => ?_
  · have := hdep b.2 (List.of_mem_zip hb).2
    omega
  · obtain ⟨c, hc⟩ := sortedAll_at s.heap its out.toArray
    have hv := vals_of eo
    have hp : s.heap.objs.size ≤ s.heap.objs.size + 1 := Nat.le_succ _
    refine ⟨.ref (s.heap.objs.size + 1), _, I.laid (t' := s.toks) (o := .lst (((xs.zip ds).mergeSort zle).map Prod.fst)) (fun _ _ => sortedAll_old) hp ⟨?_, out, c, hv, hc⟩, rfl, q _ (I.hok.fresh hp)⟩
    rw [List.length_map, List.length_mergeSort, List.length_zip]
    omega
theorem reps_all : ∀ {zs : List (V × D)}, (∀ p ∈ zs, Rep K H F p.2 p.1) → Reps K H F (zs.map Prod.snd) (zs.map Prod.fst)
  | [], _ => Reps.nil
  | p :: zs, h => Reps.cons (h p List.mem_cons_self) (reps_all fun q hq => h q (List.mem_cons_of_mem _ hq))
theorem reps_zip : ∀ {ds : List D} {vs : List V}, Reps K H F ds vs → ∀ p ∈ vs.zip ds, Rep K H F p.2 p.1
  | [], vs, h, p, hp => by simp at hp
  | d :: ds, vs, h, p, hp => by
    rw [Reps] at h
    obtain ⟨v, r, rfl, h1, h2⟩ := h
    rw [List.zip_cons_cons] at hp
    rcases List.mem_cons.mp hp with rfl | hp
    · exact h1
    · exact reps_zip h2 p hp
def neTup : D → Bool
  | .tup (_ :: _) => true
  | _ => false
def noTup : D → Bool
  | .tup _ => false
  | .non => false
  | _ => true
def leP (d e : D) : Bool := !ltP e d
def sortOk (l : List D) : Bool := l.all (fun d => l.all fun e => alP d e) && ((l.all neTup || l.all noTup) && l.all fun d => Nat.ble (toP d).depth 60)
def oSorted : Op
  | [.lst l] => if sortOk l then some (.fresh (.lst (l.mergeSort leP))) else none
  | _ => none
theorem zle_snd {xs : List V} {ds : List D} (h : xs.length = ds.length) : ((xs.zip ds).mergeSort zle).map Prod.snd = ds.mergeSort leP := by
  have e := List.map_mergeSort (r := zle) (s := leP) (f := Prod.snd) (l := xs.zip ds) (fun _ _ _ _ => rfl)
  rw [e, List.map_snd_zip (by omega)]
theorem sort_kind {l : List D} (h : l.all neTup = true ∨ l.all noTup = true) : PySem.W.Sortable (l.map toP) := by
  rcases h with h | h
  · refine .inl fun d hd => ?_
    obtain ⟨e, he, rfl⟩ := List.mem_map.mp hd
    have z := List.all_eq_true.mp h e he
    unfold neTup at z
    split at z
    · rename_i x l
      exact ⟨toP x, toPs l, by rw [toP, toPs]⟩
    · cases z
  · refine .inr fun d hd => ?_
    obtain ⟨e, he, rfl⟩ := List.mem_map.mp hd
    have z := List.all_eq_true.mp h e he
    cases e with
    | non => cases z
    | tup l => cases z
    | bl b => rw [toP]; exact ⟨(fun q => by cases q), fun _ q => by cases q⟩
    | int b => rw [toP]; exact ⟨(fun q => by cases q), fun _ q => by cases q⟩
    | str b => rw [toP]; exact ⟨(fun q => by cases q), fun _ q => by cases q⟩
    | lst b => rw [toP]; exact ⟨(fun q => by cases q), fun _ q => by cases q⟩
theorem od_sorted : OpT X (rSortedD X.K) oSorted := by
  refine opTn (fun H F d x res Q ht h1 ho hQ => ?_) fun ds res h => ?_
  · unfold oSorted at ho
    split at ho
    · rename_i l hh
      cases hh
      obtain ⟨hs, ho⟩ := ite_some ho
      cases ho
      obtain ⟨a, vs, rfl, s1, r1⟩ := h1.lst
      unfold sortOk at hs
      rw [Bool.and_eq_true, Bool.and_eq_true, Bool.or_eq_true] at hs
      obtain ⟨ha, hk, hd⟩ := hs
      refine ⟨a, vs, l, rfl, s1, r1.length, fun p hp => Rep.dp _ _ (reps_zip r1 p hp), fun d hd d' hd' => ?_, sort_kind hk, fun d hd' => Nat.le_of_ble_eq_true (List.all_eq_true.mp hd d hd'), fun p hp => ?_⟩
      · obtain ⟨e, he, rfl⟩ := List.mem_map.mp hd
        obtain ⟨e', he', rfl⟩ := List.mem_map.mp hd'
        exact List.all_eq_true.mp (List.all_eq_true.mp ha e he) e' he'
      · refine give_lst hp (nf_of ht hp) ?_ hQ
        rw [← zle_snd r1.length]
        exact reps_all fun p hp => reps_zip r1 p (List.mem_mergeSort.mp hp)
    · cases ho
  · unfold oSorted at h
    split at h <;> first | exact ⟨_, rfl⟩ | cases h
end
end DL
set_option maxHeartbeats 2000000
/-! DL, part 13z: zip of two. -/
namespace DL
open PySem PySem.Spec PyProof.Rows L2
section
variable {X : Cx} {W : WX} {σ : St} {H H' H0 H1 H2 : Hp} {F F' F0 F1 F2 : Addr → Prop} {ρ ρ' ρ1 ρ2 : DEnv} {S : Addr → Prop} {K : PySem.W.Frag}
def pairsD (a b : List D) : List D := List.zipWith (fun x y => .tup [x, y]) a b
def zipD : List D → Option (List D)
  | [.lst a, .lst b] => some (pairsD a b)
  | [.tup a, .tup b] => some (pairsD a b)
  | _ => none
def dZip (fs : List Den) : DEnv → Out (List D) := fun ρ => (dFrz fs ρ).bind fun ds ρ1 => match zipD ds with
  | some l => .ok l ρ1
  | none => .bad
theorem pairs_get {a b : List D} {i : Nat} {d : D} (h : (pairsD a b)[i]? = some d) : ∃ x y, a[i]? = some x ∧ b[i]? = some y ∧ d = .tup [x, y] := by
  unfold pairsD at h
  rw [List.getElem?_zipWith] at h
  cases q : a[i]? with
  | none => rw [q] at h; cases h
  | some x =>
    cases q2 : b[i]? with
    | none => rw [q, q2] at h; cases h
    | some y =>
      rw [q, q2] at h
      cases h
      exact ⟨x, y, rfl, rfl, rfl⟩
theorem pairs_end {a b : List D} {i : Nat} (h : (pairsD a b).length ≤ i) : a.length ≤ i ∨ b.length ≤ i := by
  unfold pairsD at h
  rw [List.length_zipWith] at h
  omega
theorem pair_rep {T : Addr} {v u : V} {x y : D} (h1 : H1 T = none) (r1 : Rep K H1 F1 x v) (r2 : Rep K H1 F1 y u) : Stp (fun _ => False) H1 F1 (upd H1 T (.tup [v, u])) F1 ∧ Rep K (upd H1 T (.tup [v, u])) F1 (.tup [x, y]) (.ref T) := by
  have s2 : Stp (fun _ => False) H1 F1 (upd H1 T (.tup [v, u])) F1 := Stp.new h1 fun _ z => z.elim
  refine ⟨s2, ?_⟩
  rw [Rep]
  exact ⟨T, [v, u], rfl, SqT.of upd_same, Reps.cons (s2.fut.rep _ _ r1) (Reps.cons (s2.fut.rep _ _ r2) Reps.nil)⟩
theorem itrep_zipL {p q : Addr} {vs us : List V} {a b : List D} (s : LsF K H F p vs) (t : LsF K H F q us) (r : Reps K H F a vs) (r' : Reps K H F b us) : ItRep K H F (pairsD a b) (Itz K p q) := by
  intro H1 F1 i f
  have s1 : SqL K H1 p vs := (f.lsF s).sq
  have t1 : SqL K H1 q us := (f.lsF t).sq
  refine ⟨fun d hd => ?_, fun hl => ⟨vs, us, s1, t1, by rw [r.length, r'.length]; exact pairs_end hl⟩⟩
  obtain ⟨x, y, hx, hy, rfl⟩ := pairs_get hd
  obtain ⟨v, hv, rv⟩ := r.get hx
  obtain ⟨u, hu, ru⟩ := r'.get hy
  refine ⟨⟨vs, us, v, u, s1, t1, hv, hu⟩, fun z H2 hy => ?_⟩
  obtain ⟨T, v', u', rfl, hT, rfl, h1, h2⟩ := hy
  have h1 := h1 vs s1
  have h2 := h2 us t1
  rw [hv] at h1
  rw [hu] at h2
  cases h1
  cases h2
  exact pair_rep hT (f.rep _ _ rv) (f.rep _ _ ru)
theorem itrep_zipT {p q : Addr} {vs us : List V} {a b : List D} (s : SqT K H p vs) (t : SqT K H q us) (r : Reps K H F a vs) (r' : Reps K H F b us) : ItRep K H F (pairsD a b) (RZ.ItzT K p q) := by
  intro H1 F1 i f
  have s1 : SqT K H1 p vs := f.sqT s
  have t1 : SqT K H1 q us := f.sqT t
  refine ⟨fun d hd => ?_, fun hl => ⟨vs, us, s1, t1, by rw [r.length, r'.length]; exact pairs_end hl⟩⟩
  obtain ⟨x, y, hx, hy, rfl⟩ := pairs_get hd
  obtain ⟨v, hv, rv⟩ := r.get hx
  obtain ⟨u, hu, ru⟩ := r'.get hy
  refine ⟨⟨vs, us, v, u, s1, t1, hv, hu⟩, fun z H2 hy => ?_⟩
  obtain ⟨T, v', u', rfl, hT, rfl, h1, h2⟩ := hy
  have h1 := h1 vs s1
  have h2 := h2 us t1
  rw [hv] at h1
  rw [hu] at h2
  cases h1
  cases h2
  exact pair_rep hT (f.rep _ _ rv) (f.rep _ _ ru)
theorem zip_ok {fs : List Den} {R : It → Hp → Prop} (h : LI X W (dZip fs) σ H R) : RZ.iZipA X.K (LA X W (dArgs fs)) σ H R := by
  obtain ⟨F, ρ, e, h⟩ := h
  refine frz_ok ⟨F, ρ, e, OP.seq e h fun ds ρ1 vs H1 F1 _ s1 e1 rt1 r1 h => ?_⟩
  cases q : zipD ds with
  | none => rw [q] at h; exact h.elim
  | some l =>
    rw [q] at h
    unfold zipD at q
    split at q
    · rename_i a b
      cases q
      rw [Reps] at r1
      obtain ⟨v, r, rfl, ra, r1⟩ := r1
      rw [Reps] at r1
      obtain ⟨u, r, rfl, rb, r1⟩ := r1
      rw [Reps] at r1
      subst r1
      rw [Rep] at ra rb
      obtain ⟨p, xs, rfl, s, rx⟩ := ra
      obtain ⟨p', ys, rfl, s', ry⟩ := rb
      exact ⟨p, p', xs, ys, rfl, .inl ⟨s.sq, s'.sq, h _ H1 F1 s1 e1 rt1 (itrep_zipL s s' rx ry)⟩⟩
    · rename_i a b
      cases q
      rw [Reps] at r1
      obtain ⟨v, r, rfl, ra, r1⟩ := r1
      rw [Reps] at r1
      obtain ⟨u, r, rfl, rb, r1⟩ := r1
      rw [Reps] at r1
      subst r1
      rw [Rep] at ra rb
      obtain ⟨p, xs, rfl, s, rx⟩ := ra
      obtain ⟨p', ys, rfl, s', ry⟩ := rb
      exact ⟨p, p', xs, ys, rfl, .inr ⟨s, s', h _ H1 F1 s1 e1 rt1 (itrep_zipT s s' rx ry)⟩⟩
    · cases q
theorem i_zip {a b : Expr} {fs : List Den} {p pos tpos : Pos} {elts : List Expr} {kk : Nat} (hg : Gl X "zip") (hm : X.mg "zip" = none) (na : notStar a = true) (nb : notStar b = true) (ha : PA X [a, b] (LA X W (dArgs fs))) :
    PI X (.Tuple elts kk tpos) (.Call (.Name "zip" p) [a, b] [] pos) (LI X W (dZip fs)) :=
  PI.imp (RZ.pi_zipA hg hm ha (star_of na [b] X.env) (by rw [star_of nb [] X.env]; rfl)) fun _ _ _ h => zip_ok h
end
end DL
set_option maxHeartbeats 2000000
/-! DL, part 13e: a list extended by a new one. -/
namespace DL
open PySem PySem.Spec PyProof.Rows L2
section
variable {X : Cx} {W : WX} {σ : St} {H H' H0 H1 H2 : Hp} {F F' F0 F1 F2 : Addr → Prop} {ρ ρ' ρ1 ρ2 : DEnv} {S : Addr → Prop} {K : PySem.W.Frag}
def extD (i : Nat) (ρ1 : DEnv) : List RV → Option Sl → Out RV
  | [.fresh (.lst m)], some (.own (.lst l)) => if okLen (l.length + m.length) then .ok (.d .non) (ρ1.set i (.own (.lst (l ++ m)))) else .bad
  | _, _ => .bad
def dExtend (i : Nat) (fs : List Den) : Den := fun ρ => match ρ[i]? with
  | some (.own (.lst _)) => (dArgs fs ρ).bind fun rs ρ1 => extD i ρ1 rs ρ1[i]?
  | _ => .bad
theorem ext_ok {i : Nat} {fs : List Den} {Q : VK} (h : LE X W (dExtend i fs) σ H Q) :
    ∃ a, σ[i]? = some (some (.ref a)) ∧ tyV X.K "list" (.ref a) H ∧ LA X W (dArgs fs) σ H fun vs H1 => rExtend (.ref a) vs H1 Q := by
  obtain ⟨F, ρ, e, h⟩ := h
  unfold dExtend at h
  cases q0 : ρ[i]? with
  | none => simp only [q0] at h; exact h.elim
  | some sl0 =>
    cases sl0 with
    | no => simp only [q0] at h; exact h.elim
    | val x => simp only [q0] at h; exact h.elim
    | own d0 =>
      cases d0 with
      | lst l0 =>
        simp only [q0] at h
        obtain ⟨a, ha, ow0⟩ := e.owned q0
        refine ⟨a, ha, ow0.tyL, F, ρ, e, OP.seq e h fun rs ρ1 vs H1 F1 q s1 e1 rt1 r1 h => ?_⟩
        generalize q2 : ρ1[i]? = sl at h
        unfold extD at h
        split at h
        · rename_i m l
          split at h
          · rename_i hl
            obtain ⟨a', ha', ow⟩ := e1.owned q2
            rw [ha] at ha'; cases ha'
            have rta : Root σ ρ a := rt1 a ⟨i, _, q2, ha⟩
            obtain ⟨v, tl, rfl, h1, h2⟩ := r1
            obtain rfl : tl = [] := h2
            obtain ⟨p, rfl, hp, nfp, zs, ez, rz⟩ := h1
            obtain ⟨nf, us, eu, ru⟩ := id ow
            have hlen := Nat.le_of_ble_eq_true hl
            refine ⟨a, p, us, zs, rfl, rfl, eu, ez, ?_, own_upd e1.trk ow (ru.append rz) (rep_flat rfl) fun v H2 F2 s2 r2 o2 => h v H2 F2 (s1.trans s2 fun b z => by subst z; exact .inl rta) (e1.update q2 ha s2 o2) (fun b z => rt1 b (root_upd q2 z)) r2⟩
            have l1 := ru.length
            have l2 := rz.length
            rw [sizeLine_eq]
            omega
          · exact h.elim
        · exact h.elim
      | _ => simp only [q0] at h; exact h.elim
theorem d_extend {i : Nat} {fs : List Den} {x : Str} {e : Expr} {p apos cpos : Pos} (hN : X.N[i]? = some x) (hv : Vis X.env.scope x) (hd : (x == ("__debug__" : Str)) = false) (hcd : (x == ("__classdict__" : Str)) = false) (ns : notStar e = true)
    (hline : (apos.endLine == cpos.line) = true) (ha : PA X [e] (LA X W (dArgs fs))) : PE X (.Call (.Attribute (.Name x p) "extend" apos) [e] [] cpos) (LE X W (dExtend i fs)) := by
  have ns' : [e].all notStar = true := by rw [List.all_cons, ns]; rfl
  refine PE.imp (pe_bm PySem.F.plainAttrs_list PySem.F.slot_list_extend PySem.F.type_list_extend mt_extend (pe_var hN hv hd hcd) ha (base_of rfl "extend" X.env _) (few_of ns' (by simp)) hline (star_of ns [] X.env) rfl) fun σ H Q h => ?_
  obtain ⟨a, ha, ty, q⟩ := ext_ok h
  exact ⟨_, ha, ty, q⟩
end
end DL
set_option maxHeartbeats 2000000
/-! DL, part 14: from the code to its denotation, one step of the compiler, and why it is right. -/
namespace DL
open PySem PySem.Spec PyProof.Rows L2

/-- a function: its name, how many parameters, whether it may change its first one, a list -/
structure FE where
  nm : Str
  ar : Nat
  io : Bool
/-- what is known of the code ahead of a run -/
structure Ct where
  N : List Str
  sc : Scope
  fn : Str → Bool
  j0 : Bool
  fns : List FE
  ks : List (Str × D)
  c : Nat → List D → FRes

/-! ### names -/
def ixOf (x : Str) : List Str → Nat → Option Nat
  | [], _ => none
  | y :: l, i => if y = x then some i else ixOf x l (i + 1)
theorem ixOf_ok {x : Str} : ∀ {l : List Str} {i j : Nat}, ixOf x l i = some j → ∃ k, j = i + k ∧ l[k]? = some x
  | [], _, _, h => by cases h
  | y :: l, i, j, h => by
    unfold ixOf at h
    split at h
    · cases h
      rename_i e
      exact ⟨0, rfl, by rw [e]; rfl⟩
    · obtain ⟨k, e, q⟩ := ixOf_ok h
      exact ⟨k + 1, by omega, by simpa using q⟩
def slotOf (Γ : Ct) (x : Str) : Option Nat := ixOf x Γ.N 0
theorem slotOf_ok {Γ : Ct} {x : Str} {i : Nat} (h : slotOf Γ x = some i) : Γ.N[i]? = some x := by
  obtain ⟨k, e, q⟩ := ixOf_ok h
  rw [e, Nat.zero_add]; exact q
def fnOf (x : Str) : List FE → Nat → Option (Nat × FE)
  | [], _ => none
  | y :: l, i => if y.nm = x then some (i, y) else fnOf x l (i + 1)
theorem fnOf_ok {x : Str} : ∀ {l : List FE} {i : Nat} {r : Nat × FE}, fnOf x l i = some r → ∃ k, r.1 = i + k ∧ l[k]? = some r.2 ∧ r.2.nm = x
  | [], _, _, h => by cases h
  | y :: l, i, r, h => by
    unfold fnOf at h
    split at h
    · cases h
      rename_i e
      exact ⟨0, rfl, rfl, e⟩
    · obtain ⟨k, e, q, n⟩ := fnOf_ok h
      exact ⟨k + 1, by omega, by simpa using q, n⟩
def ksOf (x : Str) : List (Str × D) → Option D
  | [] => none
  | y :: l => if y.1 = x then some y.2 else ksOf x l
theorem ksOf_ok {x : Str} : ∀ {l : List (Str × D)} {d : D}, ksOf x l = some d → (x, d) ∈ l
  | [], _, h => by cases h
  | y :: l, d, h => by
    unfold ksOf at h
    split at h
    · cases h
      rename_i e
      rw [← e]
      exact List.mem_cons_self
    · exact List.mem_cons_of_mem _ (ksOf_ok h)
def visK : Option NameKind → Bool
  | some .local => true
  | some .cell => true
  | some .free => true
  | _ => false
def glK : Option NameKind → Bool
  | some .globalImplicit => true
  | _ => false
def isLoc : Option NameKind → Bool
  | some .local => true
  | _ => false
def locK (f : Bool) : Option NameKind → Bool
  | some .local => true
  | some .cell => f
  | _ => false
theorem visK_ok {sc : Scope} {x : Str} (h : visK (sc.names.lookup x) = true) : Vis sc x := by
  unfold Vis
  cases q : sc.names.lookup x with
  | none => rw [q] at h; cases h
  | some k => rw [q] at h; cases k <;> first | exact .inl rfl | exact .inr (.inl rfl) | exact .inr (.inr rfl) | cases h
theorem glK_ok {sc : Scope} {x : Str} (h : glK (sc.names.lookup x) = true) : sc.names.lookup x = some .globalImplicit := by
  cases q : sc.names.lookup x with
  | none => rw [q] at h; cases h
  | some k => rw [q] at h; cases k <;> first | rfl | cases h
theorem isLoc_ok {sc : Scope} {x : Str} (h : isLoc (sc.names.lookup x) = true) : sc.names.lookup x = some .local := by
  cases q : sc.names.lookup x with
  | none => rw [q] at h; cases h
  | some k => rw [q] at h; cases k <;> first | rfl | cases h
theorem locK_ok {sc : Scope} {x : Str} {f : Bool} (h : locK f (sc.names.lookup x) = true) : L2.Loc sc x ∧ (f = true ∨ sc.names.lookup x = some .local) := by
  unfold L2.Loc
  cases q : sc.names.lookup x with
  | none => rw [q] at h; cases h
  | some k => rw [q] at h; cases k <;> first | exact ⟨.inl rfl, .inr rfl⟩ | exact ⟨.inr rfl, .inl h⟩ | cases h

/-! ### built-ins -/
inductive Bt where
  | len | abs | int | list | tuple | sum | any | all | max | min | repr | sorted
def Bt.nm : Bt → Str
  | .len => "len" | .abs => "abs" | .int => "int" | .list => "list" | .tuple => "tuple" | .sum => "sum" | .any => "any" | .all => "all" | .max => "max" | .min => "min" | .repr => "repr" | .sorted => "sorted"
def btOp : Bt → Op
  | .len => oLen | .abs => oAbs | .int => oInt | .list => oList | .tuple => oTuple | .sum => oSum | .any => oAny | .all => oAll | .max => oMax | .min => oMin | .repr => oRepr | .sorted => oSorted
def btAll : List Bt := [.len, .abs, .int, .list, .tuple, .sum, .any, .all, .max, .min, .repr, .sorted]
def btFind (x : Str) : List Bt → Option Bt
  | [] => none
  | b :: l => if b.nm = x then some b else btFind x l
theorem btFind_ok {x : Str} : ∀ {l : List Bt} {b : Bt}, btFind x l = some b → b.nm = x
  | [], _, h => by cases h
  | b :: l, _, h => by
    unfold btFind at h
    split at h
    · cases h; assumption
    · exact btFind_ok h
def tyAll : List BT := [.int, .bool, .str, .tuple, .list]
def tyNm (b : BT) : Str := b.nm
def tyFind (x : Str) : List BT → Option BT
  | [] => none
  | b :: l => if tyNm b = x then some b else tyFind x l
theorem tyFind_ok {x : Str} : ∀ {l : List BT} {b : BT}, tyFind x l = some b → tyNm b = x
  | [], _, h => by cases h
  | b :: l, _, h => by
    unfold tyFind at h
    split at h
    · cases h; assumption
    · exact tyFind_ok h
/-- the built-ins' names, which the module has not bound -/
def bltNames : List Str := ["len", "abs", "int", "list", "tuple", "sum", "any", "all", "max", "min", "isinstance", "bool", "str", "range", "repr", "sorted", "zip", "enumerate", "reversed", "set", "dict"]

section
variable {X : Cx} {W : WX}
theorem bt_call (b : Bt) {e : Expr} {es : List Expr} {fs : List Den} {p pos : Pos} (hc : X.calm = true) (gu : X.A.guards = some []) (hu : X.A.units + 140 < cLine) (hg : Gl X b.nm) (hm : X.mg b.nm = none) (ns : (e :: es).all notStar = true) (ha : PA X (e :: es) (LA X W (dArgs fs))) :
    PE X (.Call (.Name b.nm p) (e :: es) [] pos) (LE X W (dApp (btOp b) fs)) := by
  cases b with
  | len => exact d_callB call_len od_len hg hm rfl (by decide) (by decide) ns ha
  | abs => exact d_callB call_abs od_abs hg hm rfl (by decide) (by decide) ns ha
  | int => exact d_callTy call_int1 od_int1 hg hm rfl (by decide) (by decide) ns ha
  | list => exact d_callTy call_list_of od_list hg hm rfl (by decide) (by decide) ns ha
  | tuple => exact d_callTy call_tuple_of od_tuple hg hm rfl (by decide) (by decide) ns ha
  | sum => exact d_callB (cr_sum hc) od_sum hg hm rfl (by decide) (by decide) ns ha
  | any => exact d_callB (cr_any hc) od_any hg hm rfl (by decide) (by decide) ns ha
  | all => exact d_callB (cr_all hc) od_all hg hm rfl (by decide) (by decide) ns ha
  | max => exact d_callB ((call_max2 hc).or ((cr_max hc).or (call_max3Nu hc))) od_max hg hm rfl (by decide) (by decide) ns ha
  | min => exact d_callB ((call_min2 hc).or (cr_min hc)) od_min hg hm rfl (by decide) (by decide) ns ha
  | repr => exact d_callB (call_repr gu hu) od_repr hg hm rfl (by decide) (by decide) ns ha
  | sorted => exact d_callB (cr_sortedD (by omega)) od_sorted hg hm rfl (by decide) (by decide) ns ha
end
/-- operators -/
def binO : Operator → Option Op
  | .Add => some oAdd | .Sub => some oSub | .Mult => some oMul | .FloorDiv => some oDiv | .Mod => some oMod | .Pow => some oPow | .LShift => some oShl | .RShift => some oShr
  | _ => none
def cmpO : CmpOp → Option Op
  | .Eq => some oEq | .NotEq => some oNe | .Lt => some oLtI | .LtE => some oLe | .Gt => some oGt | .GtE => some oGe | .Is => some oIs | .IsNot => some oIsNot | .In => some oIn | .NotIn => some oNotIn
theorem binO_ok {X : Cx} {op : Operator} {o : Op} (h : binO op = some o) : ∃ r, OpR X (binaryOp op) r ∧ OpT X (r2 r) o := by
  cases op <;> simp only [binO, Option.some.injEq, reduceCtorEq] at h <;> subst h
  · exact ⟨_, op_addA, od_add⟩
  · exact ⟨_, op_sub, od_sub.t⟩
  · exact ⟨_, op_mulA, od_mul⟩
  · exact ⟨_, op_modN, od_mod.t⟩
  · exact ⟨_, op_pow, od_pow.t⟩
  · exact ⟨_, op_shlW, od_shl.t⟩
  · exact ⟨_, op_shr, od_shr.t⟩
  · exact ⟨_, op_fdivA, od_div.t⟩
theorem cmpO_ok {X : Cx} {op : CmpOp} {o : Op} (hu : X.A.units + 65 < cLine) (h : cmpO op = some o) : ∃ r, OpR X (compareOp op) r ∧ OpT X (r2 r) o := by
  cases op <;> simp only [cmpO, Option.some.injEq, reduceCtorEq] at h <;> subst h
  · exact ⟨_, op_eq.or (op_eqD (by omega)), od_eq.t⟩
  · exact ⟨_, op_ne.or (op_neD (by omega)), od_ne.t⟩
  · exact ⟨_, op_ltA hu, od_lt.t⟩
  · exact ⟨_, op_le, od_cmp.t⟩
  · exact ⟨_, op_gt, od_cmp.t⟩
  · exact ⟨_, op_ge, od_cmp.t⟩
  · exact ⟨_, op_isN, od_is.t⟩
  · exact ⟨_, op_notN, od_isnot.t⟩
  · exact ⟨_, op_inA hu, od_in.t⟩
  · exact ⟨_, op_notInA hu, od_notin.t⟩
/-- methods of lists -/
inductive Mt where
  | append | pop | reverse
def Mt.nm : Mt → Str
  | .append => "append" | .pop => "pop" | .reverse => "reverse"
def mtOp : Mt → MOp
  | .append => mAppend | .pop => mPop0 | .reverse => mReverse
def Mt.ar : Mt → Nat
  | .append => 1 | .pop => 0 | .reverse => 0
def mtAll : List Mt := [.append, .pop, .reverse]
def mtFind (x : Str) (n : Nat) : List Mt → Option Mt
  | [] => none
  | b :: l => if b.nm = x ∧ b.ar = n then some b else mtFind x n l
theorem mtFind_ok {x : Str} {n : Nat} : ∀ {l : List Mt} {b : Mt}, mtFind x n l = some b → b.nm = x ∧ b.ar = n
  | [], _, h => by cases h
  | b :: l, _, h => by
    unfold mtFind at h
    split at h
    · cases h; assumption
    · exact mtFind_ok h
section
variable {X : Cx} {W : WX}
theorem mt_call (m : Mt) {i : Nat} {es : List Expr} {fs : List Den} {x : Str} {p apos cpos : Pos} (hN : X.N[i]? = some x) (hv : Vis X.env.scope x) (hd : (x == ("__debug__" : Str)) = false) (hcd : (x == ("__classdict__" : Str)) = false) (ns : es.all notStar = true)
    (hl : es.length = m.ar) (hf : fs.length = es.length) (hline : (apos.endLine == cpos.line) = true) (ha : PA X es (LA X W (dArgs fs))) : PE X (.Call (.Attribute (.Name x p) m.nm apos) es [] cpos) (LE X W (dMeth i (mtOp m) fs)) := by
  cases m with
  | append =>
    match es, hl with
    | [e], _ => exact d_meth PySem.F.plainAttrs_list PySem.F.slot_list_append PySem.F.type_list_append mt_append md_append hN hv hd hcd ns (by simp) hline ha
  | pop =>
    match es, hl with
    | [], _ =>
      cases fs with
      | nil => exact d_meth0 PySem.F.plainAttrs_list PySem.F.slot_list_pop PySem.F.type_list_pop mt_pop md_pop0 hN hv hd hcd hline
      | cons f fs => cases hf
  | reverse =>
    match es, hl with
    | [], _ =>
      cases fs with
      | nil => exact d_meth0 PySem.F.plainAttrs_list PySem.F.slot_list_reverse PySem.F.type_list_reverse mt_reverse md_reverse hN hv hd hcd hline
      | cons f fs => cases hf
end
/-! ### bit_length -/
def oBits : Op
  | [.int i] => dat (.int (Builtin.Int.intBits i : Nat))
  | _ => none
def notSuper : Expr → Bool
  | .Call (.Name _ _) [] [] _ => false
  | _ => true
theorem super_of {o : Expr} (h : notSuper o = true) (name : Str) (env : Env) (whole : Sem Value) : attributeBase o name env whole = whole := by
  cases o with
  | Call f es kws p =>
    cases f <;> first | rfl | (cases es with
      | nil => (cases kws with
        | nil => cases h
        | cons k ks => rfl)
      | cons e es => rfl)
  | _ => rfl
theorem d_bits {X : Cx} {W : WX} {o : Expr} {f : Den} {apos pos : Pos} (ho : PE X o (LE X W f)) (hb : notSuper o = true) (hl : (apos.endLine == pos.line) = true) : PE X (.Call (.Attribute o "bit_length" apos) [] [] pos) (LE X W (dApp oBits [f])) := by
  refine PE.imp (pe_bits ho (super_of hb _ _ _) hl) fun σ H Q h => ?_
  have od : OpT X (fun vs H Q => ∃ i, vs = [V.int i] ∧ Q (.int (Builtin.Int.intBits i : Nat)) H) oBits := by
    refine opTn (fun H F d x res Q ht h1 ho hQ => ?_) fun ds res h => ?_
    · unfold oBits at ho
      split at ho
      · rename_i i hh
        cases hh
        exact ⟨i, by rw [h1.int], give ho rfl hQ⟩
      · cases ho
    · unfold oBits at h
      split at h <;> first | exact ⟨_, rfl⟩ | cases h
  refine (la_cons (appT od h)).mono fun x H1 h1 => ?_
  obtain ⟨i, e, q⟩ := la_nil h1
  cases e
  exact ⟨i, rfl, q⟩
end DL
set_option maxHeartbeats 2000000
/-! DL, part 15: the compiler, and that it is right. -/
namespace DL
open PySem PySem.Spec PyProof.Rows L2

def dBad : Den := fun _ => .bad
def tBad : DEnv → Out Bool := fun _ => .bad
def iBad : DEnv → Out (List D) := fun _ => .bad
def pBad : DEnv → Out (Option Int) := fun _ => .bad
def sBad : SDen := fun _ => .bad
def gBad : List Nat × Tgt := ([], fun _ _ => none)
structure Comp where
  E : Expr → Den
  T : Expr → DEnv → Out Bool
  I : Expr → Expr → DEnv → Out (List D)
  G : Expr → List Nat × Tgt
  S : Stmt → SDen
def Comp.nil : Comp := ⟨fun _ => dBad, fun _ => tBad, fun _ _ => iBad, fun _ => gBad, fun _ => sBad⟩
def Comp.B (C : Comp) : List Stmt → SDen
  | [] => sNext
  | [s] => C.S s
  | s :: t :: r => sSeq (C.S s) (C.B (t :: r))
def Comp.Ts (C : Comp) : List Expr → DEnv → Out Bool
  | [] => dYes
  | [t] => C.T t
  | _ => tBad
def Comp.P (C : Comp) : Option Expr → DEnv → Out (Option Int)
  | none => dNoPart
  | some e => dPart (C.E e)

def constD : Const → Den
  | .none => dC .non
  | .bool b => dC (.bl b)
  | .int i => dC (.int i)
  | .str s => dC (.str s)
  | _ => dBad
def nameD (Γ : Ct) (x : Str) : Den :=
  bif visK (Γ.sc.names.lookup x) then (match slotOf Γ x with
    | some i => dVar i
    | none => dBad)
  else bif glK (Γ.sc.names.lookup x) then (match ksOf x Γ.ks with
    | some d => dC d
    | none => dBad)
  else dBad
def andsD : List Den → Den
  | [] => dBad
  | [f] => f
  | f :: g :: r => dAnd f (andsD (g :: r))
def orsD : List Den → Den
  | [] => dBad
  | [f] => f
  | f :: g :: r => dOr f (orsD (g :: r))
def andsT : List (DEnv → Out Bool) → DEnv → Out Bool
  | [] => tBad
  | [f] => f
  | f :: g :: r => dAndT f (andsT (g :: r))
def orsT : List (DEnv → Out Bool) → DEnv → Out Bool
  | [] => tBad
  | [f] => f
  | f :: g :: r => dOrT f (orsT (g :: r))
def cmpD (C : Comp) (a : Expr) : List CmpOp → List Expr → Den
  | [op], [b] => bif notSet b then (match cmpO op with
    | some o => dApp o [C.E a, C.E b]
    | none => dBad) else dBad
  | [op, op'], [b, c] => bif notSet c then (match cmpO op, cmpO op' with
    | some o, some o' => dChain o o' (C.E a) (C.E b) (C.E c)
    | _, _ => dBad) else dBad
  | _, _ => dBad
def subD (C : Comp) (a : Expr) : Expr → Den
  | .Slice lo hi none _ => dSlice (C.E a) (C.P lo) (C.P hi)
  | ix => bif notSlice ix then dApp oIx [C.E a, C.E ix] else dBad
def isiTy (Γ : Ct) (C : Comp) : List Expr → Den
  | [e, .Name T _] => bif glK (Γ.sc.names.lookup T) then (match tyFind T tyAll with
    | some b => dApp (oIsi b) [C.E e]
    | none => dBad) else dBad
  | _ => dBad
def callD (Γ : Ct) (C : Comp) (x : Str) (es : List Expr) : Den := match fnOf x Γ.fns 0 with
  | some (i, fe) => bif Nat.beq fe.ar es.length then (bif fe.io then dCallIo (Γ.c i) (es.map C.E) else dCall (Γ.c i) (es.map C.E)) else dBad
  | none => match btFind x btAll with
    | some b => dApp (btOp b) (es.map C.E)
    | none => bif decide (x = "isinstance") then isiTy Γ C es else dBad
def extOf (name : Str) : List Expr → Option Expr
  | [e] => if name = "extend" then some e else none
  | _ => none
def methD (Γ : Ct) (C : Comp) (x name : Str) (l1 l2 : Nat) (es : List Expr) : Den :=
  bif (visK (Γ.sc.names.lookup x) && es.all notStar && l1 == l2) then (match slotOf Γ x, extOf name es with
    | some i, some e => dExtend i [C.E e]
    | some i, none => (match mtFind name es.length mtAll with
      | some m => dMeth i (mtOp m) (es.map C.E)
      | none => dBad)
    | none, _ => dBad) else dBad
def attrD (Γ : Ct) (C : Comp) (name : Str) (l1 l2 : Nat) (es : List Expr) : Expr → Den
  | .Name x _ => methD Γ C x name l1 l2 es
  | _ => dBad
def isRange (Γ : Ct) (x : Str) : Bool := decide (x = "range") && glK (Γ.sc.names.lookup x) && (match fnOf x Γ.fns 0 with | none => true | _ => false)
/-- list(range(..)), or else a call -/
def listD (Γ : Ct) (C : Comp) (x : Str) : List Expr → Den
  | [.Call (.Name y p) [a] [] q] => bif decide (x = "list") && isRange Γ y && notStar a then dListR [C.E a] else callD Γ C x [.Call (.Name y p) [a] [] q]
  | [.Call (.Name y p) [a, b] [] q] => bif decide (x = "list") && isRange Γ y && notStar a && notStar b then dListR [C.E a, C.E b] else callD Γ C x [.Call (.Name y p) [a, b] [] q]
  | es => callD Γ C x es
def callsD (Γ : Ct) (C : Comp) (cpos : Pos) : Expr → List Expr → List Keyword → Den
  | .Name x _, e :: es, [] => bif glK (Γ.sc.names.lookup x) && (e :: es).all notStar then listD Γ C x (e :: es) else dBad
  | .Attribute o name apos, es, [] => bif decide (name = "bit_length") && es.isEmpty && apos.endLine == cpos.line && notSuper o then dApp oBits [C.E o] else attrD Γ C name apos.endLine cpos.line es o
  | _, _, _ => dBad
/-- a comprehension's own names and their slots -/
def ownOf (Γ : Ct) : List (Str × NameKind) → List (Str × Nat)
  | [] => []
  | (n, k) :: r => bif locK true (some k) then (match slotOf Γ n with
    | some i => (n, i) :: ownOf Γ r
    | none => ownOf Γ r) else ownOf Γ r
def Ct.blk (Γ : Ct) (scope : Scope) : Ct := { Γ with sc := relS scope Γ.sc, fn := fun x => scope.names.lookup x == some .cell }
def lcOk (Γ : Ct) (C : Ct → Comp) (tg iter : Expr) (scope : Scope) : Bool :=
  notSet iter && blkC Γ.N Γ.sc scope (ownOf Γ scope.names) && ((C (Γ.blk scope)).G tg).1.all fun i => ((ownOf Γ scope.names).map (·.2)).contains i
def lcD (Γ : Ct) (C : Ct → Comp) (elt tg iter : Expr) (ifs : List Expr) (scope : Scope) : Den :=
  bif lcOk Γ C tg iter scope then dComp ((ownOf Γ scope.names).map (·.2)) ((C Γ).I tg iter) ((C (Γ.blk scope)).G tg).2 ((C (Γ.blk scope)).Ts ifs) ((C (Γ.blk scope)).E elt) else dBad
def compD (Γ : Ct) (C : Ct → Comp) (elt : Expr) (scope : Scope) : List Comprehension → Den
  | [⟨tg, iter, ifs, 0⟩] => lcD Γ C elt tg iter ifs scope
  | _ => dBad
def stepE (Γ : Ct) (C : Ct → Comp) : Expr → Den
  | .Constant k _ _ => constD k
  | .Name x _ => nameD Γ x
  | .Tuple es _ _ => bif Nat.ble es.length 1000 && es.all notStar then dTup (es.map (C Γ).E) else dBad
  | .List es _ => bif Nat.ble es.length 1000 && es.all notStar then dLst (es.map (C Γ).E) else dBad
  | .BinOp a op b _ => match binO op with
    | some o => dApp o [(C Γ).E a, (C Γ).E b]
    | none => dBad
  | .UnaryOp .USub a _ => dApp oNeg [(C Γ).E a]
  | .UnaryOp .Not a _ => dNot ((C Γ).E a)
  | .BoolOp .And es _ => andsD (es.map (C Γ).E)
  | .BoolOp .Or es _ => orsD (es.map (C Γ).E)
  | .IfExp c a b _ => dIf ((C Γ).T c) ((C Γ).E a) ((C Γ).E b)
  | .Compare a ops cs _ => cmpD (C Γ) a ops cs
  | .Subscript a ix _ => subD (C Γ) a ix
  | .Call f es kws pos => callsD Γ (C Γ) pos f es kws
  | .ListComp elt gs scope _ => compD Γ C elt scope gs
  | _ => dBad
def stepT (Γ : Ct) (C : Ct → Comp) : Expr → DEnv → Out Bool
  | .UnaryOp .Not a _ => dNotT ((C Γ).T a)
  | .BoolOp .And es _ => andsT (es.map (C Γ).T)
  | .BoolOp .Or es _ => orsT (es.map (C Γ).T)
  | .IfExp _ _ _ _ => tBad
  | .Compare a ops cs _ => dBool (cmpD (C Γ) a ops cs)
  | e => dTru ((C Γ).E e)
def isZip (Γ : Ct) (x : Str) : Bool := decide (x = "zip") && glK (Γ.sc.names.lookup x) && (match fnOf x Γ.fns 0 with | none => true | _ => false)
def isTupE : Expr → Bool
  | .Tuple _ _ _ => true
  | _ => false
def stepI (Γ : Ct) (C : Ct → Comp) (tg : Expr) : Expr → DEnv → Out (List D)
  | .Call (.Name x p) [a] [] pos => bif isRange Γ x then (bif notStar a then dRng [(C Γ).E a] else iBad) else dIter ((C Γ).E (.Call (.Name x p) [a] [] pos))
  | .Call (.Name x p) [a, b] [] pos => bif isRange Γ x then (bif notStar a && notStar b then dRng [(C Γ).E a, (C Γ).E b] else iBad) else bif isZip Γ x && isTupE tg then (bif notStar a && notStar b then dZip [(C Γ).E a, (C Γ).E b] else iBad) else dIter ((C Γ).E (.Call (.Name x p) [a, b] [] pos))
  | e => dIter ((C Γ).E e)
def gsD (C : Comp) : List Expr → List Nat × (List D → DEnv → Option DEnv)
  | [] => ([], tNil')
  | e :: es => ((C.G e).1 ++ (gsD C es).1, tCons' (C.G e).2 (gsD C es).2)
def stepG (Γ : Ct) (C : Ct → Comp) : Expr → List Nat × Tgt
  | .Name x _ => bif locK (Γ.fn x) (Γ.sc.names.lookup x) then (match slotOf Γ x with
    | some i => ([i], tName i)
    | none => gBad) else gBad
  | .Tuple es _ _ => bif es.all notStar then ((gsD (C Γ) es).1, tTupT es.length (gsD (C Γ) es).2) else gBad
  | _ => gBad
/-- a slot that may be stored to -/
def slotS (Γ : Ct) (x : Str) : Option Nat :=
  bif locK (Γ.fn x) (Γ.sc.names.lookup x) then (match slotOf Γ x with
    | some i => bif !Γ.j0 || !(Nat.beq i 0) then some i else none
    | none => none) else none
def notLcE : Expr → Bool := notLC
def swB (Γ : Ct) (t : Str) (py pos : Pos) (scope : Scope) : Bool :=
  isLoc (Γ.sc.names.lookup t) && (py.line == pos.line) && !(scope.names.any fun (n, k) => n == t && (k == .local || k == .cell))
def parOk (Γ : Ct) (x y : Str) (px py : Pos) (a b : Expr) : Bool :=
  isLoc (Γ.sc.names.lookup x) && isLoc (Γ.sc.names.lookup y) && !(y == x) && (py.line == px.line) && notStar a && notStar b && !([a, b].all (foldedForSure 8)) && !([a, b].all (constantsAlone 8))
def parD (Γ : Ct) (C : Comp) (x y : Str) (px py : Pos) (a b : Expr) : SDen :=
  bif parOk Γ x y px py a b then (match slotS Γ x, slotS Γ y with
    | some i, some j => bif !(Nat.beq i j) then sPar i j [C.E a, C.E b] else sBad
    | _, _ => sBad) else sBad
def asgD (Γ : Ct) (C : Comp) (tg e : Expr) : SDen :=
  bif ((notLC e || !notTupT tg) && (notTupT tg || notTup e) && notStar tg && (!Γ.j0 || !(C.G tg).1.contains 0)) then sAsg (C.E e) (C.G tg).2 else sBad
def setD (Γ : Ct) (C : Comp) (x : Str) (py : Pos) : Expr → SDen
  | .ListComp elt gs scope pos => match slotS Γ x with
    | some i => sSet i (C.E (.ListComp elt gs scope pos))
    | none => sBad
  | e => bif notLC e then (match slotS Γ x with
    | some i => sSet i (C.E e)
    | none => sBad) else sBad
def assignD (Γ : Ct) (C : Ct → Comp) : Expr → Expr → SDen
  | .Name x py, .ListComp elt [⟨tg, iter, ifs, 0⟩] scope pos => match slotS Γ x with
    | some i => sSet i (lcD Γ C elt tg iter ifs scope)
    | none => sBad
  | .Name x py, e => bif notLC e then (match slotS Γ x with
    | some i => sSet i ((C Γ).E e)
    | none => sBad) else sBad
  | .Subscript (.Name x _) i _, e => bif visK (Γ.sc.names.lookup x) && notLC e && notSlice i then (match slotOf Γ x with
    | some j => sItem j ((C Γ).E i) ((C Γ).E e)
    | none => sBad) else sBad
  | .Tuple [.Name x px, .Name y py] _ _, .Tuple [a, b] _ _ => parD Γ (C Γ) x y px py a b
  | .Tuple ts k p, e => asgD Γ (C Γ) (.Tuple ts k p) e
  | _, _ => sBad
def exprD (C : Comp) : Expr → SDen
  | .Constant (.str _) _ _ => sNext
  | e => bif notLC e then sDrop (C.E e) else sBad
noncomputable def stepS (Γ : Ct) (C : Ct → Comp) : Stmt → SDen
  | .Pass _ => sNext
  | .Break _ => fun ρ => .bk ρ
  | .Continue _ => fun ρ => .ct ρ
  | .Expr e _ => exprD (C Γ) e
  | .Return (some e) _ => sRet ((C Γ).E e)
  | .Return none _ => fun ρ => .rt (.d .non) ρ
  | .If c a b _ => sIf ((C Γ).T c) ((C Γ).B a) ((C Γ).B b)
  | .While c b [] _ => sWhile ((C Γ).T c) ((C Γ).B b)
  | .For tg it b [] _ => bif notSet it && (!Γ.j0 || !((C Γ).G tg).1.contains 0) then sFor ((C Γ).I tg it) ((C Γ).G tg).2 ((C Γ).B b) else sBad
  | .Assign [tg] e _ => assignD Γ C tg e
  | _ => sBad
end DL
set_option maxHeartbeats 2000000
/-! DL, part 16: the compiler is right. -/
namespace DL
open PySem PySem.Spec PyProof.Rows L2

structure Good (Γ : Ct) (X : Cx) (W : WX) : Prop where
  N : X.N = Γ.N
  nd : X.N.Nodup
  sc : X.env.scope = Γ.sc
  kind : Γ.sc.kind = .function
  fn : X.fn = Γ.fn
  calm : X.calm = true
  hu : X.A.units + 140 < cLine
  gu : X.A.guards = some []
  tk : Takes X W
  pw : PassesOwn (model X.prog X.w) X.A X.env X.xe
  pl : ∀ x ∈ Γ.N, (x == ("__debug__" : Str)) = false ∧ (x == ("__classdict__" : Str)) = false
  fns : ∀ i fe, Γ.fns[i]? = some fe → (fe.nm == ("__debug__" : Str)) = false ∧ ∃ k f fd ps, FnG X.prog X.w X.K X.mg X.base (L2.CX X.prog X.w) k f fd ps (SpD X.K X.mg fe.ar fe.io (Γ.c i)) ∧ Room k X.A ∧ X.mg fe.nm = some (.ref f) ∧ PySem.W.keepIn X.K (.ref f) = true ∧ Binds X.K fd ps []
  ks : ∀ p ∈ Γ.ks, (p.1 == ("__debug__" : Str)) = false ∧ ∃ v u, X.mg p.1 = some u ∧ RelV v u ∧ ∀ H F, Rep X.K H F p.2 v
  blt : ∀ x ∈ bltNames, X.mg x = none
structure Snd (C : Comp) (Γ : Ct) (X : Cx) (W : WX) : Prop where
  E : ∀ e, PE X e (LE X W (C.E e))
  T : ∀ e, PT X e (LT X W (C.T e))
  I : ∀ tg e, PI X tg e (LI X W (C.I tg e))
  G : ∀ e, PG X e (LG X (C.G e).1 (C.G e).2)
  S : ∀ s, PS X s (LS X W Γ.j0 (C.S s))
section
variable {Γ : Ct} {X : Cx} {W : WX} {C : Comp} {j0 : Bool}
theorem bad_E {e : Expr} : PE X e (LE X W dBad) := ⟨fun _ _ _ _ _ _ h => by
  obtain ⟨_, _, _, z⟩ := h
  exact z.elim⟩
theorem bad_T {e : Expr} : PT X e (LT X W tBad) := ⟨fun _ _ _ _ _ _ h => by
  obtain ⟨_, _, _, z⟩ := h
  exact z.elim⟩
theorem bad_W {e : Expr} : PW X e (LT X W tBad) := ⟨fun _ _ _ _ _ _ _ h => by
  obtain ⟨_, _, _, z⟩ := h
  exact z.elim⟩
theorem bad_Ts {e : List Expr} : PTs X e (LT X W tBad) := ⟨fun _ _ _ _ _ _ h => by
  obtain ⟨_, _, _, z⟩ := h
  exact z.elim⟩
theorem bad_I {tg e : Expr} : PI X tg e (LI X W iBad) := ⟨fun _ _ _ _ _ _ h => by
  obtain ⟨_, _, _, z⟩ := h
  exact z.elim⟩
theorem bad_S {s : Stmt} : PS X s (LS X W j0 sBad) := ⟨fun _ _ _ _ _ _ h => by
  obtain ⟨_, _, _, z⟩ := h
  exact z.elim⟩
theorem bad_SS {s : Stmt} {i : Nat} : PS X s (LS X W j0 (sSet i dBad)) := ⟨fun _ _ _ _ _ _ h => by
  obtain ⟨_, _, _, z⟩ := h
  exact z.elim⟩
theorem bad_G {e : Expr} : PG X e (LG X gBad.1 gBad.2) := ⟨fun _ _ _ _ _ _ _ _ _ h => by
  obtain ⟨_, _, _, _, _, _, z, _⟩ := h
  cases z⟩
theorem bif_E {b : Bool} {e : Expr} {f g : Den} (h1 : b = true → PE X e (LE X W f)) (h2 : b = false → PE X e (LE X W g)) : PE X e (LE X W (bif b then f else g)) := by
  cases b with
  | true => exact h1 rfl
  | false => exact h2 rfl
theorem bif_S {b : Bool} {e : Stmt} {f g : SDen} (h1 : b = true → PS X e (LS X W j0 f)) (h2 : b = false → PS X e (LS X W j0 g)) : PS X e (LS X W j0 (bif b then f else g)) := by
  cases b with
  | true => exact h1 rfl
  | false => exact h2 rfl
theorem bif_I {b : Bool} {tg e : Expr} {f g : DEnv → Out (List D)} (h1 : b = true → PI X tg e (LI X W f)) (h2 : b = false → PI X tg e (LI X W g)) : PI X tg e (LI X W (bif b then f else g)) := by
  cases b with
  | true => exact h1 rfl
  | false => exact h2 rfl
theorem Good.gl (g : Good Γ X W) {x : Str} (h : glK (Γ.sc.names.lookup x) = true) : Gl X x := by
  show X.env.scope.names.lookup x = _
  rw [g.sc]
  exact glK_ok h
theorem Good.vis (g : Good Γ X W) {x : Str} (h : visK (Γ.sc.names.lookup x) = true) : Vis X.env.scope x := by
  rw [g.sc]
  exact visK_ok h
theorem Good.slot (g : Good Γ X W) {x : Str} {i : Nat} (h : slotOf Γ x = some i) : X.N[i]? = some x := by
  rw [g.N]; exact slotOf_ok h
theorem Good.plain (g : Good Γ X W) {x : Str} {i : Nat} (h : slotOf Γ x = some i) : (x == ("__debug__" : Str)) = false ∧ (x == ("__classdict__" : Str)) = false :=
  g.pl x (List.mem_of_getElem? (slotOf_ok h))
theorem Good.loc (g : Good Γ X W) {x : Str} (h : locK (Γ.fn x) (Γ.sc.names.lookup x) = true) : L2.Loc X.env.scope x ∧ (X.fn x = true ∨ X.env.scope.names.lookup x = some .local) := by
  rw [g.sc, g.fn]
  exact locK_ok h

/-! ### expressions -/
theorem const_ok {k : Const} {j : Nat} {p : Pos} : PE X (.Constant k j p) (LE X W (constD k)) := by
  cases k with
  | none => exact d_const (v := .non) rfl pe_non
  | bool b => exact d_const (v := .bl b) rfl pe_bl
  | int b => exact d_const (v := .int b) rfl pe_int
  | str b => exact d_const (v := .str b) rfl pe_str
  | _ => exact bad_E
theorem d_konst {e : Expr} {d : D} {v : V} (hd : ∀ H F, Rep X.K H F d v) (h : PE X e (tC v)) : PE X e (LE X W (dC d)) := by
  refine PE.imp h fun σ H Q h => ?_
  obtain ⟨F, ρ, e, h⟩ := h
  exact h v H F e.refl e (fun _ z => z) (hd H F)
theorem name_ok (g : Good Γ X W) {x : Str} {p : Pos} : PE X (.Name x p) (LE X W (nameD Γ x)) := by
  unfold nameD
  refine bif_E (fun h => ?_) fun _ => bif_E (fun h => ?_) fun _ => bad_E
  · cases q : slotOf Γ x with
    | none => exact bad_E
    | some i => exact d_var (g.slot q) (g.vis h) (g.plain q).1 (g.plain q).2
  · cases q : ksOf x Γ.ks with
    | none => exact bad_E
    | some d =>
      obtain ⟨hd, v, u, hm, r, hr⟩ := g.ks _ (ksOf_ok q)
      exact d_konst hr (pe_glob (g.gl h) hm r hd)
theorem args_ok (s : Snd C Γ X W) : ∀ {es : List Expr}, es.all notStar = true → PA X es (LA X W (dArgs (es.map C.E)))
  | [], _ => d_nil
  | e :: es, h => by
    rw [List.all_cons, Bool.and_eq_true] at h
    exact d_cons h.1 (s.E e) (args_ok s h.2)
theorem ands_ok (s : Snd C Γ X W) {p : Pos} : ∀ {es : List Expr}, PE X (.BoolOp .And es p) (LE X W (andsD (es.map C.E)))
  | [] => bad_E
  | [e] => d_one (s.E e)
  | e :: a :: es => d_and (s.E e) (ands_ok s)
theorem ors_ok (s : Snd C Γ X W) {p : Pos} : ∀ {es : List Expr}, PE X (.BoolOp .Or es p) (LE X W (orsD (es.map C.E)))
  | [] => bad_E
  | [e] => d_one (s.E e)
  | e :: a :: es => d_or (s.E e) (ors_ok s)
theorem andsT_ok (s : Snd C Γ X W) {p : Pos} : ∀ {es : List Expr}, PW X (.BoolOp .And es p) (LT X W (andsT (es.map C.T)))
  | [] => bad_W
  | [e] => pw_and1 (s.T e)
  | e :: a :: es => t_and (s.T e) (andsT_ok s)
theorem orsT_ok (s : Snd C Γ X W) {p : Pos} : ∀ {es : List Expr}, PW X (.BoolOp .Or es p) (LT X W (orsT (es.map C.T)))
  | [] => bad_W
  | [e] => pw_or1 (s.T e)
  | e :: a :: es => t_or (s.T e) (orsT_ok s)
theorem cmp_ok (g : Good Γ X W) (s : Snd C Γ X W) {a : Expr} {ops : List CmpOp} {cs : List Expr} {p : Pos} : PE X (.Compare a ops cs p) (LE X W (cmpD C a ops cs)) := by
  unfold cmpD
  split
  · rename_i op b
    refine bif_E (fun h => ?_) fun _ => bad_E
    cases q : cmpO op with
    | none => exact bad_E
    | some o =>
      obtain ⟨r, ho, od⟩ := cmpO_ok (X := X) (by have := g.hu; omega) q
      exact d_cmp ho od h (s.E a) (s.E b)
  · rename_i op op' b c
    refine bif_E (fun h => ?_) fun _ => bad_E
    split
    · rename_i o o' q q'
      obtain ⟨r, ho, od⟩ := cmpO_ok (X := X) (by have := g.hu; omega) q
      obtain ⟨r', ho', od'⟩ := cmpO_ok (X := X) (by have := g.hu; omega) q'
      exact d_chain ho ho' od od' h (s.E a) (s.E b) (s.E c)
    · exact bad_E
  · exact bad_E
theorem tcmp_ok (g : Good Γ X W) (s : Snd C Γ X W) {a : Expr} {ops : List CmpOp} {cs : List Expr} {p : Pos} : PT X (.Compare a ops cs p) (LT X W (dBool (cmpD C a ops cs))) := by
  have bad : PT X (.Compare a ops cs p) (LT X W (dBool dBad)) := bad_T
  unfold cmpD
  split
  · rename_i op b
    cases h : notSet b with
    | false => exact bad_T
    | true =>
      cases q : cmpO op with
      | none => exact bad_T
      | some o =>
        obtain ⟨r, ho, od⟩ := cmpO_ok (X := X) (by have := g.hu; omega) q
        exact t_cmp ho od h (s.E a) (s.E b)
  · rename_i op op' b c
    cases h : notSet c with
    | false => exact bad_T
    | true =>
      cases q : cmpO op with
      | none => exact bad_T
      | some o =>
        cases q' : cmpO op' with
        | none => exact bad_T
        | some o' =>
          obtain ⟨r, ho, od⟩ := cmpO_ok (X := X) (by have := g.hu; omega) q
          obtain ⟨r', ho', od'⟩ := cmpO_ok (X := X) (by have := g.hu; omega) q'
          exact t_chain ho ho' od od' h (s.E a) (s.E b) (s.E c)
  · exact bad_T
theorem part_ok (s : Snd C Γ X W) {o : Option Expr} : PO X o (LP X W (C.P o)) := by
  cases o with
  | none => exact d_nopart
  | some e => exact d_part (s.E e)
theorem sub_ok (s : Snd C Γ X W) {a ix : Expr} {p : Pos} : PE X (.Subscript a ix p) (LE X W (subD C a ix)) := by
  unfold subD
  split
  · exact d_slice (s.E a) (part_ok s) (part_ok s)
  · exact bif_E (fun h => d_ix h (s.E a) (s.E _)) fun _ => bad_E
theorem isi_case (g : Good Γ X W) (s : Snd C Γ X W) {es : List Expr} {p pos : Pos} (hg : Gl X "isinstance") (ns : es.all notStar = true) : PE X (.Call (.Name "isinstance" p) es [] pos) (LE X W (isiTy Γ C es)) := by
  unfold isiTy
  split
  · rename_i e T p2
    refine bif_E (fun h => ?_) fun _ => bad_E
    cases q : tyFind T tyAll with
    | none => exact bad_E
    | some b =>
      have hT := tyFind_ok q
      subst hT
      have nse : notStar e = true := by
        rw [List.all_cons, Bool.and_eq_true] at ns
        exact ns.1
      have hm : X.mg (tyNm b) = none := g.blt _ (by cases b <;> decide)
      refine d_isi (b := b) hg (g.blt _ (by decide)) rfl (by decide) (by decide) (g.gl h) hm ?_ ?_ ?_ nse (s.E e)
      · cases b <;> rfl
      · cases b <;> decide
      · cases b <;> decide
  · exact bad_E
theorem call_case (g : Good Γ X W) (s : Snd C Γ X W) {x : Str} {e : Expr} {es : List Expr} {p pos : Pos} (hg : glK (Γ.sc.names.lookup x) = true) (ns : (e :: es).all notStar = true) : PE X (.Call (.Name x p) (e :: es) [] pos) (LE X W (callD Γ C x (e :: es))) := by
  unfold callD
  split
  · rename_i i fe q
    obtain ⟨k, hk, hf, rfl⟩ := fnOf_ok q
    have hk : i = 0 + k := hk
    have hf : Γ.fns[k]? = some fe := hf
    rw [Nat.zero_add] at hk; subst hk
    obtain ⟨hd, k, f, fd, ps, F, hr, hm, hkp, hb⟩ := g.fns _ _ hf
    refine bif_E (fun h => ?_) fun _ => bad_E
    have hl : ((e :: es).map C.E).length = fe.ar := by rw [List.length_map]; exact (Nat.eq_of_beq_eq_true h).symm
    cases q : fe.io with
    | true =>
      rw [q] at F
      exact d_callIo F hr g.gu (g.gl hg) hm hkp hb g.tk hl hd ns (args_ok s ns)
    | false =>
      rw [q] at F
      exact d_call F hr g.gu (g.gl hg) hm hkp hb g.tk hl hd ns (args_ok s ns)
  · split
    · rename_i b q
      have hb := btFind_ok q
      subst hb
      exact bt_call b g.calm g.gu g.hu (g.gl hg) (g.blt _ (by cases b <;> decide)) ns (args_ok s ns)
    · refine bif_E (fun h => ?_) fun _ => bad_E
      have h := of_decide_eq_true h
      subst h
      exact isi_case g s (g.gl hg) ns
theorem meth_case (g : Good Γ X W) (s : Snd C Γ X W) {x name : Str} {es : List Expr} {p apos pos : Pos} : PE X (.Call (.Attribute (.Name x p) name apos) es [] pos) (LE X W (methD Γ C x name apos.endLine pos.line es)) := by
  unfold methD
  refine bif_E (fun h => ?_) fun _ => bad_E
  rw [Bool.and_eq_true, Bool.and_eq_true] at h
  cases q : slotOf Γ x with
  | none => exact bad_E
  | some i =>
    cases q3 : extOf name es with
    | some e =>
      unfold extOf at q3
      split at q3
      · split at q3
        · rename_i hn
          cases q3
          subst hn
          have ns := h.1.2
          rw [List.all_cons, Bool.and_eq_true] at ns
          exact d_extend (g.slot q) (g.vis h.1.1) (g.plain q).1 (g.plain q).2 ns.1 h.2 (args_ok s h.1.2)
        · cases q3
      · cases q3
    | none =>
      cases q2 : mtFind name es.length mtAll with
      | none => exact bad_E
      | some m =>
        obtain ⟨h1, h2⟩ := mtFind_ok q2
        subst h1
        exact mt_call m (g.slot q) (g.vis h.1.1) (g.plain q).1 (g.plain q).2 h.1.2 h2.symm (List.length_map ..) h.2 (args_ok s h.1.2)
theorem range_ok (g : Good Γ X W) {x : Str} (h : isRange Γ x = true) : x = "range" ∧ Gl X x ∧ X.mg x = none := by
  unfold isRange at h
  rw [Bool.and_eq_true, Bool.and_eq_true] at h
  have e := of_decide_eq_true h.1.1
  exact ⟨e, g.gl h.1.2, by rw [e]; exact g.blt _ (by decide)⟩
theorem zip_ok' (g : Good Γ X W) {x : Str} (h : isZip Γ x = true) : x = "zip" ∧ Gl X x ∧ X.mg x = none := by
  unfold isZip at h
  rw [Bool.and_eq_true, Bool.and_eq_true] at h
  have e := of_decide_eq_true h.1.1
  exact ⟨e, g.gl h.1.2, by rw [e]; exact g.blt _ (by decide)⟩
theorem list_case (g : Good Γ X W) (s : Snd C Γ X W) {x : Str} {es : List Expr} {p pos : Pos} {e : Expr} (hg : glK (Γ.sc.names.lookup x) = true) (ns : (e :: es).all notStar = true) : PE X (.Call (.Name x p) (e :: es) [] pos) (LE X W (listD Γ C x (e :: es))) := by
  unfold listD
  split
  · rename_i y q a q' hh
    refine bif_E (fun h => ?_) fun _ => ?_
    · rw [Bool.and_eq_true, Bool.and_eq_true] at h
      cases hh
      have ex := of_decide_eq_true h.1.1
      subst ex
      obtain ⟨rfl, hg2, hm2⟩ := range_ok g h.1.2
      exact d_listR1 g.calm (g.gl hg) (g.blt _ (by decide)) hg2 hm2 h.2 (s.E _)
    · rw [← hh]
      exact call_case g s hg ns
  · rename_i y q a b q' hh
    refine bif_E (fun h => ?_) fun _ => ?_
    · rw [Bool.and_eq_true, Bool.and_eq_true, Bool.and_eq_true] at h
      cases hh
      have ex := of_decide_eq_true h.1.1.1
      subst ex
      obtain ⟨rfl, hg2, hm2⟩ := range_ok g h.1.1.2
      exact d_listR2 g.calm (g.gl hg) (g.blt _ (by decide)) hg2 hm2 h.1.2 h.2 (s.E _) (s.E _)
    · rw [← hh]
      exact call_case g s hg ns
  · exact call_case g s hg ns
theorem calls_ok (g : Good Γ X W) (s : Snd C Γ X W) {f : Expr} {es : List Expr} {kws : List Keyword} {pos : Pos} : PE X (.Call f es kws pos) (LE X W (callsD Γ C pos f es kws)) := by
  unfold callsD
  split
  · refine bif_E (fun h => ?_) fun _ => bad_E
    rw [Bool.and_eq_true] at h
    exact list_case g s h.1 h.2
  · refine bif_E (fun h => ?_) fun _ => ?_
    · rw [Bool.and_eq_true, Bool.and_eq_true, Bool.and_eq_true] at h
      have e := of_decide_eq_true h.1.1.1
      have e2 := List.isEmpty_iff.mp h.1.1.2
      subst e e2
      exact d_bits (s.E _) h.2 h.1.2
    · unfold attrD
      split
      · exact meth_case g s
      · exact bad_E
  · exact bad_E

/-! ### blocks -/
theorem ts_ok (s : Snd C Γ X W) {es : List Expr} : PTs X es (LT X W (C.Ts es)) := by
  unfold Comp.Ts
  split
  · exact t_nil
  · exact t_one (s.T _)
  · exact bad_Ts
theorem b_ok (s : Snd C Γ X W) : ∀ {b : List Stmt}, PSs X b (LS X W Γ.j0 (C.B b))
  | [] => s_nil
  | [t] => s_one (s.S t)
  | t :: u :: r => s_cons (s.S t) (b_ok s)
theorem Good.blk (g : Good Γ X W) {scope : Scope} {own : List (Str × Nat)} (h : BlkOk Γ.N Γ.sc scope own) (s : Shared) (H : Hp) (cA : Addr) (cl : List (Str × Addr)) (fp : List Addr) : Good (Γ.blk scope) (X.blk s H scope (compEnvC scope cl cA X.env) fp) (fun _ _ _ _ => False) := by
  refine ⟨g.N, g.nd, ?_, h.kind, rfl, g.calm, g.hu, g.gu, takes0, PassesOwn.never, g.pl, g.fns, g.ks, g.blt⟩
  show relS scope X.env.scope = relS scope Γ.sc
  rw [g.sc]
end
/-- a compiler is right -/
def SndC (C : Ct → Comp) : Prop := ∀ (Γ : Ct) (X : Cx) (W : WX), Good Γ X W → Snd (C Γ) Γ X W
section
variable {Γ : Ct} {X : Cx} {W : WX} {C : Ct → Comp} {j0 : Bool}
theorem lc_parts (hC : SndC C) (g : Good Γ X W) {tg iter : Expr} {scope : Scope} (h : lcOk Γ C tg iter scope = true) :
    notSet iter = true ∧ BlkOk X.N X.env.scope scope (ownOf Γ scope.names) ∧ (∀ i ∈ ((C (Γ.blk scope)).G tg).1, i ∈ (ownOf Γ scope.names).map (·.2)) ∧
      ∀ (s : Shared) (H : Hp) (cA : Addr) (cl : List (Str × Addr)) (fp : List Addr), Snd (C (Γ.blk scope)) (Γ.blk scope) (X.blk s H scope (compEnvC scope cl cA X.env) fp) (fun _ _ _ _ => False) := by
  unfold lcOk at h
  rw [Bool.and_eq_true, Bool.and_eq_true] at h
  have ok := blkOk_by h.1.2
  refine ⟨h.1.1, by rw [g.N, g.sc]; exact ok, fun i hi => ?_, fun s H cA cl fp => hC _ _ _ (g.blk ok s H cA cl fp)⟩
  have q := List.all_eq_true.mp h.2 i hi
  simpa using q
theorem lc_ok (hC : SndC C) (g : Good Γ X W) {elt tg iter : Expr} {ifs : List Expr} {scope : Scope} {pos : Pos} : PE X (.ListComp elt [⟨tg, iter, ifs, 0⟩] scope pos) (LE X W (lcD Γ C elt tg iter ifs scope)) := by
  unfold lcD
  refine bif_E (fun h => ?_) fun _ => bad_E
  obtain ⟨h1, h2, h3, h4⟩ := lc_parts hC g h
  exact d_comp g.calm g.nd rfl h3 h1 ((hC Γ X W g).I tg iter) h2 (fun s H cA cl fp => (h4 s H cA cl fp).G tg) (fun s H cA cl fp => ts_ok (h4 s H cA cl fp)) fun s H cA cl fp => (h4 s H cA cl fp).E elt
theorem comp_case (hC : SndC C) (g : Good Γ X W) {elt : Expr} {gs : List Comprehension} {scope : Scope} {pos : Pos} : PE X (.ListComp elt gs scope pos) (LE X W (compD Γ C elt scope gs)) := by
  unfold compD
  split
  · exact lc_ok hC g
  · exact bad_E
theorem stepE_ok (hC : SndC C) (g : Good Γ X W) (e : Expr) : PE X e (LE X W (stepE Γ C e)) := by
  have s := hC Γ X W g
  unfold stepE
  split
  · exact const_ok
  · exact name_ok g
  · refine bif_E (fun h => ?_) fun _ => bad_E
    rw [Bool.and_eq_true] at h
    exact d_tup (by rw [List.length_map]; exact Nat.le_of_ble_eq_true h.1) (args_ok s h.2)
  · refine bif_E (fun h => ?_) fun _ => bad_E
    rw [Bool.and_eq_true] at h
    exact d_lst (by rw [List.length_map]; exact Nat.le_of_ble_eq_true h.1) (args_ok s h.2)
  · split
    · rename_i o q
      obtain ⟨r, ho, od⟩ := binO_ok (X := X) q
      exact d_bin ho od (s.E _) (s.E _)
    · exact bad_E
  · exact d_un un_neg od_neg.t (s.E _)
  · exact d_not (s.E _)
  · exact ands_ok s
  · exact ors_ok s
  · exact d_if (s.T _) (s.E _) (s.E _)
  · exact cmp_ok g s
  · exact sub_ok s
  · exact calls_ok g s
  · exact comp_case hC g
  · exact bad_E
theorem stepT_ok (hC : SndC C) (g : Good Γ X W) (e : Expr) : PT X e (LT X W (stepT Γ C e)) := by
  have s := hC Γ X W g
  unfold stepT
  split
  · exact t_not (s.T _)
  · exact (andsT_ok s).pt
  · exact (orsT_ok s).pt
  · exact bad_T
  · exact tcmp_ok g s
  · rename_i h1 h2 h3 h4 h5
    refine t_tru ?_ (s.E e)
    cases e with
    | UnaryOp op a p =>
      cases op <;> first | rfl | exact absurd rfl (h1 _ _)
    | BoolOp op a p =>
      cases op <;> first | exact absurd rfl (h2 _ _) | exact absurd rfl (h3 _ _)
    | IfExp a b c p => exact absurd rfl (h4 _ _ _ _)
    | Compare a b c p => exact absurd rfl (h5 _ _ _ _)
    | _ => rfl
theorem stepI_ok (hC : SndC C) (g : Good Γ X W) (tg e : Expr) : PI X tg e (LI X W (stepI Γ C tg e)) := by
  have s := hC Γ X W g
  unfold stepI
  split
  · refine bif_I (fun h => bif_I (fun h2 => ?_) fun _ => bad_I) fun _ => i_any (s.E _)
    obtain ⟨rfl, hg, hm⟩ := range_ok g h
    exact i_rng1 hg hm h2 (s.E _)
  · refine bif_I (fun h => bif_I (fun h2 => ?_) fun _ => bad_I) fun _ => bif_I (fun h => bif_I (fun h2 => ?_) fun _ => bad_I) fun _ => i_any (s.E _)
    · obtain ⟨rfl, hg, hm⟩ := range_ok g h
      rw [Bool.and_eq_true] at h2
      exact i_rng2 hg hm h2.1 h2.2 (s.E _) (s.E _)
    · rw [Bool.and_eq_true] at h h2
      obtain ⟨rfl, hg, hm⟩ := zip_ok' g h.1
      cases tg with
      | Tuple es k p => exact i_zip hg hm h2.1 h2.2 (args_ok (es := [_, _]) s (by rw [List.all_cons, h2.1, List.all_cons, h2.2]; rfl))
      | _ => cases h.2
  · exact i_any (s.E _)
theorem gs_ok {C : Comp} (s : Snd C Γ X W) : ∀ {es : List Expr}, es.all notStar = true → PGs X es (LGs X (gsD C es).1 (gsD C es).2)
  | [], _ => g_nil
  | e :: es, h => by
    rw [List.all_cons, Bool.and_eq_true] at h
    exact g_cons h.1 (s.G e) (gs_ok s h.2)
theorem stepG_ok (hC : SndC C) (g : Good Γ X W) (e : Expr) : PG X e (LG X (stepG Γ C e).1 (stepG Γ C e).2) := by
  have s := hC Γ X W g
  unfold stepG
  split
  · rename_i x p
    cases h : locK (Γ.fn x) (Γ.sc.names.lookup x) with
    | false => exact bad_G
    | true =>
      cases q : slotOf Γ x with
      | none => exact bad_G
      | some i =>
        obtain ⟨h1, h2⟩ := g.loc h
        exact g_name g.nd (g.slot q) h1 h2
  · rename_i es k p
    cases h : es.all notStar with
    | false => exact bad_G
    | true => exact g_tup g.calm h (gs_ok s h)
  · exact bad_G

/-! ### statements -/
theorem slotS_ok (g : Good Γ X W) {x : Str} {i : Nat} (h : slotS Γ x = some i) : X.N[i]? = some x ∧ L2.Loc X.env.scope x ∧ (X.fn x = true ∨ X.env.scope.names.lookup x = some .local) ∧ (Γ.j0 = true → i ≠ 0) := by
  unfold slotS at h
  cases hk : locK (Γ.fn x) (Γ.sc.names.lookup x) with
  | false => rw [hk] at h; cases h
  | true =>
    rw [hk] at h
    cases q : slotOf Γ x with
    | none => rw [q] at h; cases h
    | some j =>
      rw [q] at h
      cases hb : (!Γ.j0 || !(Nat.beq j 0)) with
      | false => simp only [cond_true, hb, cond_false] at h; cases h
      | true =>
        simp only [cond_true, hb] at h
        cases h
        obtain ⟨h1, h2⟩ := g.loc hk
        refine ⟨g.slot q, h1, h2, fun z e => ?_⟩
        subst e
        rw [z] at hb
        cases hb
theorem sw_eq {elt : Expr} {gs : List Comprehension} {scope : Scope} {pos py : Pos} {y : Str} {l : Nat} {env : Env} : swapsWith (.ListComp elt gs scope pos) (some (.Name y py)) l env =
    pure (env.blockKind == .function && env.kindOf y == some .local && py.line == pos.line && !(scope.names.any fun (n, k) => n == y && (k == .local || k == .cell))) := by
  unfold swapsWith
  rfl
theorem setLc_ok (hC : SndC C) (g : Good Γ X W) {x : Str} {py pos spos : Pos} {i : Nat} {elt tg iter : Expr} {ifs : List Expr} {scope : Scope} (q : slotS Γ x = some i) :
    PS X (.Assign [.Name x py] (.ListComp elt [⟨tg, iter, ifs, 0⟩] scope pos) spos) (LS X W Γ.j0 (sSet i (lcD Γ C elt tg iter ifs scope))) := by
  obtain ⟨h1, h2, h3, h4⟩ := slotS_ok g q
  cases hb : (X.env.blockKind == ScopeKind.function && X.env.kindOf x == some .local && py.line == pos.line && !(scope.names.any fun (n, k) => n == x && (k == .local || k == .cell))) with
  | false => exact s_set (by rw [sw_eq, hb]) g.nd h1 h2 h3 h4 (lc_ok hC g)
  | true =>
    unfold lcD
    cases hk : lcOk Γ C tg iter scope with
    | false => exact bad_SS
    | true =>
      obtain ⟨k1, k2, k3, k4⟩ := lc_parts hC g hk
      have hl : X.env.scope.names.lookup x = some .local := by
        simp only [Bool.and_eq_true] at hb
        exact eq_of_beq hb.1.1.2
      exact s_comp g.calm g.nd h1 hl (by rw [sw_eq, hb]) rfl k3 k1 h4 ((hC Γ X W g).I tg iter) k2 (fun s H cA cl fp => (k4 s H cA cl fp).G tg) (fun s H cA cl fp => ts_ok (k4 s H cA cl fp)) fun s H cA cl fp => (k4 s H cA cl fp).E elt
theorem setE_ok (hC : SndC C) (g : Good Γ X W) {x : Str} {py spos : Pos} {e : Expr} :
    PS X (.Assign [.Name x py] e spos) (LS X W Γ.j0 (bif notLC e then (match slotS Γ x with | some i => sSet i ((C Γ).E e) | none => sBad) else sBad)) := by
  refine bif_S (fun h => ?_) fun _ => bad_S
  cases q : slotS Γ x with
  | none => exact bad_S
  | some i =>
    obtain ⟨h1, h2, h3, h4⟩ := slotS_ok g q
    exact s_set (swaps_of h _ _ _) g.nd h1 h2 h3 h4 ((hC Γ X W g).E e)
theorem ixPlain {i : Expr} (h : notSlice i = true) {o : Expr} {p : Pos} {env : Env} (v : Value) : assign (.Subscript o i p) env v = (do
      let ov ← holding [v] (eval o env)
      let iv ← holding [v, ov] (eval i env)
      standAt p
      holding [v, ov, iv] (setItem ov iv v)
      release [v, ov, iv] []) := by
  cases i <;> first | rfl | cases h
theorem par_ok (hC : SndC C) (g : Good Γ X W) {x y : Str} {px py pt pt2 pos : Pos} {kt k2 : Nat} {a b : Expr} : PS X (.Assign [.Tuple [.Name x px, .Name y py] kt pt] (.Tuple [a, b] k2 pt2) pos) (LS X W Γ.j0 (parD Γ (C Γ) x y px py a b)) := by
  unfold parD
  refine bif_S (fun h => ?_) fun _ => bad_S
  unfold parOk at h
  simp only [Bool.and_eq_true, Bool.not_eq_true'] at h
  obtain ⟨⟨⟨⟨⟨⟨⟨h1, h2⟩, h3⟩, h4⟩, h5⟩, h6⟩, h7⟩, h8⟩ := h
  cases q1 : slotS Γ x with
  | none => exact bad_S
  | some i =>
    cases q2 : slotS Γ y with
    | none => exact bad_S
    | some j =>
      refine bif_S (fun h => ?_) fun _ => bad_S
      obtain ⟨a1, a2, a3, a4⟩ := slotS_ok g q1
      obtain ⟨b1, b2, b3, b4⟩ := slotS_ok g q2
      have hij : i ≠ j := fun e => by
        subst e
        simp at h
      have l1 : X.env.scope.names.lookup x = some .local := by rw [g.sc]; exact isLoc_ok h1
      have l2 : X.env.scope.names.lookup y = some .local := by rw [g.sc]; exact isLoc_ok h2
      have s := hC Γ X W g
      exact s_par g.calm g.nd a1 b1 hij l1 l2 (by rw [g.sc]; exact g.kind) h3 h4 h5 h6 h7 h8 (fun z => ⟨a4 z, b4 z⟩) (d_cons h5 (s.E a) (d_cons h6 (s.E b) d_nil))
theorem sole_or {t e : Expr} (h : (notLC e || !notTupT t) = true) (l : Nat) (env : Env) : swapsWithSole [t] e l env = pure false := by
  cases q : notLC e with
  | true => exact sole_of q l env
  | false =>
    rw [q, Bool.false_or, Bool.not_eq_true'] at h
    cases t <;> first | (cases e <;> rfl) | cases h
theorem asg_ok (hC : SndC C) (g : Good Γ X W) {tg e : Expr} {pos : Pos} : PS X (.Assign [tg] e pos) (LS X W Γ.j0 (asgD Γ (C Γ) tg e)) := by
  unfold asgD
  refine bif_S (fun h => ?_) fun _ => bad_S
  rw [Bool.and_eq_true, Bool.and_eq_true, Bool.and_eq_true] at h
  obtain ⟨⟨⟨h1, h2⟩, h3⟩, h4⟩ := h
  have s := hC Γ X W g
  refine s_asg (T := ((C Γ).G tg).1) (fun z => ?_) (sole_or h1 _ _) (swapped_none h2 _) h3 (s.E e) (s.G tg)
  rw [z] at h4
  intro q
  simp at h4
  exact h4 q
theorem assign_ok (hC : SndC C) (g : Good Γ X W) {tg e : Expr} {pos : Pos} : PS X (.Assign [tg] e pos) (LS X W Γ.j0 (assignD Γ C tg e)) := by
  unfold assignD
  split
  · split
    · exact setLc_ok hC g (by assumption)
    · exact bad_S
  · exact setE_ok hC g
  · refine bif_S (fun h => ?_) fun _ => bad_S
    rw [Bool.and_eq_true, Bool.and_eq_true] at h
    split
    · rename_i j q
      exact s_item (g.slot q) (g.vis h.1.1) (g.plain q).1 (g.plain q).2 ((hC Γ X W g).E _) ((hC Γ X W g).E _) h.1.2 (ixPlain h.2)
    · exact bad_S
  · exact par_ok hC g
  · exact asg_ok hC g
  · exact bad_S
theorem expr_ok (hC : SndC C) (g : Good Γ X W) {e : Expr} {pos : Pos} : PS X (.Expr e pos) (LS X W Γ.j0 (exprD (C Γ) e)) := by
  unfold exprD
  split
  · exact s_doc
  · exact bif_S (fun h => s_expr h ((hC Γ X W g).E e)) fun _ => bad_S
theorem stepS_ok (hC : SndC C) (g : Good Γ X W) (st : Stmt) : PS X st (LS X W Γ.j0 (stepS Γ C st)) := by
  have s := hC Γ X W g
  unfold stepS
  split
  · exact s_pass
  · exact s_break
  · exact s_continue
  · exact expr_ok hC g
  · exact s_ret (s.E _)
  · exact s_retN
  · exact s_if (s.T _) (b_ok s) (b_ok s)
  · exact s_while g.pw (s.T _) (b_ok s)
  · rename_i tg it b p
    refine bif_S (fun h => ?_) fun _ => bad_S
    rw [Bool.and_eq_true] at h
    refine s_for (T := ((C Γ).G tg).1) (fun z => ?_) g.pw g.calm h.1 (s.I _ _) (s.G _) (b_ok s)
    have h4 := h.2
    rw [z] at h4
    intro q
    simp at h4
    exact h4 q
  · exact assign_ok hC g
  · exact bad_S
end
/-- THE COMPILER -/
noncomputable def comp : Nat → Ct → Comp
  | 0, _ => Comp.nil
  | n + 1, Γ => ⟨stepE Γ (comp n), stepT Γ (comp n), stepI Γ (comp n), stepG Γ (comp n), stepS Γ (comp n)⟩
theorem comp_right : ∀ n : Nat, SndC (comp n)
  | 0 => fun _ _ _ _ => ⟨fun _ => bad_E, fun _ => bad_T, fun _ _ => bad_I, fun _ => bad_G, fun _ => bad_S⟩
  | n + 1 => fun Γ X W g => ⟨stepE_ok (comp_right n) g, stepT_ok (comp_right n) g, stepI_ok (comp_right n) g, stepG_ok (comp_right n) g, stepS_ok (comp_right n) g⟩
end DL
set_option maxHeartbeats 2000000
/-! DL, part 17: functions. -/
namespace DL
open PySem PySem.Spec PyProof.Rows L2

/-- the slots at a function's start -/
def startD (nl : Nat) (io : Bool) (ds : List D) : DEnv := (match io, ds with
  | true, d :: r => Sl.own d :: r.map Sl.val
  | _, ds => ds.map Sl.val) ++ List.replicate (nl - ds.length) Sl.no
/-- what the first parameter, a list, has become -/
def ioOf (io : Bool) (ρ : DEnv) : Option (Option D) := match io, (ρ[0]? : Option Sl) with
  | false, _ => some none
  | true, some (.own d) => some (some d)
  | _, _ => none
/-- what is handed back -/
def retOf (io : Bool) (ρ : DEnv) : RV → Option RV
  | .d x => some (.d x)
  | .fresh x => some (.fresh x)
  | .plc i => match ρ[i]? with
    | some (.val x) => some (.d x)
    | some (.own x) => if io = true ∧ i = 0 then none else some (.fresh x)
    | _ => none
def finF (io : Bool) : SOut → FRes
  | .nx ρ => match ioOf io ρ with
    | some m => .ok (.d .non) m
    | none => .bad
  | .rt r ρ => match ioOf io ρ, retOf io ρ r with
    | some m, some x => .ok x m
    | _, _ => .bad
  | .exc e ρ => match ioOf io ρ with
    | some m => .exc e m
    | none => .bad
  | _ => .bad
def runFn (nl ar : Nat) (io : Bool) (b : SDen) (ds : List D) : FRes :=
  bif Nat.beq ds.length ar then finF io (b (startD nl io ds)) else .bad
theorem ioOf_true {ρ : DEnv} {m : Option D} (h : ioOf true ρ = some m) : ∃ d, ρ[0]? = some (.own d) ∧ m = some d := by
  unfold ioOf at h
  cases q : ρ[0]? with
  | none => simp only [q] at h; cases h
  | some s =>
    cases s with
    | own d => simp only [q] at h; cases h; exact ⟨d, rfl, rfl⟩
    | _ => simp only [q] at h; cases h
section
variable {K : PySem.W.Frag} {mg : Str → Option Value} {H H' : Hp} {F F' : Addr → Prop} {io : Bool} {N : List Str} {ds : List D} {vs : List V}
theorem start_len (h : vs.length ≤ N.length) : (L2.start N vs).length = N.length := by
  unfold L2.start
  rw [List.length_append, List.length_map, List.length_replicate]; omega
theorem val_at : ∀ {ds : List D} {vs : List V} {i : Nat} {s : Sl}, Reps K H F ds vs → (ds.map Sl.val ++ List.replicate (n - ds.length) Sl.no)[i]? = some s → SlotOk K H F ((vs.map some ++ List.replicate (n - vs.length) none)[i]?.join) s := by
  intro ds vs i s r h
  by_cases hi : i < ds.length
  · rw [List.getElem?_append_left (by simpa using hi), List.getElem?_map] at h
    obtain ⟨d, hd, rfl⟩ := Option.map_eq_some_iff.mp h
    obtain ⟨v, hv, rv⟩ := r.get hd
    rw [List.getElem?_append_left (by rw [List.length_map, r.length]; exact hi), List.getElem?_map, hv]
    exact ⟨v, rfl, rv⟩
  · rw [List.getElem?_append_right (by simpa using hi)] at h
    rw [List.getElem?_replicate] at h
    split at h
    · cases h; trivial
    · cases h
theorem noown_val {i : Nat} {d : D} {n : Nat} : (ds.map Sl.val ++ List.replicate n Sl.no)[i]? ≠ some (.own d) := by
  intro h
  by_cases hi : i < ds.length
  · rw [List.getElem?_append_left (by simpa using hi), List.getElem?_map] at h
    obtain ⟨d, hd, z⟩ := Option.map_eq_some_iff.mp h
    cases z
  · rw [List.getElem?_append_right (by simpa using hi), List.getElem?_replicate] at h
    split at h
    · cases h
    · cases h
theorem start_er (ht : ∀ a, F a → ∃ o, H a = some o) (h : ArgR K H F io ds vs) (hl : vs.length ≤ N.length) : ER K H F (L2.start N vs) (startD N.length io ds) ∧ (∀ a, Root (L2.start N vs) (startD N.length io ds) a → IoS io vs a) := by
  rcases h with ⟨rfl, r⟩ | ⟨rfl, d, ds', a, vs', rfl, rfl, o, r⟩
  · have el : vs.length = ds.length := r.length
    refine ⟨⟨?_, fun i s h => ?_, ht, fun i j x y a h1 => absurd h1 noown_val⟩, fun a ⟨i, d, h1, _⟩ => absurd h1 noown_val⟩
    · rw [start_len hl]
      show _ = (ds.map Sl.val ++ List.replicate (N.length - ds.length) Sl.no).length
      rw [List.length_append, List.length_map, List.length_replicate]; omega
    · exact val_at (n := N.length) r h
  · have el : vs'.length = ds'.length := r.length
    have hl' : vs'.length + 1 ≤ N.length := hl
    have e1 : startD N.length true (d :: ds') = Sl.own d :: (ds'.map Sl.val ++ List.replicate (N.length - 1 - ds'.length) Sl.no) := by
      show Sl.own d :: (ds'.map Sl.val ++ List.replicate (N.length - (ds'.length + 1)) Sl.no) = _
      rw [show N.length - (ds'.length + 1) = N.length - 1 - ds'.length by omega]
    have e2 : L2.start N (V.ref a :: vs') = some (V.ref a) :: (vs'.map some ++ List.replicate (N.length - 1 - vs'.length) none) := by
      show some (V.ref a) :: (vs'.map some ++ List.replicate (N.length - (vs'.length + 1)) none) = _
      rw [show N.length - (vs'.length + 1) = N.length - 1 - vs'.length by omega]
    rw [e1, e2]
    have own0 : ∀ {i : Nat} {x : D}, (Sl.own d :: (ds'.map Sl.val ++ List.replicate (N.length - 1 - ds'.length) Sl.no))[i]? = some (.own x) → i = 0 := fun {i x} h => by
      cases i with
      | zero => rfl
      | succ i => exact absurd (by simpa using h) (noown_val (i := i) (ds := ds') (d := x) (n := N.length - 1 - ds'.length))
    refine ⟨⟨?_, fun i s h => ?_, ht, fun i j x y b h1 h2 _ _ => (own0 h1).trans (own0 h2).symm⟩, fun b ⟨i, x, h1, h2⟩ => ?_⟩
    · simp only [List.length_cons, List.length_append, List.length_map, List.length_replicate]; omega
    · cases i with
      | zero =>
        have h : some (Sl.own d) = some s := h
        cases h
        exact ⟨a, rfl, o⟩
      | succ i =>
        have := val_at (K := K) (H := H) (F := F) (n := N.length - 1) r (i := i) (s := s) (by simpa using h)
        simpa using this
    · have := own0 h1
      subst this
      have h2 : some (some (V.ref a)) = some (some (V.ref b)) := h2
      cases h2
      exact ⟨rfl, vs', rfl⟩
/-- how a function ends -/
theorem run_ok {X : Cx} {Q : VK} {E : XK} {b : SDen} {ar : Nat} (hN : X.N = N) (ht : ∀ a, F a → ∃ o, H a = some o) (h : ArgR X.K H F io ds vs) (hl : vs.length ≤ N.length) (hp : FP X.K X.mg io vs H F Q E (runFn N.length ar io b ds)) :
    LS X (fun cls d _ H => E cls d H) io b { nx := fun _ H' => Q .non H', rt := Q } (L2.start N vs) H := by
  obtain ⟨e0, rt0⟩ := start_er (N := N) ht h hl
  refine ⟨F, startD N.length io ds, e0, ?_⟩
  unfold runFn at hp
  cases hb : Nat.beq ds.length ar with
  | false => rw [hb] at hp; exact hp.elim
  | true =>
    rw [hb] at hp
    have hp : FP X.K X.mg io vs H F Q E (finF io (b (startD N.length io ds))) := hp
    have io0 : ∀ {σ' ρ' H' F' m}, After X io (L2.start N vs) (startD N.length io ds) H F σ' ρ' H' F' → ioOf io ρ' = some m → m.isSome = io ∧ IoR X.K H' F' io vs m ∧ Stp (IoS io vs) H F H' F' := fun {σ' ρ' H' F' m} a hm => by
      refine ⟨?_, ?_⟩
      · unfold ioOf at hm
        split at hm
        · cases hm; rfl
        · cases hm; rfl
        · cases hm
      · have mtI : ∀ b, IoS io vs b → Mut (H b) ∧ ¬ F b := fun b z => by
          rcases h with ⟨rfl, r⟩ | ⟨rfl, d, ds', a, vs', rfl, rfl, o, r⟩
          · exact absurd z.1 Bool.false_ne_true
          · obtain ⟨_, tl, z⟩ := z
            cases z
            exact o.mt
        refine ⟨?_, a.stp.wider rt0 mtI⟩
        cases io with
        | false =>
          cases hm; rfl
        | true =>
          obtain ⟨d, q, rfl⟩ := ioOf_true hm
          obtain ⟨x, hx, o⟩ := a.er.owned q
          rw [a.io rfl] at hx
          rcases h with ⟨z, _⟩ | ⟨_, d, ds', a0, vs', rfl, rfl, o', r⟩
          · cases z
          · have hx : some (some (V.ref a0)) = some (some (V.ref x)) := hx
            cases hx
            exact ⟨rfl, _, vs', rfl, o⟩
    cases q : b (startD N.length io ds) with
    | bad => rw [q] at hp; exact hp.elim
    | bk ρ' => rw [q] at hp; exact hp.elim
    | ct ρ' => rw [q] at hp; exact hp.elim
    | nx ρ' =>
      rw [q] at hp
      intro σ' H' F' a
      unfold finF at hp
      cases q2 : ioOf io ρ' with
      | none => simp only [q2] at hp; exact hp.elim
      | some m =>
        simp only [q2] at hp
        obtain ⟨i1, i2, i3⟩ := io0 a q2
        exact hp.2 .non H' F' i3 a.er.trk (rep_flat rfl) i2
    | exc e ρ' =>
      rw [q] at hp
      intro cls dx σ' H' F' a x
      unfold finF at hp
      cases q2 : ioOf io ρ' with
      | none => simp only [q2] at hp; exact hp.elim
      | some m =>
        simp only [q2] at hp
        obtain ⟨i1, i2, i3⟩ := io0 a q2
        exact hp.2 cls dx H' F' i3 a.er.trk i2 x
    | rt r ρ' =>
      rw [q] at hp
      intro v σ' H' F' a rr
      unfold finF at hp
      cases q2 : ioOf io ρ' with
      | none => simp only [q2] at hp; exact hp.elim
      | some m =>
        cases q3 : retOf io ρ' r with
        | none => simp only [q2, q3] at hp; exact hp.elim
        | some x =>
          simp only [q2, q3] at hp
          obtain ⟨i1, i2, i3⟩ := io0 a q2
          refine hp.2 v H' F' i3 a.er.trk ?_ i2
          cases r with
          | d y => cases q3; exact rr
          | fresh y => cases q3; exact rr
          | plc i =>
            have rr : σ'[i]? = some (some v) := rr
            unfold retOf at q3
            split at q3
            · rename_i hh; cases hh
            · rename_i hh; cases hh
            · rename_i j hh
              cases hh
              split at q3
              · rename_i y q4
                cases q3
                obtain ⟨u, hu, ru⟩ := a.er.slot q4
                rw [rr] at hu; cases hu
                exact ru
              · rename_i y q4
                split at q3
                · cases q3
                · rename_i nz
                  cases q3
                  obtain ⟨c, hc, o⟩ := a.er.owned q4
                  rw [rr] at hc; cases hc
                  refine ⟨c, rfl, ?_, o⟩
                  rcases a.rt c ⟨i, y, q4, rr⟩ with z | z
                  · exfalso
                    have zi := rt0 c z
                    have hio := zi.1
                    subst hio
                    obtain ⟨d, q5, _⟩ := ioOf_true q2
                    obtain ⟨c0, hc0, _⟩ := a.er.owned q5
                    have hs : (L2.start N vs)[0]? = some (some (V.ref c)) := by
                      obtain ⟨_, tl, e⟩ := zi
                      subst e
                      rfl
                    have h0 : σ'[0]? = some (some (V.ref c)) := (a.io rfl).trans hs
                    exact nz ⟨rfl, a.er.sep i 0 _ _ _ q4 q5 rr h0⟩
                  · exact z
              · cases q3
end

/-! ### the table of functions -/
structure FnDat where
  d : He.DefD
  N : List Str
  ps : List Str
  io : Bool
def FnDat.fe (t : FnDat) : FE := ⟨t.d.name, t.ps.length, t.io⟩
def ctOf (T : List FnDat) (ks : List (Str × D)) (c : Nat → List D → FRes) (t : FnDat) : Ct := ⟨t.N, t.d.scope, fun _ => true, t.io, T.map FnDat.fe, ks, c⟩
noncomputable def bodyD (fuel : Nat) (T : List FnDat) (ks : List (Str × D)) (c : Nat → List D → FRes) (t : FnDat) : SDen := (comp fuel (ctOf T ks c t)).B t.d.body
/-- calls to the depth n -/
noncomputable def callN (fuel : Nat) (T : List FnDat) (ks : List (Str × D)) : Nat → Nat → List D → FRes
  | 0 => fun _ _ => .bad
  | n + 1 => fun i ds => match T[i]? with
    | some t => runFn t.N.length t.ps.length t.io (bodyD fuel T ks (callN fuel T ks n) t) ds
    | none => .bad
def FnDat.ok (t : FnDat) : Bool :=
  (match t.d.scope.kind with | .function => true | _ => false) && !t.d.scope.isCoroutine && !t.d.scope.isGenerator && decide t.N.Nodup && decide (t.N.take t.ps.length = t.ps) && (t.ps.all fun x => locK true (t.d.scope.names.lookup x)) &&
    (t.d.scope.names.all fun y => match y.2 with | .free => false | _ => true) && (t.N.all fun x => !(x == ("__debug__" : Str)) && !(x == ("__classdict__" : Str))) && !(t.d.name == ("__debug__" : Str))
theorem FnDat.scope {t : FnDat} (h : t.ok = true) : FnScope t.N t.ps t.d.scope ∧ (∀ x ∈ t.N, (x == ("__debug__" : Str)) = false ∧ (x == ("__classdict__" : Str)) = false) ∧ (t.d.name == ("__debug__" : Str)) = false := by
  unfold FnDat.ok at h
  simp only [Bool.and_eq_true, Bool.not_eq_true', decide_eq_true_eq, List.all_eq_true] at h
  obtain ⟨⟨⟨⟨⟨⟨⟨⟨h1, h2⟩, h3⟩, h4⟩, h5⟩, h6⟩, h7⟩, h8⟩, h9⟩ := h
  refine ⟨⟨?_, h2, h3, h4, h5, fun x hx => (locK_ok (h6 x hx)).1, fun y hy e => ?_⟩, fun x hx => h8 x hx, h9⟩
  · split at h1
    · assumption
    · cases h1
  · have := h7 y hy
    rw [e] at this
    cases this
section
variable {P : Program} {w : World} {K : PySem.W.Frag} {mg : Str → Option Value} {base : Heap} {fuel : Nat} {T : List FnDat} {ks : List (Str × D)}
/-- what the head says of the functions -/
structure HeadOk (K : PySem.W.Frag) (mg : Str → Option Value) (T : List FnDat) (ks : List (Str × D)) : Prop where
  fns : ∀ (i : Nat) (t : FnDat), T[i]? = some t → t.ok = true ∧ t.d.dfl = [] ∧ t.d.kwd = [] ∧ mg t.d.name = some (.ref (He.fAd K t.d.at_)) ∧
    (∃ fd, FunD K t.d.name t.d.qual t.d.params t.d.body t.d.scope [] [] (He.fAd K t.d.at_) fd) ∧
    ∀ (kV doc pm : Value) (an : Option Addr) (cdv ct : Value) (us : List Value), us.length = t.ps.length → bindArgs (PySem.W.fnOf t.d.name t.d.qual t.d.params t.d.body t.d.scope .none kV doc pm an cdv ct) ⟨us, []⟩ = pure (t.ps.zip us)
  ks : ∀ p ∈ ks, (p.1 == ("__debug__" : Str)) = false ∧ ∃ v u, mg p.1 = some u ∧ RelV v u ∧ ∀ H F, Rep K H F p.2 v
  blt : ∀ x ∈ bltNames, mg x = none
theorem fnG_bad {k : Nat} {f : Addr} {fd : FuncData} {ps : List Str} {io : Bool} {φ : List D → FRes} (h : ∀ ds, φ ds = .bad) : FnG P w K mg base (L2.CX P w) k f fd ps (SpD K mg ps.length io φ) :=
  ⟨fun vs H Q E h => h.1, fun A outer s H args us vs Q E _ _ _ _ _ hs => by
    obtain ⟨_, _, ds, _, _, z⟩ := hs
    rw [h ds] at z
    exact z.elim⟩
theorem call_fnok (hd : HeadOk K mg T ks) : ∀ (n i : Nat) (t : FnDat) (fd : FuncData), T[i]? = some t → FunD K t.d.name t.d.qual t.d.params t.d.body t.d.scope [] [] (He.fAd K t.d.at_) fd →
    FnG P w K mg base (L2.CX P w) n (He.fAd K t.d.at_) fd t.ps (SpD K mg t.ps.length t.io (callN fuel T ks n i))
  | 0, i, t, fd, ht, F => fnG_bad fun _ => rfl
  | n + 1, i, t, fd, ht, F => by
    obtain ⟨hok, _⟩ := hd.fns i t ht
    obtain ⟨S, pl, _⟩ := FnDat.scope hok
    refine funD_okG F S (fun vs H Q E h => h.1) fun cdv A outer s H vs Q E hr gu h => ⟨LS (cxOf (L2.CX P w) P w K mg base t.N t.d.qual t.d.scope (He.fAd K t.d.at_) cdv A outer s H E) (fun cls d _ H => E cls d H) t.io (bodyD fuel T ks (callN fuel T ks n) t), ?_, ?_⟩
    · have g : Good (ctOf T ks (callN fuel T ks n) t) (cxOf (L2.CX P w) P w K mg base t.N t.d.qual t.d.scope (He.fAd K t.d.at_) cdv A outer s H E) (fun cls d _ H => E cls d H) := by
        refine ⟨rfl, S.nd, rfl, S.kind, rfl, rfl, ?_, gu, takes_of (E₁ := fun e' s'' => L2.CX P w outer H s E e' s'') rfl rfl rfl rfl, passes_of (K := fun e s'' => L2.CX P w outer H s E e s'') (E₁ := fun e' s'' => L2.CX P w outer H s E e' s'') rfl, pl, fun j fe hj => ?_, hd.ks, hd.blt⟩
        · have := hr.un
          show (A.deeper _).units + 140 < cLine
          omega
        · have hj : (T.map FnDat.fe)[j]? = some fe := hj
          rw [List.getElem?_map] at hj
          obtain ⟨u, hu, rfl⟩ := Option.map_eq_some_iff.mp hj
          obtain ⟨uok, e1, e2, hm, ⟨fdu, Fu⟩, hb⟩ := hd.fns j u hu
          exact ⟨(FnDat.scope uok).2.2, n, _, fdu, u.ps, call_fnok hd n j u fdu hu Fu, hr, hm, Fu.kp, FunD.bindsN Fu hb⟩
      exact b_ok (comp_right fuel _ _ _ g)
    · obtain ⟨hl, F0, ds, ht0, ha, hp⟩ := h
      refine run_ok (X := cxOf (L2.CX P w) P w K mg base t.N t.d.qual t.d.scope (He.fAd K t.d.at_) cdv A outer s H E) (N := t.N) (ar := t.ps.length) rfl ht0 ha ?_ ?_
      · rw [hl]
        have := congrArg List.length S.pre
        rw [List.length_take] at this
        omega
      · have : callN fuel T ks (n + 1) i ds = runFn t.N.length t.ps.length t.io (bodyD fuel T ks (callN fuel T ks n) t) ds := by
          rw [callN]
          simp only [ht]
        rw [this] at hp
        exact hp
end
end DL
set_option maxHeartbeats 2000000
/-! DL, part 18: the head's facts, the law's end. -/
namespace DL
open PySem PySem.Spec PyProof.Rows L2
def faOf (T : List FnDat) (more : List He.Fa) : List He.Fa := (T.map fun t => He.Fa.glo t.d.name) ++ (bltNames.map He.Fa.free ++ more)
def fnOfT (T : List FnDat) : List He.DefD := T.map (·.d)
def FnDat.plain (t : FnDat) : Bool := t.ok && t.d.dfl.isEmpty && t.d.kwd.isEmpty && decide (t.d.at_ = (t.d.name, none))
/-- how the parameters are bound -/
def BindOk (t : FnDat) : Prop := ∀ (kV doc pm : Value) (an : Option Addr) (cdv ct : Value) (us : List Value), us.length = t.ps.length → bindArgs (PySem.W.fnOf t.d.name t.d.qual t.d.params t.d.body t.d.scope .none kV doc pm an cdv ct) ⟨us, []⟩ = pure (t.ps.zip us)
section
variable {P : Program} {w : World} {K : PySem.W.Frag} {mg : Str → Option Value} {base h : Heap} {fuel : Nat} {T : List FnDat} {ks : List (Str × D)} {more : List He.Fa}
theorem says_mem {fa : List He.Fa} {fn : List He.DefD} (c : He.SaysD fa fn K) {f : He.Fa} (hf : f ∈ fa) : f.ok K = true := by
  obtain ⟨i, hi⟩ := List.getElem?_of_mem hf
  exact c.fact i hi
theorem headOk (X : K.In h) (G : h.Ns mainGlobals mg) (c : He.SaysD (faOf T more) (fnOfT T) K) (hT : T.all FnDat.plain = true) (bnd : ∀ t ∈ T, BindOk t)
    (hks : ∀ p ∈ ks, (p.1 == ("__debug__" : Str)) = false ∧ ∃ v u, mg p.1 = some u ∧ RelV v u ∧ ∀ H F, Rep K H F p.2 v) : HeadOk K mg T ks := by
  refine ⟨fun i t ht => ?_, hks, fun x hx => He.free_ok X G (says_mem c (List.mem_append_right _ (List.mem_append_left _ (List.mem_map_of_mem hx))))⟩
  have hm : t ∈ T := List.mem_of_getElem? ht
  have hp := List.all_eq_true.mp hT t hm
  unfold FnDat.plain at hp
  simp only [Bool.and_eq_true, List.isEmpty_iff, decide_eq_true_eq] at hp
  obtain ⟨⟨⟨h1, h2⟩, h3⟩, h4⟩ := hp
  refine ⟨h1, h2, h3, ?_, ?_, bnd t hm⟩
  · rw [h4]
    exact He.glo_ok X G (says_mem c (List.mem_append_left _ (List.mem_map_of_mem (f := fun t => He.Fa.glo t.d.name) hm)))
  · obtain ⟨fd, F⟩ := c.def_ i (d := t.d) (by unfold fnOfT; rw [List.getElem?_map, ht]; rfl)
    rw [show He.DefD.dvs K t.d = [] by unfold He.DefD.dvs; rw [h2]; rfl, show He.DefD.kws K t.d = [] by unfold He.DefD.kws; rw [h3]; rfl] at F
    exact ⟨fd, F⟩
/-- the law's promise from its denotation -/
theorem law_sp {n i : Nat} {H : Hp} {a : Addr} {ns : List Int} (hl : callN fuel T ks n i [.lst (ns.map D.int)] = .ok (.d (.bl true)) none) (hS : SqL K H a (ns.map V.int)) :
    SpD K mg 1 false (callN fuel T ks n i) [.ref a] H (fun v _ => v = .bl true) fun _ _ _ => False := by
  refine ⟨rfl, fun b => ∃ o, b = a ∧ H b = some o, [.lst (ns.map D.int)], fun b ⟨o, _, e⟩ => ⟨o, e⟩, .inl ⟨rfl, ?_⟩, ?_⟩
  · have repI : ∀ (H : Hp) (F : Addr → Prop) (ns : List Int), Reps K H F (ns.map D.int) (ns.map V.int) := fun H F ns => by
      induction ns with
      | nil => exact Reps.nil
      | cons n ns ih => exact Reps.cons (by rw [Rep]) ih
    refine Reps.cons ?_ Reps.nil
    rw [Rep]
    refine ⟨a, _, rfl, ?_, repI _ _ _⟩
    rcases hS with h | h
    · refine .inl ⟨?_, h⟩
      rcases h with h | ⟨o, h⟩
      · exact ⟨_, rfl, h⟩
      · exact ⟨_, rfl, h⟩
    · exact .inr h
  · rw [hl]
    refine ⟨rfl, fun v H' F' _ _ r _ => ?_⟩
    have r : Rep K H' F' (.bl true) v := r
    rw [Rep] at r
    exact r
/-- an exception out of a call, whatever the world -/
def CXs (P : Program) : CXT := fun outer H s E u s' => ∃ w, L2.CX P w outer H s E u s'
theorem cxs_none {P : Program} : ∀ (H : Hp) (s : Shared) (e : Value) (s' : Shared), CXs P [] H s (fun _ _ _ => False) e s' → False := fun H s e s' ⟨w, h⟩ => by
  obtain ⟨_, _, _, _, _, _, _, _, _, _, _, _, z⟩ := h
  exact z
theorem law_walk {n k i : Nat} {t : FnDat} {x : Str} {f : Addr} (X : K.In h) (G : h.Ns mainGlobals mg) (c : He.SaysD (faOf T more) (fnOfT T) K) (hT : T.all FnDat.plain = true) (bnd : ∀ t ∈ T, BindOk t)
    (hks : ∀ p ∈ ks, (p.1 == ("__debug__" : Str)) = false ∧ ∃ v u, mg p.1 = some u ∧ RelV v u ∧ ∀ H F, Rep K H F p.2 v) (ht : T[i]? = some t) (hio : t.io = false) (hps : t.ps = [x]) (hm : mg t.d.name = some (.ref f))
    (hlaw : ∀ ns : List Int, ns.length ≤ n → callN fuel T ks k i [.lst (ns.map D.int)] = .ok (.d (.bl true)) none) :
    ∃ (K : PySem.W.Frag) (fd : FuncData) (sp : Sp), K.In h ∧ (∀ (s : Shared) (u : Value), BindsTo s fd ⟨[u], []⟩ [(x, u)]) ∧
      (∀ (H : Hp) (a : Addr) (ns : List Int), ns.length ≤ n → Only H → SqL K H a (ns.map V.int) → sp [.ref a] H (fun v _ => v = .bl true) fun _ _ _ => False) ∧
      ∀ base : Heap, K.In base → base.Ns mainGlobals mg → FnG P w K mg base (CXs P) k f fd [x] sp := by
  have hd := headOk (ks := ks) X G c hT bnd hks
  obtain ⟨_, _, _, hm2, ⟨fd, F⟩, hb⟩ := hd.fns i t ht
  rw [hm] at hm2
  have ef : f = He.fAd K t.d.at_ := by
    injection hm2 with e
    injection e
  subst ef
  refine ⟨K, fd, SpD K mg 1 false (callN fuel T ks k i), X, fun s u => ?_, fun H a ns hn _ hS => law_sp (hlaw ns hn) hS, fun base _ _ => ?_⟩
  · have := FunD.bindsA (ps := t.ps) F hb s [u] (by rw [hps]; rfl)
    rw [hps] at this
    exact this
  · have := call_fnok (P := P) (w := w) (base := base) (fuel := fuel) hd k i t fd ht F
    rw [hio, hps] at this
    exact FnG.cx this fun outer H s E u s' z => ⟨w, z⟩
end
end DL
set_option maxHeartbeats 2000000
/-! DL, part 18k: the module's constants. -/
namespace DL
open PySem PySem.Spec PyProof.Rows L2
mutual
/-- the value u stands for d in what K holds -/
def repB (K : PySem.W.Frag) : D → Value → Bool
  | .non, .none => true
  | .bl b, .bool c => b == c
  | .int i, .int j _ => decide (i = j)
  | .str x, .str y _ => decide (x = y)
  | .tup ds, .ref a => (match K.lookup a with
    | some ⟨.type c, _, .seq its _, _⟩ => decide (c = "tuple") && (Nat.ble its.size sizeLine && repBs K ds its.toList)
    | _ => false)
  | .lst ds, .ref a => (match K.lookup a with
    | some ⟨.type c, none, .seq its _, _⟩ => decide (c = "list") && (Nat.ble its.size sizeLine && repBs K ds its.toList)
    | _ => false)
  | _, _ => false
def repBs (K : PySem.W.Frag) : List D → List Value → Bool
  | [], [] => true
  | d :: ds, u :: us => repB K d u && repBs K ds us
  | _, _ => false
end
mutual
theorem repB_ok {K : PySem.W.Frag} : ∀ (d : D) (u : Value), repB K d u = true → ∃ v, RelV v u ∧ ∀ H F, Rep K H F d v
  | .non, u, h => by
    cases u with
    | none => exact ⟨.non, rfl, fun H F => by rw [Rep]⟩
    | _ => simp [repB] at h
  | .bl b, u, h => by
    cases u with
    | bool c =>
      unfold repB at h
      have e : b = c := eq_of_beq h
      subst e
      exact ⟨.bl b, rfl, fun H F => by rw [Rep]⟩
    | _ => simp [repB] at h
  | .int i, u, h => by
    cases u with
    | int j t =>
      unfold repB at h
      have e : i = j := of_decide_eq_true h
      subst e
      exact ⟨.int i, ⟨t, rfl⟩, fun H F => by rw [Rep]⟩
    | _ => simp [repB] at h
  | .str x, u, h => by
    cases u with
    | str y t =>
      unfold repB at h
      have e : x = y := of_decide_eq_true h
      subst e
      exact ⟨.str x, ⟨t, rfl⟩, fun H F => by rw [Rep]⟩
    | _ => simp [repB] at h
  | .tup ds, u, h => by
    cases u with
    | ref a =>
      unfold repB at h
      split at h
      · rename_i c dd its n sl q
        rw [Bool.and_eq_true, Bool.and_eq_true] at h
        obtain ⟨h1, h2, h3⟩ := h
        obtain ⟨vs, hv, r⟩ := repBs_ok ds its.toList h3
        refine ⟨.ref a, rfl, fun H F => ?_⟩
        rw [Rep]
        exact ⟨a, vs, rfl, .inr ⟨_, its, n, q, congrArg Value.type (of_decide_eq_true h1), rfl, Nat.le_of_ble_eq_true h2, hv⟩, r H F⟩
      · cases h
    | _ => simp [repB] at h
  | .lst ds, u, h => by
    cases u with
    | ref a =>
      unfold repB at h
      split at h
      · rename_i c its n sl q
        rw [Bool.and_eq_true, Bool.and_eq_true] at h
        obtain ⟨h1, h2, h3⟩ := h
        obtain ⟨vs, hv, r⟩ := repBs_ok ds its.toList h3
        refine ⟨.ref a, rfl, fun H F => ?_⟩
        rw [Rep]
        exact ⟨a, vs, rfl, .inr ⟨_, its, n, q, congrArg Value.type (of_decide_eq_true h1), rfl, rfl, Nat.le_of_ble_eq_true h2, hv⟩, r H F⟩
      · cases h
    | _ => simp [repB] at h
theorem repBs_ok {K : PySem.W.Frag} : ∀ (ds : List D) (us : List Value), repBs K ds us = true → ∃ vs, Vals vs us ∧ ∀ H F, Reps K H F ds vs
  | [], [], _ => ⟨[], .nil, fun H F => Reps.nil⟩
  | [], _ :: _, h => by simp [repBs] at h
  | _ :: _, [], h => by simp [repBs] at h
  | d :: ds, u :: us, h => by
    rw [repBs, Bool.and_eq_true] at h
    obtain ⟨v, hv, r⟩ := repB_ok d u h.1
    obtain ⟨vs, hvs, rs⟩ := repBs_ok ds us h.2
    exact ⟨v :: vs, .cons hv hvs, fun H F => Reps.cons (r H F) (rs H F)⟩
end
def konB (K : PySem.W.Frag) (p : Str × D) : Bool := !(p.1 == ("__debug__" : Str)) && (match PySem.W.nsIn K mainGlobals p.1 with
  | some (some u) => repB K p.2 u
  | _ => false)
def obsK (fa : List He.Fa) (fn : List He.DefD) (ks : List (Str × D)) (K : PySem.W.Frag) : Bool × He.AlD := (ks.all (konB K), He.obsD fa fn K)
def SaysK (fa : List He.Fa) (fn : List He.DefD) (ks : List (Str × D)) (K : PySem.W.Frag) : Prop := obsK fa fn ks K = (true, He.valD fn)
def obsKG (n : Nat) (fa : List He.Fa) (fn : List He.DefD) (ks : List (Str × D)) (g : Addr → Option Obj) : Bool × He.AlD := obsK fa fn ks (He.frG g (He.asD g n))
def hookK (n : Nat) (fa : List He.Fa) (fn : List He.DefD) (ks : List (Str × D)) : PySem.W.Hook where
  α := Bool × He.AlD
  obs := fun s => obsKG n fa fn ks s.heap.get?
  val := fun _ => (true, He.valD fn)
  says := fun _ h => ∃ K : PySem.W.Frag, K.In h ∧ SaysK fa fn ks K
  of := fun _ _ e => ⟨_, He.frG_in, e⟩
  keeps := fun _ _ _ ⟨K, hK, c⟩ k => ⟨K, PySem.W.Frag.In.keeps hK k, c⟩
theorem obsKG_eq {n : Nat} {fa : List He.Fa} {fn : List He.DefD} {ks : List (Str × D)} {g : Addr → Option Obj} {s : Shared} (h : ∀ a, g a = s.heap.get? a) : obsKG n fa fn ks g = (hookK n fa fn ks).obs s := by
  have e : g = s.heap.get? := funext h
  rw [e] <;> rfl
theorem SaysK.d {fa : List He.Fa} {fn : List He.DefD} {ks : List (Str × D)} {K : PySem.W.Frag} (c : SaysK fa fn ks K) : He.SaysD fa fn K := congrArg (fun z : Bool × He.AlD => z.2) c
theorem SaysK.ks {fa : List He.Fa} {fn : List He.DefD} {ks : List (Str × D)} {K : PySem.W.Frag} {h : Heap} {mg : Str → Option Value} (c : SaysK fa fn ks K) (X : K.In h) (G : h.Ns mainGlobals mg) :
    ∀ p ∈ ks, (p.1 == ("__debug__" : Str)) = false ∧ ∃ v u, mg p.1 = some u ∧ RelV v u ∧ ∀ H F, Rep K H F p.2 v := fun p hp => by
  have c1 : ks.all (konB K) = true := congrArg (fun z : Bool × He.AlD => z.1) c
  have k := List.all_eq_true.mp c1 p hp
  unfold konB at k
  rw [Bool.and_eq_true, Bool.not_eq_true'] at k
  refine ⟨k.1, ?_⟩
  have k2 := k.2
  split at k2
  · rename_i u q
    obtain ⟨v, r, hr⟩ := repB_ok p.2 u k2
    exact ⟨v, u, PySem.W.mg_of X G q, r, hr⟩
  · cases k2
end DL
set_option maxHeartbeats 2000000
/-! DL, part 19: what is wanted of a denotation (no program in sight from here on). -/
namespace DL
open PySem PySem.Spec PyProof.Rows L2

/-- a mark: what bears it is not looked into while it waits -/
inductive Tg {α : Type u} (a : α) : Type where
  | mk
def wO {α : Type} (o : Out α) (Q : α → DEnv → Prop) (E : Exn → DEnv → Prop) (_ : Tg (Q, E) := .mk) : Prop := match o with
  | .ok a ρ => Q a ρ
  | .exc e ρ => E e ρ
  | .bad => False
structure Post where
  N : DEnv → Prop
  R : RV → DEnv → Prop
  B : DEnv → Prop
  C : DEnv → Prop
  E : Exn → DEnv → Prop
def wS (o : SOut) (P : Post) (_ : Tg P := .mk) : Prop := match o with
  | .nx ρ => P.N ρ
  | .rt r ρ => P.R r ρ
  | .bk ρ => P.B ρ
  | .ct ρ => P.C ρ
  | .exc e ρ => P.E e ρ
  | .bad => False
/-- a function that changes nothing -/
def wF0 (r : FRes) (Q : RV → Prop) (E : Exn → Prop) (_ : Tg (Q, E) := .mk) : Prop := match r with
  | .ok r none => Q r
  | .exc e none => E e
  | _ => False
/-- a function that may change its first argument -/
def wF1 (r : FRes) (Q : RV → D → Prop) (E : Exn → D → Prop) (_ : Tg (Q, E) := .mk) : Prop := match r with
  | .ok r (some d) => Q r d
  | .exc e (some d) => E e d
  | _ => False
/-- an option that is there -/
def wI {α : Type} (o : Option α) (Q : α → Prop) (_ : Tg Q := .mk) : Prop := match o with
  | some a => Q a
  | none => False
section
variable {α β : Type} {Q : α → DEnv → Prop} {E : Exn → DEnv → Prop} {ρ : DEnv} {P : Post}
theorem wI_some {a : α} {Q : α → Prop} : wI (some a) Q = Q a := id rfl
theorem wI_none {Q : α → Prop} : wI (none : Option α) Q = False := id rfl
theorem wI_ite {c : Bool} {a b : Option α} {Q : α → Prop} : wI (if c = true then a else b) Q = if c = true then wI a Q else wI b Q := by
  cases c <;> rfl
theorem wI_map {o : Option α} {f : α → β} {Q : β → Prop} : wI (o.map f) Q = wI o fun a => Q (f a) := by
  cases o <;> rfl
theorem wI_bind {o : Option α} {f : α → Option β} {Q : β → Prop} : wI (o.bind f) Q = wI o fun a => wI (f a) Q := by
  cases o <;> rfl
theorem wO_ext {o : Out α} {Q Q' : α → DEnv → Prop} (h : ∀ a ρ, Q a ρ = Q' a ρ) : wO o Q E = wO o Q' E := by
  have e : Q = Q' := funext fun a => funext fun ρ => h a ρ
  rw [e]
theorem wI_ext {o : Option α} {Q Q' : α → Prop} (h : ∀ a, Q a = Q' a) : wI o Q = wI o Q' := by
  have e : Q = Q' := funext h
  rw [e]
theorem wO_bind {o : Out β} {g : β → DEnv → Out α} : wO (o.bind g) Q E = wO o (fun b ρ1 => wO (g b ρ1) Q E) E := by
  cases o <;> rfl
theorem wO_mono {o : Out α} {Q' : α → DEnv → Prop} {E' : Exn → DEnv → Prop} (h : wO o Q E) (k : ∀ a ρ, Q a ρ → Q' a ρ) (ke : ∀ e ρ, E e ρ → E' e ρ) : wO o Q' E' := by
  cases o with
  | ok a ρ => exact k _ _ h
  | exc e ρ => exact ke _ _ h
  | bad => exact h
theorem wS_mono {o : SOut} {P' : Post} (h : wS o P) (n : ∀ ρ, P.N ρ → P'.N ρ) (r : ∀ v ρ, P.R v ρ → P'.R v ρ) (b : ∀ ρ, P.B ρ → P'.B ρ) (c : ∀ ρ, P.C ρ → P'.C ρ) (e : ∀ x ρ, P.E x ρ → P'.E x ρ) : wS o P' := by
  cases o with
  | nx ρ => exact n _ h
  | rt v ρ => exact r _ _ h
  | bk ρ => exact b _ h
  | ct ρ => exact c _ h
  | exc x ρ => exact e _ _ h
  | bad => exact h

/-! ### expressions -/
def wVar (s : Option Sl) (i : Nat) (Q : RV → Prop) (_ : Tg Q := .mk) : Prop := match s with
  | some (.val d) => Q (.d d)
  | some (.own _) => Q (.plc i)
  | _ => False
theorem w_var {i : Nat} {Q : RV → DEnv → Prop} : wO (dVar i ρ) Q E = wVar ρ[i]? i fun r => Q r ρ := by
  unfold dVar
  cases ρ[i]? with
  | none => rfl
  | some s => cases s <;> rfl
theorem wVar_val {d : D} {i : Nat} {Q : RV → Prop} : wVar (some (.val d)) i Q = Q (.d d) := id rfl
theorem wVar_own {d : D} {i : Nat} {Q : RV → Prop} : wVar (some (.own d)) i Q = Q (.plc i) := id rfl
theorem w_c {d : D} {Q : RV → DEnv → Prop} : wO (dC d ρ) Q E = Q (.d d) ρ := id rfl
theorem w_nil {Q : List RV → DEnv → Prop} : wO (dArgs [] ρ) Q E = Q [] ρ := id rfl
theorem w_cons {f : Den} {fs : List Den} {Q : List RV → DEnv → Prop} : wO (dArgs (f :: fs) ρ) Q E = wO (f ρ) (fun r ρ1 => wO (dArgs fs ρ1) (fun rs ρ2 => Q (r :: rs) ρ2) E) E := by
  show wO ((f ρ).bind _) Q E = _
  rw [wO_bind]
  refine wO_ext fun r ρ1 => ?_
  rw [wO_bind]
  rfl
theorem w_app {o : Op} {fs : List Den} {Q : RV → DEnv → Prop} : wO (dApp o fs ρ) Q E = wO (dArgs fs ρ) (fun rs ρ1 => wI (views ρ1 rs) fun ds => wI (o ds) fun r => Q r ρ1) E := by
  unfold dApp
  rw [wO_bind]
  refine wO_ext fun rs ρ1 => ?_
  cases q : views ρ1 rs with
  | none => rfl
  | some ds =>
    simp only [Option.bind_some, wI]
    cases o ds <;> rfl
theorem wViews_nil {Q : List D → Prop} : wI (views ρ []) Q = Q [] := id rfl
theorem wViews_cons {r : RV} {rs : List RV} {Q : List D → Prop} : wI (views ρ (r :: rs)) Q = wI (view ρ r) fun d => wI (views ρ rs) fun ds => Q (d :: ds) := by
  conv => lhs; unfold views
  rw [wI_bind]
  refine wI_ext fun d => ?_
  rw [wI_bind]
  rfl
theorem wView_d {d : D} {Q : D → Prop} : wI (view ρ (.d d)) Q = Q d := id rfl
theorem wView_fresh {d : D} {Q : D → Prop} : wI (view ρ (.fresh d)) Q = Q d := id rfl
def wSlot (s : Option Sl) (Q : D → Prop) (_ : Tg Q := .mk) : Prop := match s with
  | some (.val d) => Q d
  | some (.own d) => Q d
  | _ => False
theorem wView_plc {i : Nat} {Q : D → Prop} : wI (view ρ (.plc i)) Q = wSlot ρ[i]? Q := by
  cases q : ρ[i]? with
  | none => simp only [DL.view, q]; rfl
  | some s => cases s <;> (simp only [DL.view, q]; rfl)
theorem wSlot_val {d : D} {Q : D → Prop} : wSlot (some (.val d)) Q = Q d := id rfl
theorem wSlot_own {d : D} {Q : D → Prop} : wSlot (some (.own d)) Q = Q d := id rfl
theorem wEsc_d {d : D} {Q : D × DEnv → Prop} : wI (esc ρ (.d d)) Q = Q (d, ρ) := id rfl
theorem wEsc_fresh {d : D} {Q : D × DEnv → Prop} : wI (esc ρ (.fresh d)) Q = Q (d, ρ) := id rfl
def wEscS (s : Option Sl) (i : Nat) (ρ : DEnv) (Q : D × DEnv → Prop) (_ : Tg Q := .mk) : Prop := match s with
  | some (.val d) => Q (d, ρ)
  | some (.own d) => Q (d, ρ.set i (.val d))
  | _ => False
theorem wEsc_plc {i : Nat} {Q : D × DEnv → Prop} : wI (esc ρ (.plc i)) Q = wEscS ρ[i]? i ρ Q := by
  cases q : ρ[i]? with
  | none => simp only [DL.esc, q]; rfl
  | some s => cases s <;> (simp only [DL.esc, q]; rfl)
theorem wEscS_val {d : D} {i : Nat} {Q : D × DEnv → Prop} : wEscS (some (.val d)) i ρ Q = Q (d, ρ) := id rfl
theorem wEscS_own {d : D} {i : Nat} {Q : D × DEnv → Prop} : wEscS (some (.own d)) i ρ Q = Q (d, ρ.set i (.val d)) := id rfl
theorem wEscs_nil {Q : List D × DEnv → Prop} : wI (escs [] ρ) Q = Q ([], ρ) := id rfl
theorem wEscs_cons {r : RV} {rs : List RV} {Q : List D × DEnv → Prop} : wI (escs (r :: rs) ρ) Q = wI (esc ρ r) fun p => wI (escs rs p.2) fun q => Q (p.1 :: q.1, q.2) := by
  conv => lhs; unfold escs
  rw [wI_bind]
  refine wI_ext fun d => ?_
  rw [wI_bind]
  rfl
theorem w_frz {fs : List Den} {Q : List D → DEnv → Prop} : wO (dFrz fs ρ) Q E = wO (dArgs fs ρ) (fun rs ρ1 => wI (escs rs ρ1) fun p => Q p.1 p.2) E := by
  unfold dFrz
  rw [wO_bind]
  refine wO_ext fun rs ρ1 => ?_
  cases escs rs ρ1 <;> rfl
theorem w_tup {fs : List Den} {Q : RV → DEnv → Prop} : wO (dTup fs ρ) Q E = wO (dFrz fs ρ) (fun ds ρ1 => Q (.d (.tup ds)) ρ1) E := by
  unfold dTup
  rw [wO_bind]
  rfl
theorem w_lst {fs : List Den} {Q : RV → DEnv → Prop} : wO (dLst fs ρ) Q E = wO (dFrz fs ρ) (fun ds ρ1 => Q (.fresh (.lst ds)) ρ1) E := by
  unfold dLst
  rw [wO_bind]
  rfl
/-- a truth value as it comes out of a comparison -/
def wB (r : RV) (Q : Bool → Prop) (_ : Tg Q := .mk) : Prop := match r with
  | .d (.bl b) => Q b
  | _ => False
theorem wB_bl {b : Bool} {Q : Bool → Prop} : wB (.d (.bl b)) Q = Q b := id rfl
def wInt (r : RV) (Q : Int → Prop) (_ : Tg Q := .mk) : Prop := match r with
  | .d (.int i) => Q i
  | _ => False
theorem wInt_int {i : Int} {Q : Int → Prop} : wInt (.d (.int i)) Q = Q i := id rfl
theorem w_bool {f : Den} {Q : Bool → DEnv → Prop} : wO (dBool f ρ) Q E = wO (f ρ) (fun r ρ1 => wB r fun b => Q b ρ1) E := by
  unfold dBool
  rw [wO_bind]
  refine wO_ext fun r ρ1 => ?_
  cases r with
  | d x => cases x <;> rfl
  | _ => rfl
theorem w_tru {f : Den} {Q : Bool → DEnv → Prop} : wO (dTru f ρ) Q E = wO (f ρ) (fun r ρ1 => wI (view ρ1 r) fun d => wI (truD d) fun b => Q b ρ1) E := by
  unfold dTru
  rw [wO_bind]
  refine wO_ext fun r ρ1 => ?_
  cases q : view ρ1 r with
  | none => rfl
  | some d =>
    simp only [Option.bind_some, wI]
    cases truD d <;> rfl
theorem w_notT {f : DEnv → Out Bool} {Q : Bool → DEnv → Prop} : wO (dNotT f ρ) Q E = wO (f ρ) (fun b ρ1 => Q (!b) ρ1) E := by
  unfold dNotT
  rw [wO_bind]
  rfl
theorem w_andT {f g : DEnv → Out Bool} {Q : Bool → DEnv → Prop} : wO (dAndT f g ρ) Q E = wO (f ρ) (fun b ρ1 => if b = true then wO (g ρ1) Q E else Q false ρ1) E := by
  unfold dAndT
  rw [wO_bind]
  refine wO_ext fun b ρ1 => ?_
  cases b <;> rfl
theorem w_orT {f g : DEnv → Out Bool} {Q : Bool → DEnv → Prop} : wO (dOrT f g ρ) Q E = wO (f ρ) (fun b ρ1 => if b = true then Q true ρ1 else wO (g ρ1) Q E) E := by
  unfold dOrT
  rw [wO_bind]
  refine wO_ext fun b ρ1 => ?_
  cases b <;> rfl
theorem w_if {c : DEnv → Out Bool} {f g : Den} {Q : RV → DEnv → Prop} : wO (dIf c f g ρ) Q E = wO (c ρ) (fun b ρ1 => if b = true then wO (f ρ1) Q E else wO (g ρ1) Q E) E := by
  unfold dIf
  rw [wO_bind]
  refine wO_ext fun b ρ1 => ?_
  cases b <;> rfl
theorem w_and {f g : Den} {Q : RV → DEnv → Prop} : wO (dAnd f g ρ) Q E = wO (f ρ) (fun r ρ1 => wI (view ρ1 r) fun d => wI (truD d) fun b => if b = true then wO (g ρ1) Q E else Q r ρ1) E := by
  unfold dAnd
  rw [wO_bind]
  refine wO_ext fun r ρ1 => ?_
  cases q : view ρ1 r with
  | none => rfl
  | some d =>
    simp only [Option.bind_some, wI]
    cases truD d with
    | none => rfl
    | some b => cases b <;> rfl
theorem w_or {f g : Den} {Q : RV → DEnv → Prop} : wO (dOr f g ρ) Q E = wO (f ρ) (fun r ρ1 => wI (view ρ1 r) fun d => wI (truD d) fun b => if b = true then Q r ρ1 else wO (g ρ1) Q E) E := by
  unfold dOr
  rw [wO_bind]
  refine wO_ext fun r ρ1 => ?_
  cases q : view ρ1 r with
  | none => rfl
  | some d =>
    simp only [Option.bind_some, wI]
    cases truD d with
    | none => rfl
    | some b => cases b <;> rfl
theorem w_not {f : Den} {Q : RV → DEnv → Prop} : wO (dNot f ρ) Q E = wO (f ρ) (fun r ρ1 => wI (view ρ1 r) fun d => wI (truD d) fun b => Q (.d (.bl (!b))) ρ1) E := by
  unfold dNot
  rw [wO_bind]
  refine wO_ext fun r ρ1 => ?_
  cases q : view ρ1 r with
  | none => rfl
  | some d =>
    simp only [Option.bind_some, wI]
    cases truD d with
    | none => rfl
    | some b => cases b <;> rfl
theorem w_chain {o o' : Op} {fa fb fc : Den} {Q : RV → DEnv → Prop} : wO (dChain o o' fa fb fc ρ) Q E = wO (fa ρ) (fun ra ρ1 => wO (fb ρ1) (fun rb ρ2 => wI (views ρ2 [ra, rb]) fun ds => wI (o ds) fun r => wB r fun b =>
    if b = true then wO (fc ρ2) (fun rc ρ3 => wI (views ρ3 [rb, rc]) fun ds => wI (o' ds) fun r => Q r ρ3) E else Q (.d (.bl false)) ρ2) E) E := by
  unfold dChain
  rw [wO_bind]
  refine wO_ext fun ra ρ1 => ?_
  rw [wO_bind]
  refine wO_ext fun rb ρ2 => ?_
  cases q : views ρ2 [ra, rb] with
  | none => rfl
  | some ds =>
    simp only [Option.bind_some, wI]
    cases o ds with
    | none => rfl
    | some r =>
      cases r with
      | fresh x => rfl
      | plc x => rfl
      | d x =>
        cases x with
        | bl b =>
          cases b with
          | false => rfl
          | true =>
            simp only [wB, if_pos]
            show wO ((fc ρ2).bind _) Q E = _
            rw [wO_bind]
            refine wO_ext fun rc ρ3 => ?_
            cases q : views ρ3 [rb, rc] with
            | none => rfl
            | some ds =>
              simp only [Option.bind_some]
              cases o' ds <;> rfl
        | _ => rfl
theorem w_noPart {Q : Option Int → DEnv → Prop} : wO (dNoPart ρ) Q E = Q none ρ := id rfl
theorem w_part {f : Den} {Q : Option Int → DEnv → Prop} : wO (dPart f ρ) Q E = wO (f ρ) (fun r ρ1 => wInt r fun i => Q (some i) ρ1) E := by
  unfold dPart
  rw [wO_bind]
  refine wO_ext fun r ρ1 => ?_
  cases r with
  | d x => cases x <;> rfl
  | _ => rfl
theorem w_slice {f : Den} {lo hi : DEnv → Out (Option Int)} {Q : RV → DEnv → Prop} : wO (dSlice f lo hi ρ) Q E = wO (f ρ) (fun r ρ1 => wO (lo ρ1) (fun l ρ2 => wO (hi ρ2) (fun u ρ3 => wI (view ρ3 r) fun d => wI (oSl l u d) fun r => Q r ρ3) E) E) E := by
  unfold dSlice
  rw [wO_bind]
  refine wO_ext fun r ρ1 => ?_
  rw [wO_bind]
  refine wO_ext fun l ρ2 => ?_
  rw [wO_bind]
  refine wO_ext fun u ρ3 => ?_
  cases q : view ρ3 r with
  | none => rfl
  | some d =>
    simp only [Option.bind_some, wI]
    cases oSl l u d <;> rfl
theorem w_call {φ : List D → FRes} {fs : List Den} {Q : RV → DEnv → Prop} : wO (dCall φ fs ρ) Q E = wO (dFrz fs ρ) (fun ds ρ1 => wF0 (φ ds) (fun r => Q r ρ1) fun e => E e ρ1) E := by
  unfold dCall
  rw [wO_bind]
  refine wO_ext fun ds ρ1 => ?_
  cases φ ds with
  | ok r m => cases m <;> rfl
  | exc e m => cases m <;> rfl
  | bad => rfl
def wPlc (rs : List RV) (Q : Nat → List RV → Prop) (_ : Tg Q := .mk) : Prop := match rs with
  | .plc i :: rest => Q i rest
  | _ => False
theorem wPlc_cons {i : Nat} {rest : List RV} {Q : Nat → List RV → Prop} : wPlc (.plc i :: rest) Q = Q i rest := id rfl
def wOwn (s : Option Sl) (Q : D → Prop) (_ : Tg Q := .mk) : Prop := match s with
  | some (.own d) => Q d
  | _ => False
theorem wOwn_own {d : D} {Q : D → Prop} : wOwn (some (.own d)) Q = Q d := id rfl
theorem w_callIo {φ : List D → FRes} {fs : List Den} {Q : RV → DEnv → Prop} : wO (dCallIo φ fs ρ) Q E = wO (dArgs fs ρ) (fun rs ρ1 => wPlc rs fun i rest => wI (escs rest ρ1) fun p => wOwn p.2[i]? fun d =>
    wF1 (φ (d :: p.1)) (fun r d' => Q r (p.2.set i (.own d'))) fun e d' => E e (p.2.set i (.own d'))) E := by
  unfold dCallIo
  rw [wO_bind]
  refine wO_ext fun rs ρ1 => ?_
  cases rs with
  | nil => rfl
  | cons r rest =>
    cases r with
    | d x => rfl
    | fresh x => rfl
    | plc i =>
      simp only [wPlc]
      cases escs rest ρ1 with
      | none => rfl
      | some p =>
        obtain ⟨ds, ρ2⟩ := p
        simp only [wI]
        cases ρ2[i]? with
        | none => rfl
        | some s =>
          cases s with
          | own d =>
            simp only [wOwn]
            cases φ (d :: ds) with
            | ok r m => cases m <;> rfl
            | exc e m => cases m <;> rfl
            | bad => rfl
          | _ => rfl
def isLst (d : D) (p : Prop) : Prop := match d with
  | .lst _ => p
  | _ => False
theorem isLst_lst {l : List D} {p : Prop} : isLst (.lst l) p = p := rfl
def wExt (i : Nat) (Q : RV → DEnv → Prop) (ρ1 : DEnv) : List RV → Option Sl → Prop
  | [.fresh (.lst m)], some (.own (.lst l)) => okLen (l.length + m.length) = true ∧ Q (.d .non) (ρ1.set i (.own (.lst (l ++ m))))
  | _, _ => False
theorem wExt_ok {i : Nat} {Q : RV → DEnv → Prop} {ρ1 : DEnv} {m l : List D} : wExt i Q ρ1 [.fresh (.lst m)] (some (.own (.lst l))) = (okLen (l.length + m.length) = true ∧ Q (.d .non) (ρ1.set i (.own (.lst (l ++ m))))) := rfl
theorem w_ext {i : Nat} {fs : List Den} {Q : RV → DEnv → Prop} : wO (dExtend i fs ρ) Q E = wOwn ρ[i]? fun d0 => isLst d0 (wO (dArgs fs ρ) (fun rs ρ1 => wExt i Q ρ1 rs ρ1[i]?) E) := by
  unfold dExtend
  cases ρ[i]? with
  | none => rfl
  | some s =>
    cases s with
    | own d =>
      cases d with
      | lst l =>
        simp only [wOwn, isLst]
        rw [wO_bind]
        refine wO_ext fun rs ρ1 => ?_
        generalize ρ1[i]? = sl
        unfold extD wExt
        split
        · rename_i m l
          cases q : okLen (l.length + m.length) with
          | true => simp [wO, q]
          | false => simp [wO, q]
        · rename_i hno
          first
            | rfl
            | (split
               · rename_i m l
                 exact absurd rfl (hno m l rfl)
               · rfl)
      | _ => rfl
    | _ => rfl
theorem w_meth {i : Nat} {o : MOp} {fs : List Den} {Q : RV → DEnv → Prop} : wO (dMeth i o fs ρ) Q E = wOwn ρ[i]? fun d0 => isLst d0 (wO (dFrz fs ρ) (fun ds ρ1 => wOwn ρ1[i]? fun d => wI (o d ds) fun p => Q (.d p.1) (ρ1.set i (.own p.2))) E) := by
  unfold dMeth
  cases ρ[i]? with
  | none => rfl
  | some s =>
    cases s with
    | own d =>
      cases d with
      | lst l =>
        simp only [wOwn, isLst]
        rw [wO_bind]
        refine wO_ext fun ds ρ1 => ?_
        cases ρ1[i]? with
        | none => rfl
        | some s =>
          cases s with
          | own d =>
            simp only []
            cases o d ds <;> rfl
          | _ => rfl
      | _ => rfl
    | _ => rfl

/-! ### statements -/
theorem ws_next : wS (sNext ρ) P = P.N ρ := id rfl
theorem ws_bk : wS (.bk ρ) P = P.B ρ := id rfl
theorem ws_ct : wS (.ct ρ) P = P.C ρ := id rfl
theorem ws_rt {r : RV} : wS (.rt r ρ) P = P.R r ρ := id rfl
theorem ws_nx : wS (.nx ρ) P = P.N ρ := id rfl
theorem ws_seq {f g : SDen} : wS (sSeq f g ρ) P = wS (f ρ) ⟨fun ρ1 => wS (g ρ1) P, P.R, P.B, P.C, P.E⟩ := by
  unfold sSeq
  cases f ρ <;> rfl
theorem ws_E {f : DEnv → Out α} {k : α → DEnv → SOut} : wS (sE f k ρ) P = wO (f ρ) (fun a ρ1 => wS (k a ρ1) P) P.E := by
  unfold sE
  cases f ρ <;> rfl
theorem ws_drop {f : Den} : wS (sDrop f ρ) P = wO (f ρ) (fun _ ρ1 => P.N ρ1) P.E := by
  unfold sDrop
  rw [ws_E]; rfl
theorem ws_ret {f : Den} : wS (sRet f ρ) P = wO (f ρ) (fun r ρ1 => P.R r ρ1) P.E := by
  unfold sRet
  rw [ws_E]; rfl
theorem ws_if {c : DEnv → Out Bool} {f g : SDen} : wS (sIf c f g ρ) P = wO (c ρ) (fun b ρ1 => if b = true then wS (f ρ1) P else wS (g ρ1) P) P.E := by
  unfold sIf
  rw [ws_E]
  refine wO_ext fun b ρ1 => ?_
  cases b <;> rfl
theorem ws_set {i : Nat} {f : Den} : wS (sSet i f ρ) P = wO (f ρ) (fun r ρ1 => wI (setR i r ρ1) P.N) P.E := by
  unfold sSet
  rw [ws_E]
  refine wO_ext fun r ρ1 => ?_
  cases setR i r ρ1 <;> rfl
theorem wSet_d {i : Nat} {d : D} {Q : DEnv → Prop} : wI (setR i (.d d) ρ) Q = Q (ρ.set i (.val d)) := id rfl
theorem wSet_fresh {i : Nat} {d : D} {Q : DEnv → Prop} : wI (setR i (.fresh d) ρ) Q = Q (ρ.set i (.own d)) := id rfl
theorem wSet_plc {i j : Nat} {Q : DEnv → Prop} : wI (setR i (.plc j) ρ) Q = wI (esc ρ (.plc j)) fun p => Q (p.2.set i (.val p.1)) := by
  unfold setR
  exact wI_map
theorem ws_asg {f : Den} {t : Tgt} : wS (sAsg f t ρ) P = wO (f ρ) (fun r ρ1 => wI (esc ρ1 r) fun p => wI (t p.1 p.2) P.N) P.E := by
  unfold sAsg
  rw [ws_E]
  refine wO_ext fun r ρ1 => ?_
  cases esc ρ1 r with
  | none => rfl
  | some p =>
    obtain ⟨d, ρ2⟩ := p
    simp only [wI]
    cases t d ρ2 <;> rfl
theorem wt_name {i : Nat} {d : D} {Q : DEnv → Prop} : wI (tName i d ρ) Q = Q (ρ.set i (.val d)) := id rfl
theorem wt_nil {Q : DEnv → Prop} : wI (tNil' [] ρ) Q = Q ρ := id rfl
theorem wt_cons {t : Tgt} {u : List D → DEnv → Option DEnv} {d : D} {ds : List D} {Q : DEnv → Prop} : wI (tCons' t u (d :: ds) ρ) Q = wI (t d ρ) fun ρ1 => wI (u ds ρ1) Q := by
  show wI ((t d ρ).bind _) Q = _
  rw [wI_bind]
theorem wt_tup {n : Nat} {u : List D → DEnv → Option DEnv} {ds : List D} {Q : DEnv → Prop} : wI (tTupT n u (.tup ds) ρ) Q = if (ds.length == n) = true then wI (u ds ρ) Q else False := by
  unfold tTupT
  exact wI_ite
theorem wt_lst {n : Nat} {u : List D → DEnv → Option DEnv} {ds : List D} {Q : DEnv → Prop} : wI (tTupT n u (.lst ds) ρ) Q = if (ds.length == n) = true then wI (u ds ρ) Q else False := by
  unfold tTupT
  exact wI_ite
def wPar (ds : List D) (Q : D → D → Prop) (_ : Tg Q := .mk) : Prop := match ds with
  | [d, e] => Q d e
  | _ => False
theorem wPar_two {d e : D} {Q : D → D → Prop} : wPar [d, e] Q = Q d e := id rfl
theorem ws_par {i j : Nat} {fs : List Den} : wS (sPar i j fs ρ) P = wO (dFrz fs ρ) (fun ds ρ1 => wPar ds fun d e => P.N ((ρ1.set i (.val d)).set j (.val e))) P.E := by
  unfold sPar
  rw [ws_E]
  refine wO_ext fun ds ρ1 => ?_
  match ds with
  | [] => rfl
  | [_] => rfl
  | [_, _] => rfl
  | _ :: _ :: _ :: _ => rfl
def wLstS (s : Option Sl) (Q : List D → Prop) (_ : Tg Q := .mk) : Prop := match s with
  | some (.own (.lst l)) => Q l
  | _ => False
theorem wLstS_own {l : List D} {Q : List D → Prop} : wLstS (some (.own (.lst l))) Q = Q l := id rfl
theorem ws_item {j : Nat} {fi fe : Den} : wS (sItem j fi fe ρ) P = wO (fe ρ) (fun r ρ1 => wLstS ρ1[j]? fun _ => wO (fi ρ1) (fun ri ρ2 => wInt ri fun k => wI (esc ρ2 r) fun p => wLstS p.2[j]? fun l => wI (ixN l.length k) fun n => P.N (p.2.set j (.own (.lst (l.set n p.1))))) P.E) P.E := by
  unfold sItem
  rw [ws_E]
  refine wO_ext fun r ρ1 => ?_
  cases ρ1[j]? with
  | none => rfl
  | some s =>
    cases s with
    | own d =>
      cases d with
      | lst l =>
        simp only [wLstS]
        rw [ws_E]
        refine wO_ext fun ri ρ2 => ?_
        cases ri with
        | d x =>
          cases x with
          | int k =>
            simp only [wInt]
            cases esc ρ2 r with
            | none => rfl
            | some p =>
              obtain ⟨d, ρ3⟩ := p
              simp only [wI]
              cases ρ3[j]? with
              | none => rfl
              | some s =>
                cases s with
                | own d =>
                  cases d with
                  | lst l =>
                    simp only []
                    cases ixN l.length k <;> rfl
                  | _ => rfl
                | _ => rfl
          | _ => rfl
        | _ => rfl
      | _ => rfl
    | _ => rfl
theorem ws_for {fi : DEnv → Out (List D)} {t : Tgt} {b : SDen} : wS (sFor fi t b ρ) P = wO (fi ρ) (fun ds ρ1 => wS (forL t b ds ρ1) P) P.E := by
  unfold sFor
  rw [ws_E]
theorem w_iter {f : Den} {Q : List D → DEnv → Prop} : wO (dIter f ρ) Q E = wO (f ρ) (fun r ρ1 => wI (esc ρ1 r) fun p => wI (itemsD p.1) fun ds => Q ds p.2) E := by
  unfold dIter
  rw [wO_bind]
  refine wO_ext fun r ρ1 => ?_
  cases esc ρ1 r with
  | none => rfl
  | some p =>
    obtain ⟨d, ρ2⟩ := p
    simp only [wI]
    cases itemsD d <;> rfl
theorem wItems_lst {l : List D} {Q : List D → Prop} : wI (itemsD (.lst l)) Q = Q l := id rfl
theorem wItems_tup {l : List D} {Q : List D → Prop} : wI (itemsD (.tup l)) Q = Q l := id rfl
theorem w_zip {fs : List Den} {Q : List D → DEnv → Prop} : wO (dZip fs ρ) Q E = wO (dFrz fs ρ) (fun ds ρ1 => wI (zipD ds) fun l => Q l ρ1) E := by
  unfold dZip
  rw [wO_bind]
  refine wO_ext fun ds ρ1 => ?_
  cases zipD ds <;> rfl
theorem w_rng {fs : List Den} {Q : List D → DEnv → Prop} : wO (dRng fs ρ) Q E = wO (dArgs fs ρ) (fun rs ρ1 => wI (intsR rs) fun l => wI (rngD l) fun ds => Q ds ρ1) E := by
  unfold dRng
  rw [wO_bind]
  refine wO_ext fun rs ρ1 => ?_
  cases intsR rs with
  | none => rfl
  | some l =>
    simp only [Option.bind_some, wI]
    cases rngD l <;> rfl
/-- a loop by what stands ahead of each turn: the items left, the slots -/
theorem for_inv {t : Tgt} {b : SDen} (I : List D → DEnv → Prop) {ds : List D} (h : I ds ρ) (step : ∀ d ds ρ, I (d :: ds) ρ → wI (t d ρ) fun ρ1 => wS (b ρ1) ⟨I ds, P.R, P.N, I ds, P.E⟩) (fin : ∀ ρ, I [] ρ → P.N ρ) : wS (forL t b ds ρ) P := by
  induction ds generalizing ρ with
  | nil => exact fin ρ h
  | cons d ds ih =>
    have st := step d ds ρ h
    unfold forL
    cases q : t d ρ with
    | none => rw [q] at st; exact st.elim
    | some ρ1 =>
      rw [q] at st
      have st : wS (b ρ1) ⟨I ds, P.R, P.N, I ds, P.E⟩ := st
      simp only []
      cases q2 : b ρ1 with
      | nx ρ2 => rw [q2] at st; exact ih st
      | ct ρ2 => rw [q2] at st; exact ih st
      | bk ρ2 => rw [q2] at st; exact st
      | rt r ρ2 => rw [q2] at st; exact st
      | exc e ρ2 => rw [q2] at st; exact st
      | bad => rw [q2] at st; exact st
/-- while, by a measure -/
theorem while_inv {c : DEnv → Out Bool} {b : SDen} (I : Nat → DEnv → Prop) {n : Nat} (h : I n ρ) (step : ∀ n ρ, I n ρ → wO (c ρ) (fun t ρ1 => if t = true then wS (b ρ1) ⟨fun ρ2 => ∃ m, m < n ∧ I m ρ2, P.R, P.N, fun ρ2 => ∃ m, m < n ∧ I m ρ2, P.E⟩ else P.N ρ1) P.E) : wS (sWhile c b ρ) P := by
  have key : ∀ n ρ, I n ρ → ∃ k o, whileN c b k ρ = some o ∧ wS o P := by
    intro n
    induction n using Nat.strongRecOn with
    | _ n ih =>
      intro ρ h
      have st := step n ρ h
      cases q : c ρ with
      | bad => rw [q] at st; exact st.elim
      | exc e ρ1 => exact ⟨1, .exc e ρ1, by unfold whileN; simp only [q], by rw [q] at st; exact st⟩
      | ok t ρ1 =>
        rw [q] at st
        have st : if t = true then wS (b ρ1) ⟨fun ρ2 => ∃ m, m < n ∧ I m ρ2, P.R, P.N, fun ρ2 => ∃ m, m < n ∧ I m ρ2, P.E⟩ else P.N ρ1 := st
        cases t with
        | false =>
          rw [if_neg Bool.false_ne_true] at st
          exact ⟨1, .nx ρ1, by unfold whileN; simp only [q], st⟩
        | true =>
          rw [if_pos rfl] at st
          cases q2 : b ρ1 with
          | bad => rw [q2] at st; exact st.elim
          | nx ρ2 =>
            rw [q2] at st
            obtain ⟨m, hm, im⟩ := st
            obtain ⟨k, o, e, w⟩ := ih m hm ρ2 im
            exact ⟨k + 1, o, by unfold whileN; simp only [q, q2]; exact e, w⟩
          | ct ρ2 =>
            rw [q2] at st
            obtain ⟨m, hm, im⟩ := st
            obtain ⟨k, o, e, w⟩ := ih m hm ρ2 im
            exact ⟨k + 1, o, by unfold whileN; simp only [q, q2]; exact e, w⟩
          | bk ρ2 => exact ⟨1, .nx ρ2, by unfold whileN; simp only [q, q2], by rw [q2] at st; exact st⟩
          | rt r ρ2 => exact ⟨1, .rt r ρ2, by unfold whileN; simp only [q, q2], by rw [q2] at st; exact st⟩
          | exc e ρ2 => exact ⟨1, .exc e ρ2, by unfold whileN; simp only [q, q2], by rw [q2] at st; exact st⟩
  obtain ⟨k, o, e, w⟩ := key n ρ h
  rw [while_eq e]
  exact w
/-- a comprehension: the items left, what is gathered, the slots -/
theorem comp_inv {t : Tgt} {ff : DEnv → Out Bool} {fe : Den} {vs : List Nat} {Q : List D → DEnv → Prop} {E : Exn → DEnv → Prop} (I : List D → List D → DEnv → Prop) {ds acc : List D} (h : I ds acc ρ)
    (step : ∀ d ds acc ρ, I (d :: ds) acc ρ → wI (t d (wipeD ρ vs)) fun ρ1 => wO (ff ρ1) (fun b ρ2 => if b = true then wO (fe ρ2) (fun r ρ3 => wI (esc ρ3 r) fun p => okLen acc.length = true ∧ I ds (acc ++ [p.1]) p.2) (fun _ _ => False) else I ds acc ρ2) fun _ _ => False)
    (fin : ∀ acc ρ, I [] acc ρ → Q acc ρ) : wO (compL t ff fe vs ds ρ acc) Q E := by
  induction ds generalizing ρ acc with
  | nil => exact fin acc ρ h
  | cons d ds ih =>
    have st := step d ds acc ρ h
    unfold compL
    cases q : t d (wipeD ρ vs) with
    | none => rw [q] at st; exact st.elim
    | some ρ1 =>
      rw [q] at st
      simp only [wI] at st ⊢
      cases q2 : ff ρ1 with
      | bad => rw [q2] at st; exact st.elim
      | exc e ρ2 => rw [q2] at st; exact st.elim
      | ok b ρ2 =>
        rw [q2] at st
        simp only [wO] at st
        cases b with
        | false =>
          rw [if_neg Bool.false_ne_true] at st
          exact ih st
        | true =>
          rw [if_pos rfl] at st
          cases q3 : fe ρ2 with
          | bad => simp only [q3] at st
          | exc e ρ3 => simp only [q3] at st
          | ok r ρ3 =>
            simp only [q3] at st ⊢
            cases q4 : esc ρ3 r with
            | none => simp only [q4] at st
            | some p =>
              obtain ⟨x, ρ4⟩ := p
              simp only [q4] at st ⊢
              rw [if_pos st.1]
              exact ih st.2
theorem w_comp {vs : List Nat} {fi : DEnv → Out (List D)} {t : Tgt} {ff : DEnv → Out Bool} {fe : Den} {Q : RV → DEnv → Prop} : wO (dComp vs fi t ff fe ρ) Q E = wO (fi ρ) (fun ds ρ1 => wO (compL t ff fe vs ds ρ1 []) (fun acc ρ2 => Q (.fresh (.lst acc)) (unw ρ1 ρ2 vs)) fun _ _ => False) E := by
  unfold dComp
  rw [wO_bind]
  refine wO_ext fun ds ρ1 => ?_
  cases compL t ff fe vs ds ρ1 [] <;> rfl

/-! ### functions -/
theorem w_run0 {nl ar : Nat} {b : SDen} {ds : List D} {Q : RV → Prop} {E : Exn → Prop} (hl : Nat.beq ds.length ar = true)
    (h : wS (b (startD nl false ds)) ⟨fun _ => Q (.d .non), fun r ρ => wI (retOf false ρ r) Q, fun _ => False, fun _ => False, fun e _ => E e⟩) : wF0 (runFn nl ar false b ds) Q E := by
  unfold runFn
  rw [hl, cond_true]
  unfold finF
  cases q : b (startD nl false ds) with
  | nx ρ => rw [q] at h; exact h
  | rt r ρ =>
    rw [q] at h
    have h : wI (retOf false ρ r) Q := h
    cases q2 : retOf false ρ r with
    | none => rw [q2] at h; exact h.elim
    | some x =>
      rw [q2] at h
      simp only [ioOf, q2]
      exact h
  | exc e ρ => rw [q] at h; exact h
  | bad => rw [q] at h; exact h.elim
  | bk ρ => rw [q] at h; exact h.elim
  | ct ρ => rw [q] at h; exact h.elim
theorem w_run1 {nl ar : Nat} {b : SDen} {ds : List D} {Q : RV → D → Prop} {E : Exn → D → Prop} (hl : Nat.beq ds.length ar = true)
    (h : wS (b (startD nl true ds)) ⟨fun ρ => wOwn ρ[0]? fun d => Q (.d .non) d, fun r ρ => wOwn ρ[0]? fun d => wI (retOf true ρ r) fun x => Q x d, fun _ => False, fun _ => False, fun e ρ => wOwn ρ[0]? fun d => E e d⟩) : wF1 (runFn nl ar true b ds) Q E := by
  unfold runFn
  rw [hl, cond_true]
  unfold finF
  have own : ∀ {ρ : DEnv} {p : D → Prop}, wOwn ρ[0]? p → ∃ d, ioOf true ρ = some (some d) ∧ p d := fun {ρ p} h => by
    unfold ioOf
    cases q : ρ[0]? with
    | none => rw [q] at h; exact h.elim
    | some s =>
      rw [q] at h
      cases s with
      | own d => exact ⟨d, rfl, h⟩
      | _ => exact h.elim
  cases q : b (startD nl true ds) with
  | nx ρ =>
    rw [q] at h
    obtain ⟨d, e, h⟩ := own h
    simp only [e]
    exact h
  | rt r ρ =>
    rw [q] at h
    obtain ⟨d, e, h⟩ := own h
    cases q2 : retOf true ρ r with
    | none => rw [q2] at h; exact h.elim
    | some x =>
      rw [q2] at h
      simp only [e, q2]
      exact h
  | exc e ρ =>
    rw [q] at h
    obtain ⟨d, e, h⟩ := own h
    simp only [e]
    exact h
  | bad => rw [q] at h; exact h.elim
  | bk ρ => rw [q] at h; exact h.elim
  | ct ρ => rw [q] at h; exact h.elim
theorem wRet_d {io : Bool} {d : D} {Q : RV → Prop} : wI (retOf io ρ (.d d)) Q = Q (.d d) := id rfl
theorem wRet_fresh {io : Bool} {d : D} {Q : RV → Prop} : wI (retOf io ρ (.fresh d)) Q = Q (.fresh d) := id rfl
def wRetS (s : Option Sl) (io : Bool) (i : Nat) (Q : RV → Prop) (_ : Tg Q := .mk) : Prop := match s with
  | some (.val d) => Q (.d d)
  | some (.own d) => if io = true ∧ i = 0 then False else Q (.fresh d)
  | _ => False
theorem wRet_plc {io : Bool} {i : Nat} {Q : RV → Prop} : wI (retOf io ρ (.plc i)) Q = wRetS ρ[i]? io i Q := by
  cases q : ρ[i]? with
  | none => simp only [retOf, q]; rfl
  | some s =>
    cases s with
    | own d =>
      simp only [retOf, q, wRetS]
      split <;> rfl
    | _ => simp only [retOf, q]; rfl
theorem wRetS_val {d : D} {io : Bool} {i : Nat} {Q : RV → Prop} : wRetS (some (.val d)) io i Q = Q (.d d) := id rfl
theorem wRetS_own {d : D} {i : Nat} {Q : RV → Prop} : wRetS (some (.own d)) false i Q = Q (.fresh d) := by
  simp [wRetS]
theorem wRetS_ownS {d : D} {i : Nat} {Q : RV → Prop} : wRetS (some (.own d)) true (i + 1) Q = Q (.fresh d) := by
  simp [wRetS]
end
end DL
set_option maxHeartbeats 4000000
/-! DL, part 20: the draws of a law. -/
namespace DL
open PySem PySem.Spec PyProof.Rows L2

/-! ### operations, as rules -/
section
variable {Q : RV → Prop} {i j : Int} {a b : Bool} {l m : List D} {s t : Str}
theorem o_add : wI (oAdd [.int i, .int j]) Q = Q (.d (.int (i + j))) := id rfl
theorem o_sub : wI (oSub [.int i, .int j]) Q = Q (.d (.int (i - j))) := id rfl
theorem o_neg : wI (oNeg [.int i]) Q = Q (.d (.int (-i))) := id rfl
theorem o_lt : wI (oLtI [.int i, .int j]) Q = Q (.d (.bl (decide (i < j)))) := id rfl
theorem o_le : wI (oLe [.int i, .int j]) Q = Q (.d (.bl (decide (i ≤ j)))) := id rfl
theorem o_gt : wI (oGt [.int i, .int j]) Q = Q (.d (.bl (decide (j < i)))) := id rfl
theorem o_ge : wI (oGe [.int i, .int j]) Q = Q (.d (.bl (decide (j ≤ i)))) := id rfl
theorem o_abs : wI (oAbs [.int i]) Q = Q (.d (.int (if i < 0 then -i else i))) := id rfl
theorem o_lenL : wI (oLen [.lst l]) Q = Q (.d (.int l.length)) := id rfl
theorem o_lenT : wI (oLen [.tup l]) Q = Q (.d (.int l.length)) := id rfl
theorem o_mod (h : j ≠ 0) : wI (oMod [.int i, .int j]) Q = Q (.d (.int (i.fmod j))) := by
  show wI (if (j != 0) = true then _ else _) Q = _
  rw [if_pos (by simpa using h)]; rfl
theorem o_div (h : j ≠ 0) (h2 : j.natAbs.log2 < 9000) : wI (oDiv [.int i, .int j]) Q = Q (.d (.int (i.fdiv j))) := by
  show wI (if (j != 0 && Nat.blt j.natAbs.log2 9000) = true then _ else _) Q = _
  rw [if_pos (by rw [Bool.and_eq_true]; exact ⟨by simpa using h, Nat.ble_eq_true_of_le h2⟩)]; rfl
theorem log2_le {n k : Nat} (h : n < 2 ^ (k + 1)) : n.log2 ≤ k := by
  by_cases z : n = 0
  · subst z; simp
  · have := (Nat.log2_lt z).mpr h
    omega
theorem o_mul {p q : Nat} (h1 : i.natAbs < 2 ^ (p + 1)) (h2 : j.natAbs < 2 ^ (q + 1)) (h : p + q ≤ 134000000) : wI (oMul [.int i, .int j]) Q = Q (.d (.int (i * j))) := by
  show wI (if bitsOk i j = true then _ else _) Q = _
  rw [if_pos]
  · rfl
  · have := log2_le h1
    have := log2_le h2
    exact Nat.ble_eq_true_of_le (by omega)
end
theorem ixN_nat {n k : Nat} (h : k < n) : ixN n (k : Int) = some k := by
  unfold ixN
  rw [if_pos (by omega), if_pos (by omega)]
  simp
theorem o_ixL {Q : RV → Prop} {l : List D} {i : Int} (h0 : 0 ≤ i) (h : i < l.length) : wI (oIx [.lst l, .int i]) Q = ∀ d, l[i.toNat]? = some d → Q (.d d) := by
  obtain ⟨k, rfl⟩ := Int.eq_ofNat_of_zero_le h0
  have hk : k < l.length := by omega
  show wI ((atI l (k : Int)).map RV.d) Q = _
  unfold atI
  rw [ixN_nat hk]
  simp only [Option.bind_some, Int.toNat_natCast, List.getElem?_eq_getElem hk, Option.map_some, wI]
  simp

/-! ### the feed -/
structure Fd (b : Nat) (f : D) : Prop where
  ex : ∃ (l : List Int) (t r : Int), f = .lst [.lst (l.map .int), .int t, .int r] ∧ 0 < l.length ∧ l.length ≤ 100 ∧ 0 ≤ t ∧ t ≤ b ∧ 0 ≤ r
theorem Fd.mono {b c : Nat} {f : D} (h : Fd b f) (k : b ≤ c) : Fd c f := by
  obtain ⟨l, t, r, h1, h2, h3, h4, h5, h6⟩ := h.ex
  exact ⟨l, t, r, h1, h2, h3, h4, by omega, h6⟩
def nextB : SDen :=
 sSeq (sIf (dBool (dApp oGt [dApp oIx [dVar 0, dC (.int 2)], dC (.int 0)]))
 (sSeq (sSet 2 (dApp oMod [dApp oIx [dVar 0, dC (.int 2)], dVar 1]))
 (sSeq (sItem 0 (dC (.int 2)) (dApp oDiv [dApp oIx [dVar 0, dC (.int 2)], dVar 1]))
 (sRet (dVar 2))))
 (sNext))
 (sSeq (sSet 3 (dApp oIx [dVar 0, dC (.int 1)]))
 (sSeq (sItem 0 (dC (.int 1)) (dApp oAdd [dVar 3, dC (.int 1)]))
 (sSeq (sSet 4 (dApp oIx [dApp oIx [dVar 0, dC (.int 0)], dApp oMod [dVar 3, dApp oLen [dApp oIx [dVar 0, dC (.int 0)]]]]))
 (sSeq (sIf (dAndT (dBool (dApp oGe [dVar 4, dApp oPow [dC (.int 10), dC (.int 18)]])) (dBool (dApp oLtI [dVar 3, dApp oLen [dApp oIx [dVar 0, dC (.int 0)]]])))
 (sSeq (sItem 0 (dC (.int 2)) (dApp oDiv [dVar 4, dVar 1]))
 (sRet (dApp oMod [dVar 4, dVar 1])))
 (sNext))
 (sSeq (sSet 5 (dApp oMod [dApp oMul [dApp oAdd [dApp oAdd [dApp oAdd [dApp oMod [dVar 4, dC (.int 1000003)], dApp oMul [dApp oMul [dC (.int 41), dVar 3], dVar 3]], dApp oMul [dC (.int 17), dVar 3]], dC (.int 1009)], dC (.int 51749)], dC (.int 999917)]))
 (sSeq (sSet 5 (dApp oMod [dApp oAdd [dApp oAdd [dApp oMul [dVar 5, dVar 5], dApp oMul [dC (.int 39373), dVar 3]], dC (.int 77)], dC (.int 2097143)]))
 (sRet (dApp oMod [dApp oDiv [dApp oMod [dApp oMul [dVar 5, dC (.int 48271)], dC (.int 2147483629)], dC (.int 5)], dVar 1]))))))))
theorem lit2 {a b c : D} {Q : RV → Prop} : wI (oIx [.lst [a, b, c], .int 2]) Q = Q (.d c) := id rfl
theorem lit1 {a b c : D} {Q : RV → Prop} : wI (oIx [.lst [a, b, c], .int 1]) Q = Q (.d b) := id rfl
theorem lit0 {a b c : D} {Q : RV → Prop} : wI (oIx [.lst [a, b, c], .int 0]) Q = Q (.d a) := id rfl
theorem ixl2 {Q : Nat → Prop} {a b c : D} : wI (ixN [a, b, c].length 2) Q = Q 2 := id rfl
theorem ixl1 {Q : Nat → Prop} {a b c : D} : wI (ixN [a, b, c].length 1) Q = Q 1 := id rfl
theorem pow18 {Q : RV → Prop} : wI (oPow [.int 10, .int 18]) Q = Q (.d (.int (10 ^ 18))) := id rfl
theorem o_modP {Q : RV → Prop} {i j : Int} (h : 0 < j) : wI (oMod [.int i, .int j]) Q = Q (.d (.int (i % j))) := by
  rw [o_mod (by omega), Int.fmod_eq_emod_of_nonneg _ (by omega)]
theorem o_divP {Q : RV → Prop} {i j : Int} (h : 0 < j) (h2 : j < 10 ^ 200) : wI (oDiv [.int i, .int j]) Q = Q (.d (.int (i / j))) := by
  rw [o_div (by omega) ?_, Int.fdiv_eq_ediv_of_nonneg _ (by omega)]
  have : j.natAbs.log2 ≤ 700 := log2_le (by omega)
  omega
theorem o_mulS {Q : RV → Prop} {i j : Int} (h1 : -(10 ^ 400) < i) (h2 : i < 10 ^ 400) (h3 : -(10 ^ 400) < j) (h4 : j < 10 ^ 400) : wI (oMul [.int i, .int j]) Q = Q (.d (.int (i * j))) :=
  o_mul (p := 1330) (q := 1330) (by omega) (by omega) (by omega)
theorem o_ixI {Q : RV → Prop} {l : List Int} {i : Int} (h0 : 0 ≤ i) (h : i < l.length) : wI (oIx [.lst (l.map .int), .int i]) Q = ∀ n, l[i.toNat]? = some n → Q (.d (.int n)) := by
  rw [o_ixL h0 (by simpa using h)]
  simp only [List.getElem?_map]
  obtain ⟨k, rfl⟩ := Int.eq_ofNat_of_zero_le h0
  have hk : k < l.length := by omega
  simp [List.getElem?_eq_getElem hk]
theorem next_spec {b : Nat} {f : D} {m : Int} {Q : RV → D → Prop} {E : Exn → D → Prop} (hf : Fd b f) (hb : b ≤ 1000000000000) (h0 : 0 < m) (h1 : m < 10 ^ 200)
    (h : ∀ r f', Fd (b + 1) f' → 0 ≤ r → r < m → Q (.d (.int r)) f') : wF1 (runFn 6 2 true nextB [f, .int m]) Q E := by
  obtain ⟨l, t, r, rfl, l0, l1, t0, t1, r0⟩ := hf.ex
  refine w_run1 rfl ?_
  show wS (nextB [Sl.own (.lst [.lst (l.map .int), .int t, .int r]), .val (.int m), .no, .no, .no, .no]) _
  have mod : ∀ x : Int, 0 ≤ x % m ∧ x % m < m := fun x => ⟨Int.emod_nonneg _ (by omega), Int.emod_lt_of_pos _ h0⟩
  have div : ∀ x : Int, 0 ≤ x → 0 ≤ x / m := fun x hx => Int.ediv_nonneg hx (by omega)
  have hl : 0 ≤ t % (l.length : Int) ∧ t % (l.length : Int) < l.length := ⟨Int.emod_nonneg _ (by omega), Int.emod_lt_of_pos _ (by omega)⟩
  have tt : 0 ≤ 41 * t * t ∧ 41 * t * t ≤ 41 * 1000000000000 * 1000000000000 := ⟨Int.mul_nonneg (by omega) t0, by
    have := Int.mul_le_mul (a := 41 * t) (b := t) (c := 41 * 1000000000000) (d := 1000000000000) (by omega) (by omega) t0 (by omega)
    exact this⟩
  have fd : ∀ t' r' : Int, 0 ≤ t' → t' ≤ t + 1 → 0 ≤ r' → Fd (b + 1) (.lst [.lst (l.map .int), .int t', .int r']) := fun t' r' a1 a2 a3 => ⟨⟨l, t', r', rfl, l0, l1, a1, by omega, a3⟩⟩
  unfold nextB
  simp (maxSteps := 2000000) (disch := first | assumption | omega) only [↓w_var, ↓wVar_val, ↓wVar_own, ↓w_c, ↓w_nil, ↓w_cons, ↓w_app, ↓wViews_nil, ↓wViews_cons, ↓wView_d, ↓wView_fresh, ↓wView_plc, ↓wSlot_val, ↓wSlot_own, ↓wEsc_d, ↓wEsc_fresh, ↓wEsc_plc, ↓wEscS_val, ↓wEscS_own, ↓wEscs_nil, ↓wEscs_cons, ↓w_frz, ↓w_tup, ↓w_lst, ↓w_bool, ↓w_tru, ↓w_notT, ↓w_andT, ↓w_orT, ↓w_if, ↓w_and, ↓w_or, ↓w_not, ↓w_chain, ↓wB_bl, ↓w_noPart, ↓w_part, ↓w_slice, ↓w_call, ↓wPlc_cons, ↓wOwn_own, ↓w_callIo, ↓isLst_lst, ↓w_meth, ↓w_ext, ↓wExt_ok, ↓ws_next, ↓ws_bk, ↓ws_ct, ↓ws_rt, ↓ws_nx, ↓ws_seq, ↓ws_drop, ↓ws_ret, ↓ws_if, ↓ws_set, ↓wSet_d, ↓wSet_fresh, ↓wSet_plc, ↓ws_asg, ↓wt_name, ↓wt_nil, ↓wt_cons, ↓wt_tup, ↓wt_lst, ↓wPar_two, ↓ws_par, ↓wLstS_own, ↓wInt_int, ↓ws_item, ↓ws_for, ↓w_zip, ↓w_iter, ↓wItems_lst, ↓wItems_tup, ↓w_rng, ↓wRet_d, ↓wRet_fresh, ↓wRet_plc, ↓wRetS_val, ↓wRetS_own, ↓wRetS_ownS, ↓wI_some, ↓wI_none, ↓wI_ite, List.getElem?_cons_zero, List.getElem?_cons_succ, List.set_cons_zero, List.set_cons_succ, lit2, lit1, lit0, o_gt, o_modP, o_divP, ixl2, ixl1, o_add, pow18, o_lenL, List.length_map, o_ixI, o_ge, o_lt, o_mulS, decide_eq_true_eq, Bool.false_eq_true, ↓reduceIte]
  split
  · exact h _ _ (fd t (r / m) t0 (by omega) (div r (by omega))) (mod _).1 (mod _).2
  · intro n hn
    split
    · rename_i h18
      split
      · exact h _ _ (fd (t + 1) (n / m) (by omega) (by omega) (div n (Int.le_trans (by decide) h18))) (mod _).1 (mod _).2
      · exact h _ _ (fd (t + 1) r (by omega) (by omega) r0) (mod _).1 (mod _).2
    · exact h _ _ (fd (t + 1) r (by omega) (by omega) r0) (mod _).1 (mod _).2
def feedB : SDen := sRet (dLst [dApp oAdd [dSlice (dVar 0) (dNoPart) (dPart (dC (.int 63))), dApp oMul [dLst [dC (.int 0)], dApp oInt [dApp oEq [dVar 0, dLst []]]]], dC (.int 0), dC (.int 0)])
end DL
set_option maxHeartbeats 4000000
/-! DL, part 21: shapes, equality, the feed made. -/
namespace DL
open PySem PySem.Spec PyProof.Rows L2
theorem okLen_of {n : Nat} (h : n ≤ 1000000) : okLen n = true := Nat.ble_eq_true_of_le h
mutual
/-- texts are texts; at most so deep -/
def shN : D → Nat → Bool
  | .str z, _ => PyData.strOk z
  | .tup l, k + 1 => shNs l k
  | .lst l, k + 1 => shNs l k
  | .tup _, 0 => false
  | .lst _, 0 => false
  | _, _ => true
def shNs : List D → Nat → Bool
  | [], _ => true
  | d :: l, k => shN d k && shNs l k
end
mutual
theorem shN_ok : ∀ (d : D) (k : Nat), shN d k = true → (toP d).canLay0 = true ∧ (toP d).depth ≤ k
  | .non, k, _ => by rw [toP]; exact ⟨rfl, by simp [PyData.depth]⟩
  | .bl _, k, _ => by rw [toP]; exact ⟨rfl, by simp [PyData.depth]⟩
  | .int _, k, _ => by rw [toP]; exact ⟨rfl, by simp [PyData.depth]⟩
  | .str z, k, h => by
    rw [shN] at h
    rw [toP]
    exact ⟨by simpa [PyData.canLay0] using h, by simp [PyData.depth]⟩
  | .tup l, 0, h => by rw [shN] at h; cases h
  | .lst l, 0, h => by rw [shN] at h; cases h
  | .tup l, k + 1, h => by
    rw [shN] at h
    obtain ⟨h1, h2⟩ := shNs_ok l k h
    rw [toP]
    exact ⟨by simpa [PyData.canLay0] using h1, by simp [PyData.depth]; exact h2⟩
  | .lst l, k + 1, h => by
    rw [shN] at h
    obtain ⟨h1, h2⟩ := shNs_ok l k h
    rw [toP]
    exact ⟨by simpa [PyData.canLay0] using h1, by simp [PyData.depth]; exact h2⟩
theorem shNs_ok : ∀ (l : List D) (k : Nat), shNs l k = true → PyData.canLayAll0 (toPs l) = true ∧ PyData.depthAll (toPs l) ≤ k
  | [], k, _ => by rw [toPs]; exact ⟨by simp [PyData.canLayAll0], by simp [PyData.depthAll]⟩
  | d :: l, k, h => by
    rw [shNs, Bool.and_eq_true] at h
    obtain ⟨h1, h2⟩ := shN_ok d k h.1
    obtain ⟨h3, h4⟩ := shNs_ok l k h.2
    rw [toPs]
    exact ⟨by simp [PyData.canLayAll0, h1, h3], by simp only [PyData.depthAll]; omega⟩
end
theorem shP_of {d : D} {k : Nat} (h : shN d k = true) (hk : k ≤ 64) : shP d = true := by
  obtain ⟨h1, h2⟩ := shN_ok d k h
  unfold shP SeqAt.shaped
  rw [Bool.and_eq_true]
  exact ⟨h1, decide_eq_true (by omega)⟩
mutual
theorem shN_mono : ∀ (d : D) (j k : Nat), shN d j = true → j ≤ k → shN d k = true
  | .non, _, _, _, _ => by simp [shN]
  | .bl _, _, _, _, _ => by simp [shN]
  | .int _, _, _, _, _ => by simp [shN]
  | .str z, j, k, h, _ => by rw [shN] at h ⊢; exact h
  | .tup l, 0, k, h, _ => by rw [shN] at h; cases h
  | .lst l, 0, k, h, _ => by rw [shN] at h; cases h
  | .tup l, j + 1, 0, h, hk => by omega
  | .lst l, j + 1, 0, h, hk => by omega
  | .tup l, j + 1, k + 1, h, hk => by rw [shN] at h ⊢; exact shNs_mono l j k h (by omega)
  | .lst l, j + 1, k + 1, h, hk => by rw [shN] at h ⊢; exact shNs_mono l j k h (by omega)
theorem shNs_mono : ∀ (l : List D) (j k : Nat), shNs l j = true → j ≤ k → shNs l k = true
  | [], _, _, _, _ => by simp [shNs]
  | d :: l, j, k, h, hk => by
    rw [shNs, Bool.and_eq_true] at h ⊢
    exact ⟨shN_mono d j k h.1 hk, shNs_mono l j k h.2 hk⟩
end
theorem shNs_ints (l : List Int) (k : Nat) : shNs (l.map .int) k = true := by
  induction l with
  | nil => rfl
  | cons i l ih => rw [List.map_cons, shNs, ih]; simp [shN]
theorem shNs_of {l : List D} {k : Nat} (h : ∀ d ∈ l, shN d k = true) : shNs l k = true := by
  induction l with
  | nil => rfl
  | cons d l ih =>
    rw [shNs, h d List.mem_cons_self, ih fun x hx => h x (List.mem_cons_of_mem _ hx)]; rfl
theorem shNs_mem {l : List D} {k : Nat} (h : shNs l k = true) : ∀ d ∈ l, shN d k = true := by
  induction l with
  | nil => intro d hd; cases hd
  | cons e l ih =>
    rw [shNs, Bool.and_eq_true] at h
    intro d hd
    rcases List.mem_cons.mp hd with rfl | hd
    · exact h.1
    · exact ih h.2 d hd

/-! ### equality -/
def eqPs (l m : List D) : Bool := PyData.eqvAll (toPs l) (toPs m)
section
variable {i j : Int} {a b : Bool} {l m : List D} {s t : Str} {d e : D}
theorem eq_ii : eqP (.int i) (.int j) = (i == j) := by unfold eqP; simp only [toP, PyData.eqv]
theorem eq_ib : eqP (.int i) (.bl b) = (i == if b then 1 else 0) := by unfold eqP; simp only [toP, PyData.eqv]
theorem eq_bi : eqP (.bl b) (.int i) = ((if b then 1 else 0) == i) := by unfold eqP; simp only [toP, PyData.eqv]
theorem eq_bb : eqP (.bl a) (.bl b) = (a == b) := by unfold eqP; simp only [toP, PyData.eqv]
theorem eq_ss : eqP (.str s) (.str t) = (s == t) := by unfold eqP; simp only [toP, PyData.eqv]
theorem eq_nn : eqP .non .non = true := by unfold eqP; simp only [toP, PyData.eqv]
theorem eq_tt : eqP (.tup l) (.tup m) = eqPs l m := by unfold eqP eqPs; simp only [toP, PyData.eqv]
theorem eq_ll : eqP (.lst l) (.lst m) = eqPs l m := by unfold eqP eqPs; simp only [toP, PyData.eqv]
theorem eq_cc : eqPs (d :: l) (e :: m) = (eqP d e && eqPs l m) := by unfold eqP eqPs; simp only [toPs, PyData.eqvAll]
theorem eq_00 : eqPs [] [] = true := by unfold eqPs; simp only [toPs, PyData.eqvAll]
theorem eq_0c : eqPs [] (e :: m) = false := by unfold eqPs; simp only [toPs, PyData.eqvAll]
theorem eq_c0 : eqPs (d :: l) [] = false := by unfold eqPs; simp only [toPs, PyData.eqvAll]
variable {Q : RV → Prop}
theorem o_eq (h : shP d = true) (k : shP e = true) : wI (oEq [d, e]) Q = Q (.d (.bl (eqP d e))) := by
  show wI (if (bothS d e || (shP d && shP e)) = true then _ else _) Q = _
  rw [if_pos (by rw [h, k]; simp)]; rfl
theorem o_ne (h : shP d = true) (k : shP e = true) : wI (oNe [d, e]) Q = Q (.d (.bl (!eqP d e))) := by
  show wI (if (bothS d e || (shP d && shP e)) = true then _ else _) Q = _
  rw [if_pos (by rw [h, k]; simp)]; rfl
theorem o_eqS : wI (oEq [.str s, .str t]) Q = Q (.d (.bl (s == t))) := by
  rw [← eq_ss]
  exact id rfl
theorem o_neS : wI (oNe [.str s, .str t]) Q = Q (.d (.bl (!(s == t)))) := by
  rw [← eq_ss]
  exact id rfl
theorem shI : shP (.int i) = true := shP_of (k := 0) rfl (by omega)
theorem shB : shP (.bl b) = true := shP_of (k := 0) rfl (by omega)
theorem shO : shP .non = true := shP_of (k := 0) rfl (by omega)
theorem sh00 : shP (.lst []) = true := shP_of (k := 1) rfl (by omega)
theorem shT0 : shP (.tup []) = true := shP_of (k := 1) rfl (by omega)
theorem shLI {l : List Int} : shP (.lst (l.map .int)) = true := shP_of (k := 1) (by rw [shN]; exact shNs_ints _ _) (by omega)
theorem o_eqI : wI (oEq [.int i, .int j]) Q = Q (.d (.bl (decide (i = j)))) := by
  rw [o_eq shI shI, eq_ii]
  congr 3
theorem o_neI : wI (oNe [.int i, .int j]) Q = Q (.d (.bl (decide (i ≠ j)))) := by
  rw [o_ne shI shI, eq_ii]
  congr 3
  by_cases h : i = j
  · subst h; simp
  · simp [h]
theorem tru_bl {Q : Bool → Prop} : wI (truD (.bl b)) Q = Q b := id rfl
theorem tru_int {Q : Bool → Prop} : wI (truD (.int i)) Q = Q (i != 0) := id rfl
theorem tru_non {Q : Bool → Prop} : wI (truD .non) Q = Q false := id rfl
theorem tru_lst {Q : Bool → Prop} : wI (truD (.lst l)) Q = Q (!l.isEmpty) := id rfl
theorem tru_tup {Q : Bool → Prop} : wI (truD (.tup l)) Q = Q (!l.isEmpty) := id rfl
theorem o_isi {B : BT} : wI (oIsi B [d]) Q = Q (.d (.bl (isiD B d))) := id rfl
theorem o_is : wI (oIs [d, .non]) Q = Q (.d (.bl (isNon d))) := id rfl
theorem o_isnot : wI (oIsNot [d, .non]) Q = Q (.d (.bl (!isNon d))) := id rfl
theorem o_addL (h : l.length + m.length ≤ 1000000) : wI (oAdd [.lst l, .lst m]) Q = Q (.fresh (.lst (l ++ m))) := by
  show wI (if okLen (l.length + m.length) = true then _ else _) Q = _
  rw [if_pos (okLen_of h)]; rfl
theorem o_addT (h : l.length + m.length ≤ 1000000) : wI (oAdd [.tup l, .tup m]) Q = Q (.d (.tup (l ++ m))) := by
  show wI (if okLen (l.length + m.length) = true then _ else _) Q = _
  rw [if_pos (okLen_of h)]; rfl
theorem o_mulL {k : Int} (h0 : -1000 ≤ k) (h : k ≤ 1000) (hl : l.length ≤ 1000) : wI (oMul [.lst l, .int k]) Q = Q (.fresh (.lst (List.replicate k.toNat l).flatten)) := by
  show wI (if (okLen l.length && (decide (-1000 ≤ k) && decide (k ≤ 1000)) && okLen (l.length * k.toNat)) = true then _ else _) Q = _
  have h1 : okLen l.length = true := Nat.ble_eq_true_of_le (by omega)
  have h2 : okLen (l.length * k.toNat) = true := Nat.ble_eq_true_of_le (by
    have : l.length * k.toNat ≤ 1000 * 1000 := Nat.mul_le_mul hl (by omega)
    omega)
  rw [if_pos (by rw [h1, h2, decide_eq_true h0, decide_eq_true h]; rfl)]; rfl
theorem o_slL {lo hi : Option Int} : wI (oSl lo hi (.lst l)) Q = Q (.fresh (.lst (cutD l lo hi))) := id rfl
theorem o_slT {lo hi : Option Int} : wI (oSl lo hi (.tup l)) Q = Q (.d (.tup (cutD l lo hi))) := id rfl
theorem o_intB : wI (oInt [.bl b]) Q = Q (.d (.int (if b then 1 else 0))) := id rfl
theorem o_intI : wI (oInt [.int i]) Q = Q (.d (.int i)) := id rfl
/-- a place of a written list -/
theorem o_ixT (h0 : 0 ≤ i) (h : i < l.length) : wI (oIx [.tup l, .int i]) Q = ∀ d, l[i.toNat]? = some d → Q (.d d) := by
  obtain ⟨k, rfl⟩ := Int.eq_ofNat_of_zero_le h0
  have hk : k < l.length := by omega
  show wI ((atI l (k : Int)).map RV.d) Q = _
  unfold atI
  rw [ixN_nat hk]
  simp only [Option.bind_some, Int.toNat_natCast, List.getElem?_eq_getElem hk, Option.map_some, wI]
  simp
theorem tup2_0 : wI (oIx [.tup [d, e], .int 0]) Q = Q (.d d) := id rfl
theorem tup2_1 : wI (oIx [.tup [d, e], .int 1]) Q = Q (.d e) := id rfl
end
theorem cutD_take {l : List D} {n : Nat} : cutD l none (some (n : Int)) = l.take n := by
  unfold cutD
  have h1 : HT.sIx l.length 0 none = 0 := rfl
  have h2 : HT.sIx l.length l.length (some (n : Int)) = min n l.length := HT.sIx_nat _ _ _
  rw [h1, h2]
  simp only [List.drop_zero, Nat.sub_zero]
  rw [List.take_eq_take_iff]
  omega
theorem feed_spec {l : List Int} {Q : RV → Prop} {E : Exn → Prop} (hl : l.length ≤ 100) (h : ∀ f, Fd 0 f → Q (.fresh f)) : wF0 (runFn 1 1 false feedB [.lst (l.map .int)]) Q E := by
  refine w_run0 rfl ?_
  show wS (feedB [Sl.val (.lst (l.map .int))]) _
  unfold feedB
  have hc : cutD (l.map D.int) none (some 63) = (l.take 63).map .int := by
    rw [show (63 : Int) = ((63 : Nat) : Int) from rfl, cutD_take, List.map_take]
  have he : eqP (.lst (l.map .int)) (.lst []) = l.isEmpty := by
    rw [eq_ll]
    cases l with
    | nil => exact eq_00
    | cons a l => exact eq_c0
  have hz : ∀ b : Bool, List.replicate (if b = true then (1 : Int) else 0).toNat [D.int 0] = if b = true then [[D.int 0]] else [] := fun b => by cases b <;> rfl
  simp (disch := first | assumption | omega) only [↓w_var, ↓wVar_val, ↓wVar_own, ↓w_c, ↓w_nil, ↓w_cons, ↓w_app, ↓wViews_nil, ↓wViews_cons, ↓wView_d, ↓wView_fresh, ↓wView_plc, ↓wSlot_val, ↓wSlot_own, ↓wEsc_d, ↓wEsc_fresh, ↓wEsc_plc, ↓wEscS_val, ↓wEscS_own, ↓wEscs_nil, ↓wEscs_cons, ↓w_frz, ↓w_tup, ↓w_lst, ↓w_bool, ↓w_tru, ↓w_notT, ↓w_andT, ↓w_orT, ↓w_if, ↓w_and, ↓w_or, ↓w_not, ↓w_chain, ↓wB_bl, ↓w_noPart, ↓w_part, ↓w_slice, ↓w_call, ↓wPlc_cons, ↓wOwn_own, ↓w_callIo, ↓isLst_lst, ↓w_meth, ↓w_ext, ↓wExt_ok, ↓ws_next, ↓ws_bk, ↓ws_ct, ↓ws_rt, ↓ws_nx, ↓ws_seq, ↓ws_drop, ↓ws_ret, ↓ws_if, ↓ws_set, ↓wSet_d, ↓wSet_fresh, ↓wSet_plc, ↓ws_asg, ↓wt_name, ↓wt_nil, ↓wt_cons, ↓wt_tup, ↓wt_lst, ↓wPar_two, ↓ws_par, ↓wLstS_own, ↓wInt_int, ↓ws_item, ↓ws_for, ↓w_zip, ↓w_iter, ↓wItems_lst, ↓wItems_tup, ↓w_rng, ↓wRet_d, ↓wRet_fresh, ↓wRet_plc, ↓wRetS_val, ↓wRetS_own, ↓wRetS_ownS, ↓wI_some, ↓wI_none, ↓wI_ite, List.getElem?_cons_zero, List.getElem?_cons_succ, List.set_cons_zero, List.set_cons_succ, wInt_int, o_slL, hc, o_eq shLI sh00, he, o_intB]
  have m1 : ∀ {Q : RV → Prop}, wI (oMul [.lst [.int 0], .int (if l.isEmpty = true then 1 else 0)]) Q = Q (.fresh (.lst (if l.isEmpty = true then [.int 0] else []))) := fun {Q} => by
    rw [o_mulL (by split <;> omega) (by split <;> omega) (by simp), hz]
    cases l.isEmpty <;> rfl
  rw [m1]
  simp only [hc, ↓w_var, ↓wVar_val, ↓wVar_own, ↓w_c, ↓w_nil, ↓w_cons, ↓w_app, ↓wViews_nil, ↓wViews_cons, ↓wView_d, ↓wView_fresh, ↓wView_plc, ↓wSlot_val, ↓wSlot_own, ↓wEsc_d, ↓wEsc_fresh, ↓wEsc_plc, ↓wEscS_val, ↓wEscS_own, ↓wEscs_nil, ↓wEscs_cons, ↓w_frz, ↓w_tup, ↓w_lst, ↓w_bool, ↓w_tru, ↓w_notT, ↓w_andT, ↓w_orT, ↓w_if, ↓w_and, ↓w_or, ↓w_not, ↓w_chain, ↓wB_bl, ↓w_noPart, ↓w_part, ↓w_slice, ↓w_call, ↓wPlc_cons, ↓wOwn_own, ↓w_callIo, ↓isLst_lst, ↓w_meth, ↓w_ext, ↓wExt_ok, ↓ws_next, ↓ws_bk, ↓ws_ct, ↓ws_rt, ↓ws_nx, ↓ws_seq, ↓ws_drop, ↓ws_ret, ↓ws_if, ↓ws_set, ↓wSet_d, ↓wSet_fresh, ↓wSet_plc, ↓ws_asg, ↓wt_name, ↓wt_nil, ↓wt_cons, ↓wt_tup, ↓wt_lst, ↓wPar_two, ↓ws_par, ↓wLstS_own, ↓wInt_int, ↓ws_item, ↓ws_for, ↓w_zip, ↓w_iter, ↓wItems_lst, ↓wItems_tup, ↓w_rng, ↓wRet_d, ↓wRet_fresh, ↓wRet_plc, ↓wRetS_val, ↓wRetS_own, ↓wRetS_ownS, ↓wI_some, ↓wI_none, ↓wI_ite, List.getElem?_cons_zero, List.getElem?_cons_succ, List.set_cons_zero, List.set_cons_succ]
  have m2 : ((l.take 63).map D.int).length + (if l.isEmpty = true then [D.int 0] else []).length ≤ 1000000 := by
    rw [List.length_map, List.length_take]
    split <;> simp <;> omega
  simp only [o_addL m2, ↓w_var, ↓wVar_val, ↓wVar_own, ↓w_c, ↓w_nil, ↓w_cons, ↓w_app, ↓wViews_nil, ↓wViews_cons, ↓wView_d, ↓wView_fresh, ↓wView_plc, ↓wSlot_val, ↓wSlot_own, ↓wEsc_d, ↓wEsc_fresh, ↓wEsc_plc, ↓wEscS_val, ↓wEscS_own, ↓wEscs_nil, ↓wEscs_cons, ↓w_frz, ↓w_tup, ↓w_lst, ↓w_bool, ↓w_tru, ↓w_notT, ↓w_andT, ↓w_orT, ↓w_if, ↓w_and, ↓w_or, ↓w_not, ↓w_chain, ↓wB_bl, ↓w_noPart, ↓w_part, ↓w_slice, ↓w_call, ↓wPlc_cons, ↓wOwn_own, ↓w_callIo, ↓isLst_lst, ↓w_meth, ↓w_ext, ↓wExt_ok, ↓ws_next, ↓ws_bk, ↓ws_ct, ↓ws_rt, ↓ws_nx, ↓ws_seq, ↓ws_drop, ↓ws_ret, ↓ws_if, ↓ws_set, ↓wSet_d, ↓wSet_fresh, ↓wSet_plc, ↓ws_asg, ↓wt_name, ↓wt_nil, ↓wt_cons, ↓wt_tup, ↓wt_lst, ↓wPar_two, ↓ws_par, ↓wLstS_own, ↓wInt_int, ↓ws_item, ↓ws_for, ↓w_zip, ↓w_iter, ↓wItems_lst, ↓wItems_tup, ↓w_rng, ↓wRet_d, ↓wRet_fresh, ↓wRet_plc, ↓wRetS_val, ↓wRetS_own, ↓wRetS_ownS, ↓wI_some, ↓wI_none, ↓wI_ite, List.getElem?_cons_zero, List.getElem?_cons_succ, List.set_cons_zero, List.set_cons_succ]
  refine h _ ⟨⟨l.take 63 ++ (if l.isEmpty = true then [0] else []), 0, 0, ?_, ?_, ?_, by omega, by omega, by omega⟩⟩
  · rw [List.map_append]
    cases l.isEmpty <;> rfl
  · cases l with
    | nil => simp
    | cons a l => simp
  · rw [List.length_append, List.length_take]
    split <;> simp <;> omega
end DL
set_option maxHeartbeats 4000000
/-! DL, part 22: functions that many laws share. -/
namespace DL
open PySem PySem.Spec PyProof.Rows L2
/-- common_of -/
noncomputable def commonB : SDen :=
 sSeq (sWhile (dBool (dApp oNe [dVar 1, dC (.int 0)]))
 (sPar 0 1 [dVar 1, dApp oMod [dVar 0, dVar 1]]))
 (sRet (dVar 0))
/-- a place where ways meet -/
theorem ws_cut {f g : SDen} {ρ : DEnv} {P : Post} (N : DEnv → Prop) (h1 : wS (f ρ) ⟨N, P.R, P.B, P.C, P.E⟩) (h2 : ∀ ρ1, N ρ1 → wS (g ρ1) P) : wS (sSeq f g ρ) P := by
  rw [ws_seq]
  exact wS_mono h1 h2 (fun _ _ h => h) (fun _ h => h) (fun _ h => h) fun _ _ h => h
theorem gcd_step {x y : Int} (hx : 0 ≤ x) (hy : 0 < y) : Int.gcd y (x % y) = Int.gcd x y := by
  obtain ⟨a, rfl⟩ := Int.eq_ofNat_of_zero_le hx
  obtain ⟨b, rfl⟩ := Int.eq_ofNat_of_zero_le (Int.le_of_lt hy)
  show Nat.gcd ((b : Int)).natAbs ((a : Int) % (b : Int)).natAbs = Nat.gcd ((a : Int)).natAbs ((b : Int)).natAbs
  rw [← Int.natCast_emod]
  simp only [Int.natAbs_natCast]
  rw [Nat.gcd_comm b, Nat.gcd_comm a b, Nat.gcd_rec b a]
theorem common_spec {a b : Int} {Q : RV → Prop} {E : Exn → Prop} (ha : 0 ≤ a) (hb : 0 ≤ b) (h : Q (.d (.int (Int.gcd a b)))) : wF0 (runFn 2 2 false commonB [.int a, .int b]) Q E := by
  refine w_run0 rfl ?_
  show wS (commonB [Sl.val (.int a), .val (.int b)]) _
  unfold commonB
  rw [ws_seq]
  refine while_inv (fun n ρ => ∃ x y : Int, ρ = [.val (.int x), .val (.int y)] ∧ 0 ≤ x ∧ 0 ≤ y ∧ Int.gcd x y = Int.gcd a b ∧ n = y.toNat) ⟨a, b, rfl, ha, hb, rfl, rfl⟩ ?_
  rintro n ρ ⟨x, y, rfl, hx, hy, hg, rfl⟩
  by_cases h0 : y = 0
  · subst h0
    simp (disch := first | assumption | omega) only [↓w_var, ↓wVar_val, ↓wVar_own, ↓w_c, ↓w_nil, ↓w_cons, ↓w_app, ↓wViews_nil, ↓wViews_cons, ↓wView_d, ↓wView_fresh, ↓wView_plc, ↓wSlot_val, ↓wSlot_own, ↓wEsc_d, ↓wEsc_fresh, ↓wEsc_plc, ↓wEscS_val, ↓wEscS_own, ↓wEscs_nil, ↓wEscs_cons, ↓w_frz, ↓w_tup, ↓w_lst, ↓w_bool, ↓w_tru, ↓w_notT, ↓w_andT, ↓w_orT, ↓w_if, ↓w_and, ↓w_or, ↓w_not, ↓w_chain, ↓wB_bl, ↓w_noPart, ↓w_part, ↓w_slice, ↓w_call, ↓wPlc_cons, ↓wOwn_own, ↓w_callIo, ↓isLst_lst, ↓w_meth, ↓w_ext, ↓wExt_ok, ↓ws_next, ↓ws_bk, ↓ws_ct, ↓ws_rt, ↓ws_nx, ↓ws_seq, ↓ws_drop, ↓ws_ret, ↓ws_if, ↓ws_set, ↓wSet_d, ↓wSet_fresh, ↓wSet_plc, ↓ws_asg, ↓wt_name, ↓wt_nil, ↓wt_cons, ↓wt_tup, ↓wt_lst, ↓wPar_two, ↓ws_par, ↓wLstS_own, ↓wInt_int, ↓ws_item, ↓ws_for, ↓w_zip, ↓w_iter, ↓wItems_lst, ↓wItems_tup, ↓w_rng, ↓wRet_d, ↓wRet_fresh, ↓wRet_plc, ↓wRetS_val, ↓wRetS_own, ↓wRetS_ownS, ↓wI_some, ↓wI_none, ↓wI_ite, List.getElem?_cons_zero, List.getElem?_cons_succ, List.set_cons_zero, List.set_cons_succ, o_neI, decide_eq_true_eq]
    rw [if_neg (by simp)]
    have : (Int.gcd x 0 : Int) = x := by simp; omega
    rw [← hg] at h
    rw [this] at h
    exact h
  · have hy' : 0 < y := by omega
    simp (disch := first | assumption | omega) only [↓w_var, ↓wVar_val, ↓wVar_own, ↓w_c, ↓w_nil, ↓w_cons, ↓w_app, ↓wViews_nil, ↓wViews_cons, ↓wView_d, ↓wView_fresh, ↓wView_plc, ↓wSlot_val, ↓wSlot_own, ↓wEsc_d, ↓wEsc_fresh, ↓wEsc_plc, ↓wEscS_val, ↓wEscS_own, ↓wEscs_nil, ↓wEscs_cons, ↓w_frz, ↓w_tup, ↓w_lst, ↓w_bool, ↓w_tru, ↓w_notT, ↓w_andT, ↓w_orT, ↓w_if, ↓w_and, ↓w_or, ↓w_not, ↓w_chain, ↓wB_bl, ↓w_noPart, ↓w_part, ↓w_slice, ↓w_call, ↓wPlc_cons, ↓wOwn_own, ↓w_callIo, ↓isLst_lst, ↓w_meth, ↓w_ext, ↓wExt_ok, ↓ws_next, ↓ws_bk, ↓ws_ct, ↓ws_rt, ↓ws_nx, ↓ws_seq, ↓ws_drop, ↓ws_ret, ↓ws_if, ↓ws_set, ↓wSet_d, ↓wSet_fresh, ↓wSet_plc, ↓ws_asg, ↓wt_name, ↓wt_nil, ↓wt_cons, ↓wt_tup, ↓wt_lst, ↓wPar_two, ↓ws_par, ↓wLstS_own, ↓wInt_int, ↓ws_item, ↓ws_for, ↓w_zip, ↓w_iter, ↓wItems_lst, ↓wItems_tup, ↓w_rng, ↓wRet_d, ↓wRet_fresh, ↓wRet_plc, ↓wRetS_val, ↓wRetS_own, ↓wRetS_ownS, ↓wI_some, ↓wI_none, ↓wI_ite, List.getElem?_cons_zero, List.getElem?_cons_succ, List.set_cons_zero, List.set_cons_succ, o_neI, o_modP, decide_eq_true_eq]
    rw [if_pos h0]
    have h1 := Int.emod_nonneg x h0
    have h2 := Int.emod_lt_of_pos x hy'
    exact ⟨(x % y).toNat, by omega, y, x % y, rfl, hy, h1, (gcd_step hx hy').trans hg, rfl⟩
/-- _law_ratio -/
noncomputable def ratioB : SDen :=
 sSeq (sIf (dBool (dApp oLtI [dVar 1, dC (.int 0)]))
 (sPar 0 1 [dApp oNeg [dVar 0], dApp oNeg [dVar 1]])
 (sNext))
 (sSeq (sPar 2 3 [dApp oAbs [dVar 0], dVar 1])
 (sSeq (sWhile (dBool (dApp oGt [dVar 3, dC (.int 0)]))
 (sPar 2 3 [dVar 3, dApp oMod [dVar 2, dVar 3]]))
 (sRet (dTup [dApp oDiv [dVar 0, dVar 2], dApp oDiv [dVar 1, dVar 2]]))))
/-- in lowest terms -/
def ratT (p q : Int) : Int := (if q < 0 then -p else p) / (Int.gcd p q : Int)
def ratB (p q : Int) : Int := (if q < 0 then -q else q) / (Int.gcd p q : Int)
theorem ratio_spec {p q : Int} {Q : RV → Prop} {E : Exn → Prop} (hq : q ≠ 0) (hb : -(10 ^ 199) < q) (hb2 : q < 10 ^ 199) (h : Q (.d (.tup [.int (ratT p q), .int (ratB p q)]))) : wF0 (runFn 4 2 false ratioB [.int p, .int q]) Q E := by
  refine w_run0 rfl ?_
  show wS (ratioB [Sl.val (.int p), .val (.int q), .no, .no]) _
  have main : ∀ a b : Int, 0 < b → b < 10 ^ 199 → Q (.d (.tup [.int (a / Int.gcd a b), .int (b / Int.gcd a b)])) → wS (sSeq (sPar 2 3 [dApp oAbs [dVar 0], dVar 1]) (sSeq (sWhile (dBool (dApp oGt [dVar 3, dC (.int 0)]))
      (sPar 2 3 [dVar 3, dApp oMod [dVar 2, dVar 3]])) (sRet (dTup [dApp oDiv [dVar 0, dVar 2], dApp oDiv [dVar 1, dVar 2]]))) [Sl.val (.int a), .val (.int b), .no, .no])
      ⟨fun _ => Q (.d .non), fun r ρ => wI (retOf false ρ r) Q, fun _ => False, fun _ => False, fun e _ => E e⟩ := by
    intro a b hb hb2 h
    simp only [↓w_var, ↓wVar_val, ↓wVar_own, ↓w_c, ↓w_nil, ↓w_cons, ↓w_app, ↓wViews_nil, ↓wViews_cons, ↓wView_d, ↓wView_fresh, ↓wView_plc, ↓wSlot_val, ↓wSlot_own, ↓wEsc_d, ↓wEsc_fresh, ↓wEsc_plc, ↓wEscS_val, ↓wEscS_own, ↓wEscs_nil, ↓wEscs_cons, ↓w_frz, ↓w_tup, ↓w_lst, ↓w_bool, ↓w_tru, ↓w_notT, ↓w_andT, ↓w_orT, ↓w_if, ↓w_and, ↓w_or, ↓w_not, ↓w_chain, ↓wB_bl, ↓w_noPart, ↓w_part, ↓w_slice, ↓w_call, ↓wPlc_cons, ↓wOwn_own, ↓w_callIo, ↓isLst_lst, ↓w_meth, ↓w_ext, ↓wExt_ok, ↓ws_next, ↓ws_bk, ↓ws_ct, ↓ws_rt, ↓ws_nx, ↓ws_seq, ↓ws_drop, ↓ws_ret, ↓ws_if, ↓ws_set, ↓wSet_d, ↓wSet_fresh, ↓wSet_plc, ↓ws_asg, ↓wt_name, ↓wt_nil, ↓wt_cons, ↓wt_tup, ↓wt_lst, ↓wPar_two, ↓ws_par, ↓wLstS_own, ↓wInt_int, ↓ws_item, ↓ws_for, ↓w_zip, ↓w_iter, ↓wItems_lst, ↓wItems_tup, ↓w_rng, ↓wRet_d, ↓wRet_fresh, ↓wRet_plc, ↓wRetS_val, ↓wRetS_own, ↓wRetS_ownS, ↓wI_some, ↓wI_none, ↓wI_ite, List.getElem?_cons_zero, List.getElem?_cons_succ, List.set_cons_zero, List.set_cons_succ, o_abs]
    refine while_inv (fun n ρ => ∃ x y : Int, ρ = [.val (.int a), .val (.int b), .val (.int x), .val (.int y)] ∧ 0 ≤ x ∧ 0 ≤ y ∧ Int.gcd x y = Int.gcd a b ∧ n = y.toNat) ⟨_, b, rfl, by split <;> omega, by omega, ?_, rfl⟩ ?_
    · split <;> simp
    · rintro n ρ ⟨x, y, rfl, hx, hy, hg, rfl⟩
      by_cases h0 : y = 0
      · subst h0
        have g0 : (Int.gcd x 0 : Int) = x := by simp; omega
        have gp : 0 < (Int.gcd a b : Int) := by
          have := Int.gcd_pos_of_ne_zero_right a (show b ≠ 0 by omega)
          omega
        have gx : x = Int.gcd a b := by rw [← hg]; exact g0.symm
        have gle : (Int.gcd a b : Int) ≤ b := Int.le_of_dvd hb (Int.gcd_dvd_right ..)
        subst gx
        simp (disch := first | assumption | omega) only [↓w_var, ↓wVar_val, ↓wVar_own, ↓w_c, ↓w_nil, ↓w_cons, ↓w_app, ↓wViews_nil, ↓wViews_cons, ↓wView_d, ↓wView_fresh, ↓wView_plc, ↓wSlot_val, ↓wSlot_own, ↓wEsc_d, ↓wEsc_fresh, ↓wEsc_plc, ↓wEscS_val, ↓wEscS_own, ↓wEscs_nil, ↓wEscs_cons, ↓w_frz, ↓w_tup, ↓w_lst, ↓w_bool, ↓w_tru, ↓w_notT, ↓w_andT, ↓w_orT, ↓w_if, ↓w_and, ↓w_or, ↓w_not, ↓w_chain, ↓wB_bl, ↓w_noPart, ↓w_part, ↓w_slice, ↓w_call, ↓wPlc_cons, ↓wOwn_own, ↓w_callIo, ↓isLst_lst, ↓w_meth, ↓w_ext, ↓wExt_ok, ↓ws_next, ↓ws_bk, ↓ws_ct, ↓ws_rt, ↓ws_nx, ↓ws_seq, ↓ws_drop, ↓ws_ret, ↓ws_if, ↓ws_set, ↓wSet_d, ↓wSet_fresh, ↓wSet_plc, ↓ws_asg, ↓wt_name, ↓wt_nil, ↓wt_cons, ↓wt_tup, ↓wt_lst, ↓wPar_two, ↓ws_par, ↓wLstS_own, ↓wInt_int, ↓ws_item, ↓ws_for, ↓w_zip, ↓w_iter, ↓wItems_lst, ↓wItems_tup, ↓w_rng, ↓wRet_d, ↓wRet_fresh, ↓wRet_plc, ↓wRetS_val, ↓wRetS_own, ↓wRetS_ownS, ↓wI_some, ↓wI_none, ↓wI_ite, List.getElem?_cons_zero, List.getElem?_cons_succ, List.set_cons_zero, List.set_cons_succ, o_gt, o_divP, decide_eq_true_eq]
        rw [if_neg (by omega)]
        exact h
      · have hy' : 0 < y := by omega
        simp (disch := first | assumption | omega) only [↓w_var, ↓wVar_val, ↓wVar_own, ↓w_c, ↓w_nil, ↓w_cons, ↓w_app, ↓wViews_nil, ↓wViews_cons, ↓wView_d, ↓wView_fresh, ↓wView_plc, ↓wSlot_val, ↓wSlot_own, ↓wEsc_d, ↓wEsc_fresh, ↓wEsc_plc, ↓wEscS_val, ↓wEscS_own, ↓wEscs_nil, ↓wEscs_cons, ↓w_frz, ↓w_tup, ↓w_lst, ↓w_bool, ↓w_tru, ↓w_notT, ↓w_andT, ↓w_orT, ↓w_if, ↓w_and, ↓w_or, ↓w_not, ↓w_chain, ↓wB_bl, ↓w_noPart, ↓w_part, ↓w_slice, ↓w_call, ↓wPlc_cons, ↓wOwn_own, ↓w_callIo, ↓isLst_lst, ↓w_meth, ↓w_ext, ↓wExt_ok, ↓ws_next, ↓ws_bk, ↓ws_ct, ↓ws_rt, ↓ws_nx, ↓ws_seq, ↓ws_drop, ↓ws_ret, ↓ws_if, ↓ws_set, ↓wSet_d, ↓wSet_fresh, ↓wSet_plc, ↓ws_asg, ↓wt_name, ↓wt_nil, ↓wt_cons, ↓wt_tup, ↓wt_lst, ↓wPar_two, ↓ws_par, ↓wLstS_own, ↓wInt_int, ↓ws_item, ↓ws_for, ↓w_zip, ↓w_iter, ↓wItems_lst, ↓wItems_tup, ↓w_rng, ↓wRet_d, ↓wRet_fresh, ↓wRet_plc, ↓wRetS_val, ↓wRetS_own, ↓wRetS_ownS, ↓wI_some, ↓wI_none, ↓wI_ite, List.getElem?_cons_zero, List.getElem?_cons_succ, List.set_cons_zero, List.set_cons_succ, o_gt, o_modP, decide_eq_true_eq]
        rw [if_pos hy']
        have h1 := Int.emod_nonneg x h0
        have h2 := Int.emod_lt_of_pos x hy'
        exact ⟨(x % y).toNat, by omega, y, x % y, rfl, hy, h1, (gcd_step hx hy').trans hg, rfl⟩
  unfold ratioB
  unfold ratT ratB at h
  refine ws_cut (fun ρ => ρ = [Sl.val (.int (if q < 0 then -p else p)), .val (.int (if q < 0 then -q else q)), .no, .no]) ?_ ?_
  · simp only [↓w_var, ↓wVar_val, ↓wVar_own, ↓w_c, ↓w_nil, ↓w_cons, ↓w_app, ↓wViews_nil, ↓wViews_cons, ↓wView_d, ↓wView_fresh, ↓wView_plc, ↓wSlot_val, ↓wSlot_own, ↓wEsc_d, ↓wEsc_fresh, ↓wEsc_plc, ↓wEscS_val, ↓wEscS_own, ↓wEscs_nil, ↓wEscs_cons, ↓w_frz, ↓w_tup, ↓w_lst, ↓w_bool, ↓w_tru, ↓w_notT, ↓w_andT, ↓w_orT, ↓w_if, ↓w_and, ↓w_or, ↓w_not, ↓w_chain, ↓wB_bl, ↓w_noPart, ↓w_part, ↓w_slice, ↓w_call, ↓wPlc_cons, ↓wOwn_own, ↓w_callIo, ↓isLst_lst, ↓w_meth, ↓w_ext, ↓wExt_ok, ↓ws_next, ↓ws_bk, ↓ws_ct, ↓ws_rt, ↓ws_nx, ↓ws_seq, ↓ws_drop, ↓ws_ret, ↓ws_if, ↓ws_set, ↓wSet_d, ↓wSet_fresh, ↓wSet_plc, ↓ws_asg, ↓wt_name, ↓wt_nil, ↓wt_cons, ↓wt_tup, ↓wt_lst, ↓wPar_two, ↓ws_par, ↓wLstS_own, ↓wInt_int, ↓ws_item, ↓ws_for, ↓w_zip, ↓w_iter, ↓wItems_lst, ↓wItems_tup, ↓w_rng, ↓wRet_d, ↓wRet_fresh, ↓wRet_plc, ↓wRetS_val, ↓wRetS_own, ↓wRetS_ownS, ↓wI_some, ↓wI_none, ↓wI_ite, List.getElem?_cons_zero, List.getElem?_cons_succ, List.set_cons_zero, List.set_cons_succ, o_lt, o_neg, decide_eq_true_eq]
    split <;> rfl
  · rintro _ rfl
    by_cases hn : q < 0
    · rw [if_pos hn, if_pos hn]
      rw [if_pos hn, if_pos hn] at h
      refine main (-p) (-q) (by omega) (by omega) ?_
      rw [Int.neg_gcd, Int.gcd_neg]
      exact h
    · rw [if_neg hn, if_neg hn]
      rw [if_neg hn, if_neg hn] at h
      exact main p q (by omega) (by omega) h
/-! ### comprehensions of one name without a filter -/
theorem set_val_no {ρ ρ1 : DEnv} {v : Nat} {x : Sl} (h : ρ.set v .no = ρ1.set v .no) : (ρ.set v .no).set v x = ρ1.set v x := by
  rw [h, List.set_set]
theorem unw_same {ρ1 ρ2 : DEnv} {v : Nat} (h : ρ2.set v .no = ρ1.set v .no) : unw ρ1 ρ2 [v] = ρ1 := by
  have hl : ρ2.length = ρ1.length := by
    have := congrArg List.length h
    simpa using this
  apply List.ext_getElem?
  intro i
  by_cases e : i = v
  · subst e
    rw [unw_in hl.symm (by simp)]
  · rw [unw_out (by simp [e])]
    have := congrArg (fun l : DEnv => l[i]?) h
    simpa [List.getElem?_set_ne (Ne.symm e)] using this
theorem comp_map {v : Nat} {fi : DEnv → Out (List D)} {fe : Den} {ρ : DEnv} {Q : RV → DEnv → Prop} {E : Exn → DEnv → Prop} (g : D → D)
    (h : wO (fi ρ) (fun ds ρ1 => ds.length ≤ 1000000 ∧ (∀ d ∈ ds, wO (fe (ρ1.set v (.val d))) (fun r ρ3 => wI (esc ρ3 r) fun p => p.1 = g d ∧ p.2.set v .no = ρ1.set v .no) (fun _ _ => False)) ∧ Q (.fresh (.lst (ds.map g))) ρ1) E) : wO (dComp [v] fi (tName v) dYes fe ρ) Q E := by
  rw [w_comp]
  refine wO_mono h (fun ds ρ1 ⟨hl, he, hq⟩ => ?_) fun _ _ z => z
  refine comp_inv (ρ := ρ1) (fun rest acc ρ2 => ρ2.set v .no = ρ1.set v .no ∧ ∃ done, ds = done ++ rest ∧ acc = done.map g) ⟨rfl, [], rfl, rfl⟩ ?_ ?_
  · rintro d rest acc ρ2 ⟨h2, done, e1, rfl⟩
    show wI (tName v d (wipeD ρ2 [v])) _
    rw [wt_name]
    have e0 : ∀ {ρ : DEnv} {Q : Bool → DEnv → Prop} {E : Exn → DEnv → Prop}, wO (dYes ρ) Q E = Q true ρ := fun {ρ Q E} => rfl
    rw [e0, if_pos rfl]
    have e2 : (wipeD ρ2 [v]).set v (.val d) = ρ1.set v (.val d) := set_val_no h2
    rw [e2]
    refine wO_mono (he d (by rw [e1]; simp)) (fun r ρ3 hr => ?_) fun _ _ z => z
    cases q : esc ρ3 r with
    | none => rw [q] at hr; exact hr.elim
    | some p =>
      rw [q] at hr
      obtain ⟨r1, r2⟩ := (hr : p.1 = g d ∧ p.2.set v .no = ρ1.set v .no)
      refine ⟨okLen_of ?_, r2, done ++ [d], by rw [e1]; simp, by rw [r1]; simp⟩
      have := congrArg List.length e1
      rw [List.length_append] at this
      rw [List.length_map]
      omega
  · rintro acc ρ2 ⟨h2, done, e1, rfl⟩
    rw [unw_same h2, show done = ds by rw [e1]; simp]
    exact hq
end DL
set_option maxHeartbeats 4000000
/-! DL, part 23: is_whole, is_fraction; bounds. -/
namespace DL
open PySem PySem.Spec PyProof.Rows L2
theorem pow_bd {k m : Nat} (h : k ≤ m) : 1 ≤ (2 : Int) ^ k ∧ (2 : Int) ^ k ≤ 2 ^ m := by
  have h1 := Nat.pow_le_pow_right (show 0 < 2 by omega) h
  have h2 := Nat.two_pow_pos k
  have e : ∀ j : Nat, (2 : Int) ^ j = ((2 ^ j : Nat) : Int) := fun j => by simp
  rw [e k, e m]
  omega
theorem mul_bd {a b A B : Int} (h1 : -A ≤ a) (h2 : a ≤ A) (h3 : -B ≤ b) (h4 : b ≤ B) : -(A * B) ≤ a * b ∧ a * b ≤ A * B := by
  have h : (a * b).natAbs ≤ (A * B).natAbs := by
    rw [Int.natAbs_mul, Int.natAbs_mul]
    exact Nat.mul_le_mul (by omega) (by omega)
  have : 0 ≤ A * B := Int.mul_nonneg (by omega) (by omega)
  omega
def isW : D → Bool
  | .int _ => true
  | _ => false
theorem isW_eq (d : D) : (if isiD .int d = true then !isiD .bool d else isiD .int d) = isW d := by
  cases d <;> rfl
/-- is_whole -/
def wholeB : SDen := sRet (dAnd (dApp (oIsi .int) [dVar 0]) (dNot (dApp (oIsi .bool) [dVar 0])))
def WholeS (W : List D → FRes) : Prop := ∀ (d : D) (Q : RV → Prop) (E : Exn → Prop), Q (.d (.bl (isW d))) → wF0 (W [d]) Q E
def CommonS (C : List D → FRes) : Prop := ∀ (a b : Int) (Q : RV → Prop) (E : Exn → Prop), 0 ≤ a → 0 ≤ b → Q (.d (.int (Int.gcd a b))) → wF0 (C [.int a, .int b]) Q E
theorem whole_spec : WholeS (runFn 1 1 false wholeB) := by
  intro d Q E h
  refine w_run0 rfl ?_
  show wS (sRet (dAnd (dApp (oIsi .int) [dVar 0]) (dNot (dApp (oIsi .bool) [dVar 0]))) [Sl.val d]) _
  simp only [↓w_var, ↓wVar_val, ↓wVar_own, ↓w_c, ↓w_nil, ↓w_cons, ↓w_app, ↓wViews_nil, ↓wViews_cons, ↓wView_d, ↓wView_fresh, ↓wView_plc, ↓wSlot_val, ↓wSlot_own, ↓wEsc_d, ↓wEsc_fresh, ↓wEsc_plc, ↓wEscS_val, ↓wEscS_own, ↓wEscs_nil, ↓wEscs_cons, ↓w_frz, ↓w_tup, ↓w_lst, ↓w_bool, ↓w_tru, ↓w_notT, ↓w_andT, ↓w_orT, ↓w_if, ↓w_and, ↓w_or, ↓w_not, ↓w_chain, ↓wB_bl, ↓w_noPart, ↓w_part, ↓w_slice, ↓w_call, ↓wPlc_cons, ↓wOwn_own, ↓w_callIo, ↓isLst_lst, ↓w_meth, ↓w_ext, ↓wExt_ok, ↓ws_next, ↓ws_bk, ↓ws_ct, ↓ws_rt, ↓ws_nx, ↓ws_seq, ↓ws_drop, ↓ws_ret, ↓ws_if, ↓ws_set, ↓wSet_d, ↓wSet_fresh, ↓wSet_plc, ↓ws_asg, ↓wt_name, ↓wt_nil, ↓wt_cons, ↓wt_tup, ↓wt_lst, ↓wPar_two, ↓ws_par, ↓wLstS_own, ↓wInt_int, ↓ws_item, ↓ws_for, ↓w_zip, ↓w_iter, ↓wItems_lst, ↓wItems_tup, ↓w_rng, ↓wRet_d, ↓wRet_fresh, ↓wRet_plc, ↓wRetS_val, ↓wRetS_own, ↓wRetS_ownS, ↓wI_some, ↓wI_none, ↓wI_ite, List.getElem?_cons_zero, List.getElem?_cons_succ, List.set_cons_zero, List.set_cons_succ, o_isi, tru_bl]
  cases d <;> exact h
theorem common_specS : CommonS (runFn 2 2 false commonB) := fun a b Q E h1 h2 h => common_spec h1 h2 h
/-- is_fraction -/
def fracB (W C : List D → FRes) : SDen :=
 sSeq (sIf (dOrT (dNotT (dTru (dApp (oIsi .tuple) [dVar 0]))) (dBool (dApp oNe [dApp oLen [dVar 0], dC (.int 2)])))
 (sRet (dC (.bl false)))
 (sNext))
 (sSeq (sIf (dOrT (dNotT (dTru (dCall W [dApp oIx [dVar 0, dC (.int 0)]]))) (dOrT (dNotT (dTru (dCall W [dApp oIx [dVar 0, dC (.int 1)]]))) (dBool (dApp oLtI [dApp oIx [dVar 0, dC (.int 1)], dC (.int 1)]))))
 (sRet (dC (.bl false)))
 (sNext))
 (sRet (dApp oEq [dCall C [dApp oAbs [dApp oIx [dVar 0, dC (.int 0)]], dApp oIx [dVar 0, dC (.int 1)]], dC (.int 1)])))
def isFr : D → Bool
  | .tup [.int p, .int q] => decide (1 ≤ q) && decide ((Int.gcd p q : Int) = 1)
  | _ => false
theorem gcd_abs (p q : Int) : Int.gcd (if p < 0 then -p else p) q = Int.gcd p q := by
  split
  · rw [Int.neg_gcd]
  · rfl
theorem isFr_len {l : List D} (h : l.length ≠ 2) : isFr (.tup l) = false := by
  match l, h with
  | [], _ => rfl
  | [a], _ => cases a <;> rfl
  | a :: b :: _ :: _, _ => cases a <;> first | rfl | (cases b <;> rfl)
  | [_, _], h => exact absurd rfl h
theorem len2 {l : List D} (h : l.length = 2) : ∃ a b, l = [a, b] := by
  match l, h with
  | [a, b], _ => exact ⟨a, b, rfl⟩
theorem frac_spec {W C : List D → FRes} (hW : WholeS W) (hC : CommonS C) {d : D} {Q : RV → Prop} {E : Exn → Prop} (h : Q (.d (.bl (isFr d)))) : wF0 (runFn 1 1 false (fracB W C) [d]) Q E := by
  refine w_run0 rfl ?_
  show wS (fracB W C [Sl.val d]) _
  unfold fracB
  simp only [↓w_var, ↓wVar_val, ↓wVar_own, ↓w_c, ↓w_nil, ↓w_cons, ↓w_app, ↓wViews_nil, ↓wViews_cons, ↓wView_d, ↓wView_fresh, ↓wView_plc, ↓wSlot_val, ↓wSlot_own, ↓wEsc_d, ↓wEsc_fresh, ↓wEsc_plc, ↓wEscS_val, ↓wEscS_own, ↓wEscs_nil, ↓wEscs_cons, ↓w_frz, ↓w_tup, ↓w_lst, ↓w_bool, ↓w_tru, ↓w_notT, ↓w_andT, ↓w_orT, ↓w_if, ↓w_and, ↓w_or, ↓w_not, ↓w_chain, ↓wB_bl, ↓w_noPart, ↓w_part, ↓w_slice, ↓w_call, ↓wPlc_cons, ↓wOwn_own, ↓w_callIo, ↓isLst_lst, ↓w_meth, ↓w_ext, ↓wExt_ok, ↓ws_next, ↓ws_bk, ↓ws_ct, ↓ws_rt, ↓ws_nx, ↓ws_seq, ↓ws_drop, ↓ws_ret, ↓ws_if, ↓ws_set, ↓wSet_d, ↓wSet_fresh, ↓wSet_plc, ↓ws_asg, ↓wt_name, ↓wt_nil, ↓wt_cons, ↓wt_tup, ↓wt_lst, ↓wPar_two, ↓ws_par, ↓wLstS_own, ↓wInt_int, ↓ws_item, ↓ws_for, ↓w_zip, ↓w_iter, ↓wItems_lst, ↓wItems_tup, ↓w_rng, ↓wRet_d, ↓wRet_fresh, ↓wRet_plc, ↓wRetS_val, ↓wRetS_own, ↓wRetS_ownS, ↓wI_some, ↓wI_none, ↓wI_ite, List.getElem?_cons_zero, List.getElem?_cons_succ, List.set_cons_zero, List.set_cons_succ, o_isi, tru_bl]
  cases d with
  | tup l =>
    by_cases hl : l.length = 2
    · obtain ⟨a, b, rfl⟩ := len2 hl
      have hl2 : ([a, b] : List D).length = 2 := rfl
      simp (disch := first | assumption | omega) only [↓w_var, ↓wVar_val, ↓wVar_own, ↓w_c, ↓w_nil, ↓w_cons, ↓w_app, ↓wViews_nil, ↓wViews_cons, ↓wView_d, ↓wView_fresh, ↓wView_plc, ↓wSlot_val, ↓wSlot_own, ↓wEsc_d, ↓wEsc_fresh, ↓wEsc_plc, ↓wEscS_val, ↓wEscS_own, ↓wEscs_nil, ↓wEscs_cons, ↓w_frz, ↓w_tup, ↓w_lst, ↓w_bool, ↓w_tru, ↓w_notT, ↓w_andT, ↓w_orT, ↓w_if, ↓w_and, ↓w_or, ↓w_not, ↓w_chain, ↓wB_bl, ↓w_noPart, ↓w_part, ↓w_slice, ↓w_call, ↓wPlc_cons, ↓wOwn_own, ↓w_callIo, ↓isLst_lst, ↓w_meth, ↓w_ext, ↓wExt_ok, ↓ws_next, ↓ws_bk, ↓ws_ct, ↓ws_rt, ↓ws_nx, ↓ws_seq, ↓ws_drop, ↓ws_ret, ↓ws_if, ↓ws_set, ↓wSet_d, ↓wSet_fresh, ↓wSet_plc, ↓ws_asg, ↓wt_name, ↓wt_nil, ↓wt_cons, ↓wt_tup, ↓wt_lst, ↓wPar_two, ↓ws_par, ↓wLstS_own, ↓wInt_int, ↓ws_item, ↓ws_for, ↓w_zip, ↓w_iter, ↓wItems_lst, ↓wItems_tup, ↓w_rng, ↓wRet_d, ↓wRet_fresh, ↓wRet_plc, ↓wRetS_val, ↓wRetS_own, ↓wRetS_ownS, ↓wI_some, ↓wI_none, ↓wI_ite, List.getElem?_cons_zero, List.getElem?_cons_succ, List.set_cons_zero, List.set_cons_succ, isiD, Bool.not_true, Bool.false_eq_true, ↓reduceIte, o_lenT, List.length_cons, List.length_nil, o_neI, Int.reduceAdd, decide_eq_true_eq, tup2_0, tup2_1, Nat.reduceAdd, Int.cast_ofNat_Int, ne_eq, not_true_eq_false]
      refine hW _ _ _ ?_
      cases a with
      | int p =>
        simp only [↓w_var, ↓wVar_val, ↓wVar_own, ↓w_c, ↓w_nil, ↓w_cons, ↓w_app, ↓wViews_nil, ↓wViews_cons, ↓wView_d, ↓wView_fresh, ↓wView_plc, ↓wSlot_val, ↓wSlot_own, ↓wEsc_d, ↓wEsc_fresh, ↓wEsc_plc, ↓wEscS_val, ↓wEscS_own, ↓wEscs_nil, ↓wEscs_cons, ↓w_frz, ↓w_tup, ↓w_lst, ↓w_bool, ↓w_tru, ↓w_notT, ↓w_andT, ↓w_orT, ↓w_if, ↓w_and, ↓w_or, ↓w_not, ↓w_chain, ↓wB_bl, ↓w_noPart, ↓w_part, ↓w_slice, ↓w_call, ↓wPlc_cons, ↓wOwn_own, ↓w_callIo, ↓isLst_lst, ↓w_meth, ↓w_ext, ↓wExt_ok, ↓ws_next, ↓ws_bk, ↓ws_ct, ↓ws_rt, ↓ws_nx, ↓ws_seq, ↓ws_drop, ↓ws_ret, ↓ws_if, ↓ws_set, ↓wSet_d, ↓wSet_fresh, ↓wSet_plc, ↓ws_asg, ↓wt_name, ↓wt_nil, ↓wt_cons, ↓wt_tup, ↓wt_lst, ↓wPar_two, ↓ws_par, ↓wLstS_own, ↓wInt_int, ↓ws_item, ↓ws_for, ↓w_zip, ↓w_iter, ↓wItems_lst, ↓wItems_tup, ↓w_rng, ↓wRet_d, ↓wRet_fresh, ↓wRet_plc, ↓wRetS_val, ↓wRetS_own, ↓wRetS_ownS, ↓wI_some, ↓wI_none, ↓wI_ite, List.getElem?_cons_zero, List.getElem?_cons_succ, List.set_cons_zero, List.set_cons_succ, isW, tru_bl, Bool.not_true, Bool.false_eq_true, ↓reduceIte]
        refine hW _ _ _ ?_
        cases b with
        | int q =>
          simp (disch := first | assumption | omega) only [↓w_var, ↓wVar_val, ↓wVar_own, ↓w_c, ↓w_nil, ↓w_cons, ↓w_app, ↓wViews_nil, ↓wViews_cons, ↓wView_d, ↓wView_fresh, ↓wView_plc, ↓wSlot_val, ↓wSlot_own, ↓wEsc_d, ↓wEsc_fresh, ↓wEsc_plc, ↓wEscS_val, ↓wEscS_own, ↓wEscs_nil, ↓wEscs_cons, ↓w_frz, ↓w_tup, ↓w_lst, ↓w_bool, ↓w_tru, ↓w_notT, ↓w_andT, ↓w_orT, ↓w_if, ↓w_and, ↓w_or, ↓w_not, ↓w_chain, ↓wB_bl, ↓w_noPart, ↓w_part, ↓w_slice, ↓w_call, ↓wPlc_cons, ↓wOwn_own, ↓w_callIo, ↓isLst_lst, ↓w_meth, ↓w_ext, ↓wExt_ok, ↓ws_next, ↓ws_bk, ↓ws_ct, ↓ws_rt, ↓ws_nx, ↓ws_seq, ↓ws_drop, ↓ws_ret, ↓ws_if, ↓ws_set, ↓wSet_d, ↓wSet_fresh, ↓wSet_plc, ↓ws_asg, ↓wt_name, ↓wt_nil, ↓wt_cons, ↓wt_tup, ↓wt_lst, ↓wPar_two, ↓ws_par, ↓wLstS_own, ↓wInt_int, ↓ws_item, ↓ws_for, ↓w_zip, ↓w_iter, ↓wItems_lst, ↓wItems_tup, ↓w_rng, ↓wRet_d, ↓wRet_fresh, ↓wRet_plc, ↓wRetS_val, ↓wRetS_own, ↓wRetS_ownS, ↓wI_some, ↓wI_none, ↓wI_ite, List.getElem?_cons_zero, List.getElem?_cons_succ, List.set_cons_zero, List.set_cons_succ, isW, tru_bl, Bool.not_true, Bool.false_eq_true, ↓reduceIte, o_lt, decide_eq_true_eq, o_abs, tup2_0, tup2_1]
          by_cases hq : q < 1
          · rw [if_pos hq]
            have e : isFr (.tup [.int p, .int q]) = false := by
              show (decide (1 ≤ q) && _) = false
              rw [decide_eq_false (by omega)]; rfl
            rw [e] at h
            exact h
          · rw [if_neg hq]
            refine hC _ _ _ _ (by split <;> omega) (by omega) ?_
            simp (disch := first | assumption | omega) only [↓w_var, ↓wVar_val, ↓wVar_own, ↓w_c, ↓w_nil, ↓w_cons, ↓w_app, ↓wViews_nil, ↓wViews_cons, ↓wView_d, ↓wView_fresh, ↓wView_plc, ↓wSlot_val, ↓wSlot_own, ↓wEsc_d, ↓wEsc_fresh, ↓wEsc_plc, ↓wEscS_val, ↓wEscS_own, ↓wEscs_nil, ↓wEscs_cons, ↓w_frz, ↓w_tup, ↓w_lst, ↓w_bool, ↓w_tru, ↓w_notT, ↓w_andT, ↓w_orT, ↓w_if, ↓w_and, ↓w_or, ↓w_not, ↓w_chain, ↓wB_bl, ↓w_noPart, ↓w_part, ↓w_slice, ↓w_call, ↓wPlc_cons, ↓wOwn_own, ↓w_callIo, ↓isLst_lst, ↓w_meth, ↓w_ext, ↓wExt_ok, ↓ws_next, ↓ws_bk, ↓ws_ct, ↓ws_rt, ↓ws_nx, ↓ws_seq, ↓ws_drop, ↓ws_ret, ↓ws_if, ↓ws_set, ↓wSet_d, ↓wSet_fresh, ↓wSet_plc, ↓ws_asg, ↓wt_name, ↓wt_nil, ↓wt_cons, ↓wt_tup, ↓wt_lst, ↓wPar_two, ↓ws_par, ↓wLstS_own, ↓wInt_int, ↓ws_item, ↓ws_for, ↓w_zip, ↓w_iter, ↓wItems_lst, ↓wItems_tup, ↓w_rng, ↓wRet_d, ↓wRet_fresh, ↓wRet_plc, ↓wRetS_val, ↓wRetS_own, ↓wRetS_ownS, ↓wI_some, ↓wI_none, ↓wI_ite, List.getElem?_cons_zero, List.getElem?_cons_succ, List.set_cons_zero, List.set_cons_succ, o_eqI]
            have e : isFr (.tup [.int p, .int q]) = decide ((Int.gcd p q : Int) = 1) := by
              show (decide (1 ≤ q) && _) = _
              rw [decide_eq_true (by omega)]; rfl
            rw [e] at h
            rw [gcd_abs]
            exact h
        | _ => simp only [↓w_var, ↓wVar_val, ↓wVar_own, ↓w_c, ↓w_nil, ↓w_cons, ↓w_app, ↓wViews_nil, ↓wViews_cons, ↓wView_d, ↓wView_fresh, ↓wView_plc, ↓wSlot_val, ↓wSlot_own, ↓wEsc_d, ↓wEsc_fresh, ↓wEsc_plc, ↓wEscS_val, ↓wEscS_own, ↓wEscs_nil, ↓wEscs_cons, ↓w_frz, ↓w_tup, ↓w_lst, ↓w_bool, ↓w_tru, ↓w_notT, ↓w_andT, ↓w_orT, ↓w_if, ↓w_and, ↓w_or, ↓w_not, ↓w_chain, ↓wB_bl, ↓w_noPart, ↓w_part, ↓w_slice, ↓w_call, ↓wPlc_cons, ↓wOwn_own, ↓w_callIo, ↓isLst_lst, ↓w_meth, ↓w_ext, ↓wExt_ok, ↓ws_next, ↓ws_bk, ↓ws_ct, ↓ws_rt, ↓ws_nx, ↓ws_seq, ↓ws_drop, ↓ws_ret, ↓ws_if, ↓ws_set, ↓wSet_d, ↓wSet_fresh, ↓wSet_plc, ↓ws_asg, ↓wt_name, ↓wt_nil, ↓wt_cons, ↓wt_tup, ↓wt_lst, ↓wPar_two, ↓ws_par, ↓wLstS_own, ↓wInt_int, ↓ws_item, ↓ws_for, ↓w_zip, ↓w_iter, ↓wItems_lst, ↓wItems_tup, ↓w_rng, ↓wRet_d, ↓wRet_fresh, ↓wRet_plc, ↓wRetS_val, ↓wRetS_own, ↓wRetS_ownS, ↓wI_some, ↓wI_none, ↓wI_ite, List.getElem?_cons_zero, List.getElem?_cons_succ, List.set_cons_zero, List.set_cons_succ, isW, tru_bl, Bool.not_false, Bool.not_true, Bool.false_eq_true, ↓reduceIte]; exact h
      | _ => simp only [↓w_var, ↓wVar_val, ↓wVar_own, ↓w_c, ↓w_nil, ↓w_cons, ↓w_app, ↓wViews_nil, ↓wViews_cons, ↓wView_d, ↓wView_fresh, ↓wView_plc, ↓wSlot_val, ↓wSlot_own, ↓wEsc_d, ↓wEsc_fresh, ↓wEsc_plc, ↓wEscS_val, ↓wEscS_own, ↓wEscs_nil, ↓wEscs_cons, ↓w_frz, ↓w_tup, ↓w_lst, ↓w_bool, ↓w_tru, ↓w_notT, ↓w_andT, ↓w_orT, ↓w_if, ↓w_and, ↓w_or, ↓w_not, ↓w_chain, ↓wB_bl, ↓w_noPart, ↓w_part, ↓w_slice, ↓w_call, ↓wPlc_cons, ↓wOwn_own, ↓w_callIo, ↓isLst_lst, ↓w_meth, ↓w_ext, ↓wExt_ok, ↓ws_next, ↓ws_bk, ↓ws_ct, ↓ws_rt, ↓ws_nx, ↓ws_seq, ↓ws_drop, ↓ws_ret, ↓ws_if, ↓ws_set, ↓wSet_d, ↓wSet_fresh, ↓wSet_plc, ↓ws_asg, ↓wt_name, ↓wt_nil, ↓wt_cons, ↓wt_tup, ↓wt_lst, ↓wPar_two, ↓ws_par, ↓wLstS_own, ↓wInt_int, ↓ws_item, ↓ws_for, ↓w_zip, ↓w_iter, ↓wItems_lst, ↓wItems_tup, ↓w_rng, ↓wRet_d, ↓wRet_fresh, ↓wRet_plc, ↓wRetS_val, ↓wRetS_own, ↓wRetS_ownS, ↓wI_some, ↓wI_none, ↓wI_ite, List.getElem?_cons_zero, List.getElem?_cons_succ, List.set_cons_zero, List.set_cons_succ, isW, tru_bl, Bool.not_false, Bool.not_true, Bool.false_eq_true, ↓reduceIte]; exact h
    · simp (disch := first | assumption | omega) only [↓w_var, ↓wVar_val, ↓wVar_own, ↓w_c, ↓w_nil, ↓w_cons, ↓w_app, ↓wViews_nil, ↓wViews_cons, ↓wView_d, ↓wView_fresh, ↓wView_plc, ↓wSlot_val, ↓wSlot_own, ↓wEsc_d, ↓wEsc_fresh, ↓wEsc_plc, ↓wEscS_val, ↓wEscS_own, ↓wEscs_nil, ↓wEscs_cons, ↓w_frz, ↓w_tup, ↓w_lst, ↓w_bool, ↓w_tru, ↓w_notT, ↓w_andT, ↓w_orT, ↓w_if, ↓w_and, ↓w_or, ↓w_not, ↓w_chain, ↓wB_bl, ↓w_noPart, ↓w_part, ↓w_slice, ↓w_call, ↓wPlc_cons, ↓wOwn_own, ↓w_callIo, ↓isLst_lst, ↓w_meth, ↓w_ext, ↓wExt_ok, ↓ws_next, ↓ws_bk, ↓ws_ct, ↓ws_rt, ↓ws_nx, ↓ws_seq, ↓ws_drop, ↓ws_ret, ↓ws_if, ↓ws_set, ↓wSet_d, ↓wSet_fresh, ↓wSet_plc, ↓ws_asg, ↓wt_name, ↓wt_nil, ↓wt_cons, ↓wt_tup, ↓wt_lst, ↓wPar_two, ↓ws_par, ↓wLstS_own, ↓wInt_int, ↓ws_item, ↓ws_for, ↓w_zip, ↓w_iter, ↓wItems_lst, ↓wItems_tup, ↓w_rng, ↓wRet_d, ↓wRet_fresh, ↓wRet_plc, ↓wRetS_val, ↓wRetS_own, ↓wRetS_ownS, ↓wI_some, ↓wI_none, ↓wI_ite, List.getElem?_cons_zero, List.getElem?_cons_succ, List.set_cons_zero, List.set_cons_succ, isiD, Bool.not_true, Bool.false_eq_true, ↓reduceIte, o_lenT, o_neI, decide_eq_true_eq]
      rw [if_pos (by omega)]
      rw [isFr_len hl] at h
      exact h
  | _ => simp only [↓w_var, ↓wVar_val, ↓wVar_own, ↓w_c, ↓w_nil, ↓w_cons, ↓w_app, ↓wViews_nil, ↓wViews_cons, ↓wView_d, ↓wView_fresh, ↓wView_plc, ↓wSlot_val, ↓wSlot_own, ↓wEsc_d, ↓wEsc_fresh, ↓wEsc_plc, ↓wEscS_val, ↓wEscS_own, ↓wEscs_nil, ↓wEscs_cons, ↓w_frz, ↓w_tup, ↓w_lst, ↓w_bool, ↓w_tru, ↓w_notT, ↓w_andT, ↓w_orT, ↓w_if, ↓w_and, ↓w_or, ↓w_not, ↓w_chain, ↓wB_bl, ↓w_noPart, ↓w_part, ↓w_slice, ↓w_call, ↓wPlc_cons, ↓wOwn_own, ↓w_callIo, ↓isLst_lst, ↓w_meth, ↓w_ext, ↓wExt_ok, ↓ws_next, ↓ws_bk, ↓ws_ct, ↓ws_rt, ↓ws_nx, ↓ws_seq, ↓ws_drop, ↓ws_ret, ↓ws_if, ↓ws_set, ↓wSet_d, ↓wSet_fresh, ↓wSet_plc, ↓ws_asg, ↓wt_name, ↓wt_nil, ↓wt_cons, ↓wt_tup, ↓wt_lst, ↓wPar_two, ↓ws_par, ↓wLstS_own, ↓wInt_int, ↓ws_item, ↓ws_for, ↓w_zip, ↓w_iter, ↓wItems_lst, ↓wItems_tup, ↓w_rng, ↓wRet_d, ↓wRet_fresh, ↓wRet_plc, ↓wRetS_val, ↓wRetS_own, ↓wRetS_ownS, ↓wI_some, ↓wI_none, ↓wI_ite, List.getElem?_cons_zero, List.getElem?_cons_succ, List.set_cons_zero, List.set_cons_succ, isiD, Bool.not_false, Bool.not_true, Bool.false_eq_true, ↓reduceIte]; exact h
/-- as it is divided out -/
theorem rat_same {p q : Int} (hq : 0 < q) : (decide (ratT p q = p) && decide (ratB p q = q)) = decide ((Int.gcd p q : Int) = 1) := by
  have gp : 0 < (Int.gcd p q : Int) := by
    have := Int.gcd_pos_of_ne_zero_right p (show q ≠ 0 by omega)
    omega
  unfold ratT ratB
  rw [if_neg (by omega), if_neg (by omega)]
  by_cases h : (Int.gcd p q : Int) = 1
  · rw [h]; simp
  · rw [decide_eq_false h, Bool.and_eq_false_iff]
    right
    apply decide_eq_false
    intro e
    have := Int.ediv_lt_self_of_pos_of_ne_one hq (y := (Int.gcd p q : Int)) (by omega)
    omega
theorem ratT_bd {p q : Int} (hq : 0 < q) : -(10 ^ 62) < p → p < 10 ^ 62 → -(10 ^ 63) < ratT p q ∧ ratT p q < 10 ^ 63 := by
  intro h1 h2
  unfold ratT
  rw [if_neg (by omega)]
  have gp : 0 < (Int.gcd p q : Int) := by
    have := Int.gcd_pos_of_ne_zero_right p (show q ≠ 0 by omega)
    omega
  have e := Int.ediv_mul_le p (show (Int.gcd p q : Int) ≠ 0 by omega)
  have e2 := Int.lt_ediv_add_one_mul_self p gp
  generalize p / (Int.gcd p q : Int) = x at *
  generalize (Int.gcd p q : Int) = g at *
  constructor
  · by_cases hx : 0 ≤ x
    · omega
    · have : (x + 1) * g ≤ (x + 1) * 1 := by
        have := Int.mul_le_mul_of_nonpos_left (a := x + 1) (b := g) (c := 1) (by omega) (by omega)
        omega
      omega
  · by_cases hx : 0 ≤ x
    · have : x * 1 ≤ x * g := Int.mul_le_mul_of_nonneg_left (by omega) hx
      omega
    · omega
theorem ratB_bd {p q : Int} (hq : 0 < q) : 0 < ratB p q ∧ ratB p q ≤ q := by
  unfold ratB
  rw [if_neg (by omega)]
  have gp : 0 < (Int.gcd p q : Int) := by
    have := Int.gcd_pos_of_ne_zero_right p (show q ≠ 0 by omega)
    omega
  have gle : (Int.gcd p q : Int) ≤ q := Int.le_of_dvd hq (Int.gcd_dvd_right ..)
  exact ⟨Int.ediv_pos_of_pos_of_dvd hq (by omega) (Int.gcd_dvd_right ..), Int.ediv_le_self _ (by omega)⟩
/-- _law_made -/
noncomputable def madeB : SDen :=
 sSeq (sSet 2 (dApp oAbs [dVar 0]))
 (sSeq (sSet 3 (dVar 1))
 (sSeq (sWhile (dBool (dApp oGt [dVar 3, dC (.int 0)]))
 (sSeq (sSet 4 (dApp oMod [dVar 2, dVar 3]))
 (sSeq (sSet 2 (dVar 3))
 (sSet 3 (dVar 4)))))
 (sRet (dTup [dApp oDiv [dVar 0, dVar 2], dApp oDiv [dVar 1, dVar 2]]))))
theorem made_spec {a b : Int} {Q : RV → Prop} {E : Exn → Prop} (hb : 0 < b) (hb2 : b < 10 ^ 199) (h : Q (.d (.tup [.int (a / Int.gcd a b), .int (b / Int.gcd a b)]))) : wF0 (runFn 5 2 false madeB [.int a, .int b]) Q E := by
  refine w_run0 rfl ?_
  show wS (madeB [Sl.val (.int a), .val (.int b), .no, .no, .no]) _
  unfold madeB
  simp only [↓w_var, ↓wVar_val, ↓wVar_own, ↓w_c, ↓w_nil, ↓w_cons, ↓w_app, ↓wViews_nil, ↓wViews_cons, ↓wView_d, ↓wView_fresh, ↓wView_plc, ↓wSlot_val, ↓wSlot_own, ↓wEsc_d, ↓wEsc_fresh, ↓wEsc_plc, ↓wEscS_val, ↓wEscS_own, ↓wEscs_nil, ↓wEscs_cons, ↓w_frz, ↓w_tup, ↓w_lst, ↓w_bool, ↓w_tru, ↓w_notT, ↓w_andT, ↓w_orT, ↓w_if, ↓w_and, ↓w_or, ↓w_not, ↓w_chain, ↓wB_bl, ↓w_noPart, ↓w_part, ↓w_slice, ↓w_call, ↓wPlc_cons, ↓wOwn_own, ↓w_callIo, ↓isLst_lst, ↓w_meth, ↓w_ext, ↓wExt_ok, ↓ws_next, ↓ws_bk, ↓ws_ct, ↓ws_rt, ↓ws_nx, ↓ws_seq, ↓ws_drop, ↓ws_ret, ↓ws_if, ↓ws_set, ↓wSet_d, ↓wSet_fresh, ↓wSet_plc, ↓ws_asg, ↓wt_name, ↓wt_nil, ↓wt_cons, ↓wt_tup, ↓wt_lst, ↓wPar_two, ↓ws_par, ↓wLstS_own, ↓wInt_int, ↓ws_item, ↓ws_for, ↓w_zip, ↓w_iter, ↓wItems_lst, ↓wItems_tup, ↓w_rng, ↓wRet_d, ↓wRet_fresh, ↓wRet_plc, ↓wRetS_val, ↓wRetS_own, ↓wRetS_ownS, ↓wI_some, ↓wI_none, ↓wI_ite, List.getElem?_cons_zero, List.getElem?_cons_succ, List.set_cons_zero, List.set_cons_succ, o_abs]
  refine while_inv (fun n ρ => ∃ (x y : Int) (z : Sl), ρ = [.val (.int a), .val (.int b), .val (.int x), .val (.int y), z] ∧ 0 ≤ x ∧ 0 ≤ y ∧ Int.gcd x y = Int.gcd a b ∧ n = y.toNat) ⟨_, b, .no, rfl, by split <;> omega, by omega, ?_, rfl⟩ ?_
  · rw [gcd_abs]
  · rintro n ρ ⟨x, y, z, rfl, hx, hy, hg, rfl⟩
    by_cases h0 : y = 0
    · subst h0
      have g0 : (Int.gcd x 0 : Int) = x := by simp; omega
      have gp : 0 < (Int.gcd a b : Int) := by
        have := Int.gcd_pos_of_ne_zero_right a (show b ≠ 0 by omega)
        omega
      have gx : x = Int.gcd a b := by rw [← hg]; exact g0.symm
      have gle : (Int.gcd a b : Int) ≤ b := Int.le_of_dvd hb (Int.gcd_dvd_right ..)
      subst gx
      simp (disch := first | assumption | omega) only [↓w_var, ↓wVar_val, ↓wVar_own, ↓w_c, ↓w_nil, ↓w_cons, ↓w_app, ↓wViews_nil, ↓wViews_cons, ↓wView_d, ↓wView_fresh, ↓wView_plc, ↓wSlot_val, ↓wSlot_own, ↓wEsc_d, ↓wEsc_fresh, ↓wEsc_plc, ↓wEscS_val, ↓wEscS_own, ↓wEscs_nil, ↓wEscs_cons, ↓w_frz, ↓w_tup, ↓w_lst, ↓w_bool, ↓w_tru, ↓w_notT, ↓w_andT, ↓w_orT, ↓w_if, ↓w_and, ↓w_or, ↓w_not, ↓w_chain, ↓wB_bl, ↓w_noPart, ↓w_part, ↓w_slice, ↓w_call, ↓wPlc_cons, ↓wOwn_own, ↓w_callIo, ↓isLst_lst, ↓w_meth, ↓w_ext, ↓wExt_ok, ↓ws_next, ↓ws_bk, ↓ws_ct, ↓ws_rt, ↓ws_nx, ↓ws_seq, ↓ws_drop, ↓ws_ret, ↓ws_if, ↓ws_set, ↓wSet_d, ↓wSet_fresh, ↓wSet_plc, ↓ws_asg, ↓wt_name, ↓wt_nil, ↓wt_cons, ↓wt_tup, ↓wt_lst, ↓wPar_two, ↓ws_par, ↓wLstS_own, ↓wInt_int, ↓ws_item, ↓ws_for, ↓w_zip, ↓w_iter, ↓wItems_lst, ↓wItems_tup, ↓w_rng, ↓wRet_d, ↓wRet_fresh, ↓wRet_plc, ↓wRetS_val, ↓wRetS_own, ↓wRetS_ownS, ↓wI_some, ↓wI_none, ↓wI_ite, List.getElem?_cons_zero, List.getElem?_cons_succ, List.set_cons_zero, List.set_cons_succ, o_gt, o_divP, decide_eq_true_eq]
      rw [if_neg (by omega)]
      exact h
    · have hy' : 0 < y := by omega
      simp (disch := first | assumption | omega) only [↓w_var, ↓wVar_val, ↓wVar_own, ↓w_c, ↓w_nil, ↓w_cons, ↓w_app, ↓wViews_nil, ↓wViews_cons, ↓wView_d, ↓wView_fresh, ↓wView_plc, ↓wSlot_val, ↓wSlot_own, ↓wEsc_d, ↓wEsc_fresh, ↓wEsc_plc, ↓wEscS_val, ↓wEscS_own, ↓wEscs_nil, ↓wEscs_cons, ↓w_frz, ↓w_tup, ↓w_lst, ↓w_bool, ↓w_tru, ↓w_notT, ↓w_andT, ↓w_orT, ↓w_if, ↓w_and, ↓w_or, ↓w_not, ↓w_chain, ↓wB_bl, ↓w_noPart, ↓w_part, ↓w_slice, ↓w_call, ↓wPlc_cons, ↓wOwn_own, ↓w_callIo, ↓isLst_lst, ↓w_meth, ↓w_ext, ↓wExt_ok, ↓ws_next, ↓ws_bk, ↓ws_ct, ↓ws_rt, ↓ws_nx, ↓ws_seq, ↓ws_drop, ↓ws_ret, ↓ws_if, ↓ws_set, ↓wSet_d, ↓wSet_fresh, ↓wSet_plc, ↓ws_asg, ↓wt_name, ↓wt_nil, ↓wt_cons, ↓wt_tup, ↓wt_lst, ↓wPar_two, ↓ws_par, ↓wLstS_own, ↓wInt_int, ↓ws_item, ↓ws_for, ↓w_zip, ↓w_iter, ↓wItems_lst, ↓wItems_tup, ↓w_rng, ↓wRet_d, ↓wRet_fresh, ↓wRet_plc, ↓wRetS_val, ↓wRetS_own, ↓wRetS_ownS, ↓wI_some, ↓wI_none, ↓wI_ite, List.getElem?_cons_zero, List.getElem?_cons_succ, List.set_cons_zero, List.set_cons_succ, o_gt, o_modP, decide_eq_true_eq]
      rw [if_pos hy']
      have h1 := Int.emod_nonneg x h0
      have h2 := Int.emod_lt_of_pos x hy'
      exact ⟨(x % y).toNat, by omega, y, x % y, _, rfl, hy, h1, (gcd_step hx hy').trans hg, rfl⟩
mutual
/-- no number of great size within -/
def bdD : D → Bool
  | .int i => decide (-(10 ^ 150) < i) && decide (i < 10 ^ 150)
  | .tup l => bdDs l
  | .lst l => bdDs l
  | _ => true
def bdDs : List D → Bool
  | [] => true
  | d :: l => bdD d && bdDs l
end
theorem bdDs_mem {l : List D} (h : bdDs l = true) : ∀ d ∈ l, bdD d = true := by
  induction l with
  | nil => intro d hd; cases hd
  | cons e l ih =>
    rw [bdDs, Bool.and_eq_true] at h
    intro d hd
    rcases List.mem_cons.mp hd with rfl | hd
    · exact h.1
    · exact ih h.2 d hd
theorem bdDs_of {l : List D} (h : ∀ d ∈ l, bdD d = true) : bdDs l = true := by
  induction l with
  | nil => rfl
  | cons d l ih => rw [bdDs, h d List.mem_cons_self, ih fun x hx => h x (List.mem_cons_of_mem _ hx)]; rfl
theorem bd_int {i : Int} (h : bdD (.int i) = true) : -(10 ^ 150) < i ∧ i < 10 ^ 150 := by
  rw [bdD, Bool.and_eq_true] at h
  exact ⟨of_decide_eq_true h.1, of_decide_eq_true h.2⟩
theorem sh_bls {l : List Bool} : shP (.lst (l.map .bl)) = true := by
  refine shP_of (k := 1) ?_ (by omega)
  rw [shN]
  refine shNs_of fun d hd => ?_
  obtain ⟨b, _, rfl⟩ := List.mem_map.mp hd
  rfl
theorem any_false : ∀ l : List Bool, (!((l.map D.bl).any fun z => eqP z (.bl false))) = l.all id
  | [] => rfl
  | b :: l => by
    rw [List.map_cons, List.any_cons, eq_bb, Bool.not_or, any_false l, List.all_cons]
    cases b <;> rfl
/-- what a law says of truths in a list -/
theorem o_notinB {l : List Bool} {Q : RV → Prop} : wI (oNotIn [.bl false, .lst (l.map .bl)]) Q = Q (.d (.bl (l.all id))) := by
  show wI (if (shP (.bl false) && shP (.lst (l.map .bl))) = true then dat (.bl (!((l.map D.bl).any fun z => eqP z (.bl false)))) else none) Q = _
  rw [if_pos (by rw [shB, sh_bls]; rfl), any_false]
  rfl
theorem tup_c0 {d : D} {l : List D} {Q : RV → Prop} : wI (oIx [.tup (d :: l), .int 0]) Q = Q (.d d) := by
  rw [o_ixT (by omega) (by simp <;> omega)]
  simp
theorem tup_c1 {d e : D} {l : List D} {Q : RV → Prop} : wI (oIx [.tup (d :: e :: l), .int 1]) Q = Q (.d e) := by
  rw [o_ixT (by omega) (by simp <;> omega)]
  simp
theorem lst_c0 {d : D} {l : List D} {Q : RV → Prop} : wI (oIx [.lst (d :: l), .int 0]) Q = Q (.d d) := by
  rw [o_ixL (by omega) (by simp <;> omega)]
  simp
theorem lst_c1 {d e : D} {l : List D} {Q : RV → Prop} : wI (oIx [.lst (d :: e :: l), .int 1]) Q = Q (.d e) := by
  rw [o_ixL (by omega) (by simp <;> omega)]
  simp
theorem blsD_map : ∀ l : List Bool, blsD (l.map .bl) = some l
  | [] => rfl
  | b :: l => by
    rw [List.map_cons, blsD, blsD_map l]
    rfl
theorem o_allB {l : List Bool} {Q : RV → Prop} : wI (oAll [.lst (l.map .bl)]) Q = Q (.d (.bl (l.all id))) := by
  show wI ((blsD (l.map .bl)).map fun ns => .d (.bl (ns.all id))) Q = _
  rw [blsD_map]
  rfl
theorem o_anyB {l : List Bool} {Q : RV → Prop} : wI (oAny [.lst (l.map .bl)]) Q = Q (.d (.bl (l.any id))) := by
  show wI ((blsD (l.map .bl)).map fun ns => .d (.bl (ns.any id))) Q = _
  rw [blsD_map]
  rfl
theorem m_append {l : List D} {x : D} {Q : D × D → Prop} (h : l.length ≤ 1000000) : wI (mAppend (.lst l) [x]) Q = Q (.non, .lst (l ++ [x])) := by
  show wI (if okLen l.length = true then _ else _) Q = _
  rw [if_pos (okLen_of h)]
  rfl
end DL
set_option maxHeartbeats 4000000
/-! DL, part 24: fractions as rational numbers. -/
namespace DL
open PySem PySem.Spec PyProof.Rows L2

/-! ### sizes -/
/-- binary figures (1 for nought) -/
def nb (n : Nat) : Nat := n.log2 + 1
theorem lt_nb (n : Nat) : n < 2 ^ nb n := Nat.lt_log2_self
theorem nb_le {n k : Nat} (h : n < 2 ^ k) (hk : 0 < k) : nb n ≤ k := by
  unfold nb
  by_cases z : n = 0
  · subst z; simp; omega
  · have := (Nat.log2_lt z).mpr h
    omega
theorem nb_pos (n : Nat) : 0 < nb n := Nat.succ_pos _
theorem nb_mono {m n : Nat} (h : m ≤ n) : nb m ≤ nb n := nb_le (Nat.lt_of_le_of_lt h (lt_nb n)) (nb_pos n)
theorem nb_mul (m n : Nat) : nb (m * n) ≤ nb m + nb n := nb_le (by
  rw [Nat.pow_add]
  exact Nat.mul_lt_mul'' (lt_nb m) (lt_nb n)) (by have := nb_pos m; omega)
theorem nb_add (m n : Nat) : nb (m + n) ≤ max (nb m) (nb n) + 1 := nb_le (by
  have h1 := Nat.lt_of_lt_of_le (lt_nb m) (Nat.pow_le_pow_right (show 0 < 2 by omega) (Nat.le_max_left (nb m) (nb n)))
  have h2 := Nat.lt_of_lt_of_le (lt_nb n) (Nat.pow_le_pow_right (show 0 < 2 by omega) (Nat.le_max_right (nb m) (nb n)))
  rw [Nat.pow_succ]
  omega) (by omega)
theorem nb_iadd (i j : Int) : nb (i + j).natAbs ≤ max (nb i.natAbs) (nb j.natAbs) + 1 := Nat.le_trans (nb_mono (Int.natAbs_add_le i j)) (nb_add _ _)
theorem nb_isub (i j : Int) : nb (i - j).natAbs ≤ max (nb i.natAbs) (nb j.natAbs) + 1 := by
  have := nb_iadd i (-j)
  rw [Int.natAbs_neg] at this
  exact this
theorem nb_imul (i j : Int) : nb (i * j).natAbs ≤ nb i.natAbs + nb j.natAbs := by
  rw [Int.natAbs_mul]
  exact nb_mul _ _
theorem nb_div (m n : Nat) : nb (m / n) ≤ nb m := nb_mono (Nat.div_le_self m n)
def rb (x : Rat) : Nat := max (nb x.num.natAbs) (nb x.den)
theorem rb_num (x : Rat) : nb x.num.natAbs ≤ rb x := Nat.le_max_left _ _
theorem rb_den (x : Rat) : nb x.den ≤ rb x := Nat.le_max_right _ _
theorem rb_pos (x : Rat) : 0 < rb x := Nat.lt_of_lt_of_le (nb_pos _) (rb_num x)
theorem divInt_num {p q : Int} (hq : q ≠ 0) : (Rat.divInt p q).num = ratT p q := by
  rw [Rat.num_divInt]
  unfold ratT
  rw [Int.gcd_comm]
  by_cases h : q < 0
  · rw [if_pos h, Int.sign_eq_neg_one_of_neg h]
    simp
  · rw [if_neg h, Int.sign_eq_one_of_pos (by omega)]
    simp
theorem divInt_den {p q : Int} (hq : q ≠ 0) : ((Rat.divInt p q).den : Int) = ratB p q := by
  rw [Rat.den_divInt, if_neg hq]
  unfold ratB
  rw [Int.gcd_comm]
  by_cases h : q < 0
  · rw [if_pos h, Int.natCast_ediv]
    congr 1
    omega
  · rw [if_neg h, Int.natCast_ediv]
    congr 1
    omega
theorem rb_divInt {p q : Int} {k : Nat} (hp : nb p.natAbs ≤ k) (hq : nb q.natAbs ≤ k) : rb (Rat.divInt p q) ≤ k := by
  have k0 := nb_pos p.natAbs
  unfold rb
  rw [Rat.num_divInt, Rat.den_divInt]
  refine Nat.max_le.mpr ⟨Nat.le_trans (nb_mono (Int.natAbs_ediv_le_natAbs _ _)) ?_, ?_⟩
  · rw [Int.natAbs_mul]
    refine Nat.le_trans (nb_mono (n := p.natAbs) ?_) hp
    have : q.sign.natAbs ≤ 1 := by
      rcases Int.lt_trichotomy q 0 with h | h | h
      · rw [Int.sign_eq_neg_one_of_neg h]; decide
      · rw [h]; decide
      · rw [Int.sign_eq_one_of_pos h]; decide
    calc q.sign.natAbs * p.natAbs ≤ 1 * p.natAbs := Nat.mul_le_mul_right _ this
      _ = p.natAbs := Nat.one_mul _
  · split
    · have : nb 1 = 1 := by decide
      omega
    · exact Nat.le_trans (nb_div _ _) hq
theorem rb_add (x y : Rat) : rb (x + y) ≤ rb x + rb y + 1 := by
  rw [Rat.add_def', ← Rat.divInt_ofNat]
  have a1 := rb_num x
  have a2 := rb_den x
  have b1 := rb_num y
  have b2 := rb_den y
  refine rb_divInt ?_ ?_
  · have h1 := nb_imul x.num y.den
    have h2 := nb_imul y.num x.den
    have h3 := nb_iadd (x.num * y.den) (y.num * x.den)
    rw [Int.natAbs_natCast] at h1 h2
    omega
  · have := nb_mul x.den y.den
    rw [Int.natAbs_natCast]
    omega
theorem rb_neg (x : Rat) : rb (-x) = rb x := by
  unfold rb
  rw [Rat.neg_num, Int.natAbs_neg, Rat.neg_den]
theorem rb_sub (x y : Rat) : rb (x - y) ≤ rb x + rb y + 1 := by
  have := rb_add x (-y)
  rw [rb_neg] at this
  rw [Rat.sub_eq_add_neg]
  exact this
theorem rb_mul (x y : Rat) : rb (x * y) ≤ rb x + rb y := by
  rw [Rat.mul_def', ← Rat.divInt_ofNat]
  have a1 := rb_num x
  have a2 := rb_den x
  have b1 := rb_num y
  have b2 := rb_den y
  refine rb_divInt ?_ ?_
  · have h1 := nb_imul x.num y.num
    omega
  · have := nb_mul x.den y.den
    rw [Int.natAbs_natCast]
    omega
theorem rb_inv (x : Rat) : rb x⁻¹ ≤ rb x := by
  rw [Rat.inv_def]
  refine rb_divInt ?_ (rb_num x)
  rw [Int.natAbs_natCast]
  exact rb_den x
theorem rb_dv (x y : Rat) : rb (x / y) ≤ rb x + rb y := by
  rw [Rat.div_def]
  have h1 := rb_mul x y⁻¹
  have h2 := rb_inv y
  omega
theorem rb_of {x : Rat} {k : Nat} (h1 : x.num.natAbs < 2 ^ k) (h2 : x.den < 2 ^ k) (hk : 0 < k) : rb x ≤ k := Nat.max_le.mpr ⟨nb_le h1 hk, nb_le h2 hk⟩

/-! ### fractions as data -/
def fr (x : Rat) : D := .tup [.int x.num, .int x.den]
theorem fr_divInt {p q : Int} (hq : q ≠ 0) : D.tup [.int (ratT p q), .int (ratB p q)] = fr (Rat.divInt p q) := by
  unfold fr
  rw [divInt_num hq, divInt_den hq]
theorem fr_made {p q : Int} (hq : 0 < q) : D.tup [.int (p / (Int.gcd p q : Int)), .int (q / (Int.gcd p q : Int))] = fr (Rat.divInt p q) := by
  rw [← fr_divInt (by omega)]
  unfold ratT ratB
  rw [if_neg (by omega), if_neg (by omega)]
theorem fr_mk {p q : Int} (hq : 0 < q) (hg : Int.gcd p q = 1) : D.tup [.int p, .int q] = fr (Rat.divInt p q) := by
  rw [← fr_made hq, hg]
  simp
theorem fr_inj {x y : Rat} (h : fr x = fr y) : x = y := by
  unfold fr at h
  injection h with h
  injection h with h1 h2
  injection h2 with h2 _
  injection h1 with h1
  injection h2 with h2
  exact Rat.ext h1 (by omega)
theorem fr_int (i : Int) : D.tup [.int i, .int 1] = fr i := rfl
theorem fr_zero : D.tup [.int 0, .int 1] = fr 0 := rfl
theorem fr_one : D.tup [.int 1, .int 1] = fr 1 := rfl
theorem shN_fr (x : Rat) (k : Nat) : shN (fr x) (k + 1) = true := by
  unfold fr
  simp [shN, shNs]
theorem sh_fr {x : Rat} : shP (fr x) = true := shP_of (shN_fr x 0) (by omega)
theorem eq_fr {x y : Rat} : eqP (fr x) (fr y) = decide (x = y) := by
  unfold fr
  rw [eq_tt, eq_cc, eq_cc, eq_00, eq_ii, eq_ii, Bool.and_true]
  by_cases h : x = y
  · subst h
    simp
  · rw [decide_eq_false h]
    cases q : (x.num == y.num) with
    | false => rfl
    | true =>
      have h1 : x.num = y.num := eq_of_beq q
      rw [Bool.true_and]
      have h2 : ¬ ((x.den : Int) = (y.den : Int)) := fun e => h (Rat.ext h1 (by omega))
      simpa using h2
theorem den_pos (x : Rat) : (0 : Int) < x.den := by
  have := x.den_pos
  omega
section
variable {Q : RV → Prop} {i j : Int} {x y : Rat}
theorem fr_ix0 : wI (oIx [fr x, .int 0]) Q = Q (.d (.int x.num)) := id rfl
theorem fr_ix1 : wI (oIx [fr x, .int 1]) Q = Q (.d (.int x.den)) := id rfl
theorem fr_len : wI (oLen [fr x]) Q = Q (.d (.int 2)) := id rfl
theorem fr_isT : wI (oIsi .tuple [fr x]) Q = Q (.d (.bl true)) := id rfl
theorem fr_eq : wI (oEq [fr x, fr y]) Q = Q (.d (.bl (decide (x = y)))) := by rw [o_eq sh_fr sh_fr, eq_fr]
theorem fr_ne : wI (oNe [fr x, fr y]) Q = Q (.d (.bl (decide (x ≠ y)))) := by
  rw [o_ne sh_fr sh_fr, eq_fr]
  congr 3
  by_cases h : x = y <;> simp [h]
theorem o_mulN (h : nb i.natAbs + nb j.natAbs ≤ 100000000) : wI (oMul [.int i, .int j]) Q = Q (.d (.int (i * j))) := by
  show wI (if bitsOk i j = true then _ else _) Q = _
  rw [if_pos]
  · rfl
  · unfold nb at h
    exact Nat.ble_eq_true_of_le (by omega)
theorem o_divN (h : 0 < j) (h2 : nb j.natAbs ≤ 9000) : wI (oDiv [.int i, .int j]) Q = Q (.d (.int (i / j))) := by
  rw [o_div (by omega) (by unfold nb at h2; omega), Int.fdiv_eq_ediv_of_nonneg _ (by omega)]
end
theorem eq_of_w {o : FRes} {x : RV} (h : wF0 o (fun r => r = x) fun _ => False) : o = .ok x none := by
  unfold wF0 at h
  split at h
  · rw [h]
  · exact h.elim
  · exact h.elim
theorem wF0_ok {r : RV} {Q : RV → Prop} {E : Exn → Prop} : wF0 (.ok r none) Q E = Q r := id rfl
abbrev CommonE (C : List D → FRes) : Prop := ∀ a b : Int, 0 ≤ a → 0 ≤ b → C [.int a, .int b] = .ok (.d (.int (Int.gcd a b))) none
theorem common_e : CommonE (runFn 2 2 false commonB) := fun a b h1 h2 => eq_of_w (common_spec h1 h2 rfl)
/-- fraction, on its living way -/
noncomputable def fractionB (C : List D → FRes) : SDen :=
 sSeq (sIf (dBool (dApp oEq [dVar 1, dC (.int 0)]))
 (sBad)
 (sNext))
 (sSeq (sIf (dBool (dApp oLtI [dVar 1, dC (.int 0)]))
 (sPar 0 1 [dApp oNeg [dVar 0], dApp oNeg [dVar 1]])
 (sNext))
 (sSeq (sSet 2 (dCall C [dApp oAbs [dVar 0], dVar 1]))
 (sRet (dTup [dApp oDiv [dVar 0, dVar 2], dApp oDiv [dVar 1, dVar 2]]))))
abbrev FractionE (F : List D → FRes) : Prop := ∀ p q : Int, q ≠ 0 → nb q.natAbs ≤ 9000 → F [.int p, .int q] = .ok (.d (fr (Rat.divInt p q))) none
theorem fraction_e {C : List D → FRes} (hC : CommonE C) : FractionE (runFn 3 2 false (fractionB C)) := by
  intro p q hq hb
  refine eq_of_w (w_run0 rfl ?_)
  show wS (fractionB C [Sl.val (.int p), .val (.int q), .no]) _
  unfold fractionB
  refine ws_cut (fun ρ => ρ = [Sl.val (.int p), .val (.int q), .no]) ?_ ?_
  · simp only [↓w_var, ↓wVar_val, ↓wVar_own, ↓w_c, ↓w_nil, ↓w_cons, ↓w_app, ↓wViews_nil, ↓wViews_cons, ↓wView_d, ↓wView_fresh, ↓wView_plc, ↓wSlot_val, ↓wSlot_own, ↓wEsc_d, ↓wEsc_fresh, ↓wEsc_plc, ↓wEscS_val, ↓wEscS_own, ↓wEscs_nil, ↓wEscs_cons, ↓w_frz, ↓w_tup, ↓w_lst, ↓w_bool, ↓w_tru, ↓w_notT, ↓w_andT, ↓w_orT, ↓w_if, ↓w_and, ↓w_or, ↓w_not, ↓w_chain, ↓wB_bl, ↓w_noPart, ↓w_part, ↓w_slice, ↓w_call, ↓wPlc_cons, ↓wOwn_own, ↓w_callIo, ↓isLst_lst, ↓w_meth, ↓w_ext, ↓wExt_ok, ↓ws_next, ↓ws_bk, ↓ws_ct, ↓ws_rt, ↓ws_nx, ↓ws_seq, ↓ws_drop, ↓ws_ret, ↓ws_if, ↓ws_set, ↓wSet_d, ↓wSet_fresh, ↓wSet_plc, ↓ws_asg, ↓wt_name, ↓wt_nil, ↓wt_cons, ↓wt_tup, ↓wt_lst, ↓wPar_two, ↓ws_par, ↓wLstS_own, ↓wInt_int, ↓ws_item, ↓ws_for, ↓w_zip, ↓w_iter, ↓wItems_lst, ↓wItems_tup, ↓w_rng, ↓wRet_d, ↓wRet_fresh, ↓wRet_plc, ↓wRetS_val, ↓wRetS_own, ↓wRetS_ownS, ↓wI_some, ↓wI_none, ↓wI_ite, List.getElem?_cons_zero, List.getElem?_cons_succ, List.set_cons_zero, List.set_cons_succ, o_eqI, decide_eq_true_eq, hq, ↓reduceIte]
  rintro _ rfl
  refine ws_cut (fun ρ => ρ = [Sl.val (.int (if q < 0 then -p else p)), .val (.int (if q < 0 then -q else q)), .no]) ?_ ?_
  · simp only [↓w_var, ↓wVar_val, ↓wVar_own, ↓w_c, ↓w_nil, ↓w_cons, ↓w_app, ↓wViews_nil, ↓wViews_cons, ↓wView_d, ↓wView_fresh, ↓wView_plc, ↓wSlot_val, ↓wSlot_own, ↓wEsc_d, ↓wEsc_fresh, ↓wEsc_plc, ↓wEscS_val, ↓wEscS_own, ↓wEscs_nil, ↓wEscs_cons, ↓w_frz, ↓w_tup, ↓w_lst, ↓w_bool, ↓w_tru, ↓w_notT, ↓w_andT, ↓w_orT, ↓w_if, ↓w_and, ↓w_or, ↓w_not, ↓w_chain, ↓wB_bl, ↓w_noPart, ↓w_part, ↓w_slice, ↓w_call, ↓wPlc_cons, ↓wOwn_own, ↓w_callIo, ↓isLst_lst, ↓w_meth, ↓w_ext, ↓wExt_ok, ↓ws_next, ↓ws_bk, ↓ws_ct, ↓ws_rt, ↓ws_nx, ↓ws_seq, ↓ws_drop, ↓ws_ret, ↓ws_if, ↓ws_set, ↓wSet_d, ↓wSet_fresh, ↓wSet_plc, ↓ws_asg, ↓wt_name, ↓wt_nil, ↓wt_cons, ↓wt_tup, ↓wt_lst, ↓wPar_two, ↓ws_par, ↓wLstS_own, ↓wInt_int, ↓ws_item, ↓ws_for, ↓w_zip, ↓w_iter, ↓wItems_lst, ↓wItems_tup, ↓w_rng, ↓wRet_d, ↓wRet_fresh, ↓wRet_plc, ↓wRetS_val, ↓wRetS_own, ↓wRetS_ownS, ↓wI_some, ↓wI_none, ↓wI_ite, List.getElem?_cons_zero, List.getElem?_cons_succ, List.set_cons_zero, List.set_cons_succ, o_lt, o_neg, decide_eq_true_eq]
    split <;> rfl
  rintro _ rfl
  simp only [↓w_var, ↓wVar_val, ↓wVar_own, ↓w_c, ↓w_nil, ↓w_cons, ↓w_app, ↓wViews_nil, ↓wViews_cons, ↓wView_d, ↓wView_fresh, ↓wView_plc, ↓wSlot_val, ↓wSlot_own, ↓wEsc_d, ↓wEsc_fresh, ↓wEsc_plc, ↓wEscS_val, ↓wEscS_own, ↓wEscs_nil, ↓wEscs_cons, ↓w_frz, ↓w_tup, ↓w_lst, ↓w_bool, ↓w_tru, ↓w_notT, ↓w_andT, ↓w_orT, ↓w_if, ↓w_and, ↓w_or, ↓w_not, ↓w_chain, ↓wB_bl, ↓w_noPart, ↓w_part, ↓w_slice, ↓w_call, ↓wPlc_cons, ↓wOwn_own, ↓w_callIo, ↓isLst_lst, ↓w_meth, ↓w_ext, ↓wExt_ok, ↓ws_next, ↓ws_bk, ↓ws_ct, ↓ws_rt, ↓ws_nx, ↓ws_seq, ↓ws_drop, ↓ws_ret, ↓ws_if, ↓ws_set, ↓wSet_d, ↓wSet_fresh, ↓wSet_plc, ↓ws_asg, ↓wt_name, ↓wt_nil, ↓wt_cons, ↓wt_tup, ↓wt_lst, ↓wPar_two, ↓ws_par, ↓wLstS_own, ↓wInt_int, ↓ws_item, ↓ws_for, ↓w_zip, ↓w_iter, ↓wItems_lst, ↓wItems_tup, ↓w_rng, ↓wRet_d, ↓wRet_fresh, ↓wRet_plc, ↓wRetS_val, ↓wRetS_own, ↓wRetS_ownS, ↓wI_some, ↓wI_none, ↓wI_ite, List.getElem?_cons_zero, List.getElem?_cons_succ, List.set_cons_zero, List.set_cons_succ, o_abs]
  rw [hC _ _ (by split <;> omega) (by split <;> omega)]
  have g1 : Int.gcd (if (if q < 0 then -p else p) < 0 then -(if q < 0 then -p else p) else (if q < 0 then -p else p)) (if q < 0 then -q else q) = Int.gcd p q := by
    rw [gcd_abs]
    split
    · rw [Int.neg_gcd, Int.gcd_neg]
    · rfl
  rw [g1]
  have gp : 0 < (Int.gcd p q : Int) := by
    have := Int.gcd_pos_of_ne_zero_right p hq
    omega
  have gl : nb ((Int.gcd p q : Int)).natAbs ≤ 9000 := Nat.le_trans (nb_mono (by
    rw [Int.natAbs_natCast]
    exact Nat.le_of_dvd (by omega) (Int.gcd_dvd_natAbs_right p q))) hb
  simp (disch := assumption) only [wF0_ok, ↓w_var, ↓wVar_val, ↓wVar_own, ↓w_c, ↓w_nil, ↓w_cons, ↓w_app, ↓wViews_nil, ↓wViews_cons, ↓wView_d, ↓wView_fresh, ↓wView_plc, ↓wSlot_val, ↓wSlot_own, ↓wEsc_d, ↓wEsc_fresh, ↓wEsc_plc, ↓wEscS_val, ↓wEscS_own, ↓wEscs_nil, ↓wEscs_cons, ↓w_frz, ↓w_tup, ↓w_lst, ↓w_bool, ↓w_tru, ↓w_notT, ↓w_andT, ↓w_orT, ↓w_if, ↓w_and, ↓w_or, ↓w_not, ↓w_chain, ↓wB_bl, ↓w_noPart, ↓w_part, ↓w_slice, ↓w_call, ↓wPlc_cons, ↓wOwn_own, ↓w_callIo, ↓isLst_lst, ↓w_meth, ↓w_ext, ↓wExt_ok, ↓ws_next, ↓ws_bk, ↓ws_ct, ↓ws_rt, ↓ws_nx, ↓ws_seq, ↓ws_drop, ↓ws_ret, ↓ws_if, ↓ws_set, ↓wSet_d, ↓wSet_fresh, ↓wSet_plc, ↓ws_asg, ↓wt_name, ↓wt_nil, ↓wt_cons, ↓wt_tup, ↓wt_lst, ↓wPar_two, ↓ws_par, ↓wLstS_own, ↓wInt_int, ↓ws_item, ↓ws_for, ↓w_zip, ↓w_iter, ↓wItems_lst, ↓wItems_tup, ↓w_rng, ↓wRet_d, ↓wRet_fresh, ↓wRet_plc, ↓wRetS_val, ↓wRetS_own, ↓wRetS_ownS, ↓wI_some, ↓wI_none, ↓wI_ite, List.getElem?_cons_zero, List.getElem?_cons_succ, List.set_cons_zero, List.set_cons_succ, o_divN]
  rw [← fr_divInt hq]
  rfl
end DL
set_option maxHeartbeats 4000000
/-! DL, part 25: the functions of fractions. -/
namespace DL
open PySem PySem.Spec PyProof.Rows L2

/-! ### powers of two beside rationals -/
theorem mul_den (x : Rat) : (x.den : Rat) * x = x.num := by
  have h : (x.den : Rat) ≠ 0 := by
    have := x.den_nz
    simpa using this
  have e : (x.num : Rat) / (x.den : Rat) = x := by
    have := Rat.num_divInt_den x
    rw [Rat.divInt_eq_div] at this
    exact this
  have := Rat.div_mul_cancel (a := x.num) h
  rw [e] at this
  rw [Rat.mul_comm]
  exact this
theorem den_posR (x : Rat) : (0 : Rat) < x.den := by
  have := den_pos x
  rw [Rat.lt_iff]
  simpa using this
theorem le_den {c x : Rat} : c ≤ x ↔ (x.den : Rat) * c ≤ x.num := by
  rw [← mul_den x, ← Rat.not_lt, ← Rat.not_lt, Rat.mul_lt_mul_left (den_posR x)]
theorem icast_le {i j : Int} : (i : Rat) ≤ (j : Rat) ↔ i ≤ j := Rat.intCast_le_intCast
theorem pow2_cast (n : Nat) : (2 : Rat) ^ n = ((2 ^ n : Int) : Rat) := by
  rw [Rat.intCast_pow]
  rfl
theorem pow2_pos (n : Nat) : (0 : Rat) < (2 : Rat) ^ n := by
  rw [pow2_cast]
  have : (0 : Int) < 2 ^ n := Int.pow_pos (by omega)
  rw [Rat.lt_iff]
  simpa using this
/-- 2 ^ t beside x, by whole numbers -/
theorem zpow2_le (x : Rat) (t : Int) : (2 : Rat) ^ t ≤ x ↔ if t < 0 then (x.den : Int) ≤ x.num * 2 ^ (-t).toNat else (x.den : Int) * 2 ^ t.toNat ≤ x.num := by
  by_cases h : t < 0
  · rw [if_pos h]
    obtain ⟨m, rfl⟩ : ∃ m : Nat, t = -(m : Int) := ⟨(-t).toNat, by omega⟩
    rw [Rat.zpow_neg, Rat.zpow_natCast, Int.neg_neg, Int.toNat_natCast, le_den]
    have hp := pow2_pos m
    have e : (2 : Rat) ^ m * ((x.den : Rat) * ((2 : Rat) ^ m)⁻¹) = x.den := by
      have : (2 : Rat) ^ m ≠ 0 := Rat.ne_of_gt hp
      grind
    rw [← Rat.not_lt, ← Rat.mul_lt_mul_left hp, e, Rat.not_lt, pow2_cast]
    have e2 : ((2 ^ m : Int) : Rat) * (x.num : Rat) = ((x.num * 2 ^ m : Int) : Rat) := by
      rw [Rat.intCast_mul, Rat.mul_comm]
    rw [e2]
    exact icast_le (i := (x.den : Int))
  · rw [if_neg h]
    obtain ⟨m, rfl⟩ : ∃ m : Nat, t = (m : Int) := ⟨t.toNat, by omega⟩
    rw [Rat.zpow_natCast, Int.toNat_natCast, le_den, pow2_cast]
    have e2 : (x.den : Rat) * ((2 ^ m : Int) : Rat) = (((x.den : Int) * 2 ^ m : Int) : Rat) := by
      rw [Rat.intCast_mul]
      rfl
    rw [e2]
    exact icast_le
theorem two_ne : (2 : Rat) ≠ 0 := by decide
theorem zpow2_pos (t : Int) : (0 : Rat) < (2 : Rat) ^ t := Rat.zpow_pos (by decide)
theorem zpow2_mono {s t : Int} (h : s ≤ t) : (2 : Rat) ^ s ≤ (2 : Rat) ^ t := by
  obtain ⟨m, rfl⟩ : ∃ m : Nat, t = s + m := ⟨(t - s).toNat, by omega⟩
  rw [Rat.zpow_add two_ne, Rat.zpow_natCast]
  have h1 : (1 : Rat) ≤ (2 : Rat) ^ m := by
    rw [pow2_cast]
    have : (1 : Int) ≤ 2 ^ m := by
      have := Int.pow_pos (n := 2) (m := m) (by omega)
      omega
    exact icast_le.mpr this
  have := Rat.mul_le_mul_of_nonneg_left h1 (Rat.le_of_lt (zpow2_pos s))
  rw [Rat.mul_one] at this
  exact this
/-- the greatest t with 2 ^ t at most x -/
def nbi (i : Int) : Int := (Builtin.Int.intBits i : Nat)
theorem nbi_pos {i : Int} (h : 0 < i) : nbi i = nb i.natAbs := by
  unfold nbi nb Builtin.Int.intBits
  rw [if_neg (by simp; omega)]
def flog (x : Rat) : Int := if (2 : Rat) ^ (nbi x.num - nbi x.den) ≤ x then nbi x.num - nbi x.den else nbi x.num - nbi x.den - 1
theorem nb_ge {n : Nat} (h : 0 < n) : 2 ^ (nb n - 1) ≤ n := Nat.log2_self_le (by omega)
theorem num_pos {x : Rat} (h : 0 < x) : 0 < x.num := by
  have := (Rat.lt_iff 0 x).mp h
  simpa using this
theorem flog_spec {x : Rat} (h : 0 < x) : (2 : Rat) ^ flog x ≤ x ∧ x < (2 : Rat) ^ (flog x + 1) := by
  have hn := num_pos h
  have hd := den_pos x
  have en := nbi_pos hn
  have ed := nbi_pos hd
  have n1 := nb_ge (n := x.num.natAbs) (by omega)
  have n2 := lt_nb x.num.natAbs
  have d1 := nb_ge (n := x.den) (by omega)
  have d2 := lt_nb x.den
  have np := nb_pos x.num.natAbs
  have dp := nb_pos x.den
  rw [Int.natAbs_natCast] at ed
  have up : ¬ (2 : Rat) ^ (nbi x.num - nbi x.den + 1) ≤ x := by
    rw [zpow2_le, en, ed]
    generalize nb x.num.natAbs = a at *
    generalize nb x.den = b at *
    split
    · rename_i hlt
      intro z
      have e : b - 1 = a + (-((a : Int) - b + 1)).toNat := by omega
      have : x.num * 2 ^ (-((a : Int) - b + 1)).toNat < 2 ^ a * 2 ^ (-((a : Int) - b + 1)).toNat := Int.mul_lt_mul_of_pos_right (by
        have : ((2 ^ a : Nat) : Int) = 2 ^ a := by simp
        omega) (Int.pow_pos (by omega))
      rw [← Int.pow_add, ← e] at this
      have : ((2 ^ (b - 1) : Nat) : Int) = 2 ^ (b - 1) := by simp
      omega
    · rename_i hge
      intro z
      have e : a = b - 1 + (((a : Int) - b + 1)).toNat := by omega
      have : (2 : Int) ^ (b - 1) * 2 ^ (((a : Int) - b + 1)).toNat ≤ x.den * 2 ^ (((a : Int) - b + 1)).toNat := Int.mul_le_mul_of_nonneg_right (by
        have : ((2 ^ (b - 1) : Nat) : Int) = 2 ^ (b - 1) := by simp
        omega) (Int.le_of_lt (Int.pow_pos (by omega)))
      rw [← Int.pow_add, ← e] at this
      have : ((2 ^ a : Nat) : Int) = 2 ^ a := by simp
      omega
  unfold flog
  split
  · rename_i h1
    exact ⟨h1, Rat.not_le.mp up⟩
  · rename_i h1
    refine ⟨?_, by rw [show nbi x.num - nbi x.den - 1 + 1 = nbi x.num - nbi x.den by omega]; exact Rat.not_le.mp h1⟩
    rw [zpow2_le, en, ed]
    generalize nb x.num.natAbs = a at *
    generalize nb x.den = b at *
    split
    · rename_i hlt
      have e : b ≤ a - 1 + (-((a : Int) - b - 1)).toNat := by omega
      have e2 : (2 : Int) ^ b ≤ 2 ^ (a - 1 + (-((a : Int) - b - 1)).toNat) := by
        have := Nat.pow_le_pow_right (show 0 < 2 by omega) e
        have c1 : ((2 ^ b : Nat) : Int) = 2 ^ b := by simp
        have c2 : ((2 ^ (a - 1 + (-((a : Int) - b - 1)).toNat) : Nat) : Int) = 2 ^ (a - 1 + (-((a : Int) - b - 1)).toNat) := by simp
        rw [← c1, ← c2]
        omega
      rw [Int.pow_add] at e2
      have : (2 : Int) ^ (a - 1) * 2 ^ (-((a : Int) - b - 1)).toNat ≤ x.num * 2 ^ (-((a : Int) - b - 1)).toNat := Int.mul_le_mul_of_nonneg_right (by
        have : ((2 ^ (a - 1) : Nat) : Int) = 2 ^ (a - 1) := by simp
        omega) (Int.le_of_lt (Int.pow_pos (by omega)))
      have : ((2 ^ b : Nat) : Int) = 2 ^ b := by simp
      omega
    · rename_i hge
      have e : a - 1 = b + (((a : Int) - b - 1)).toNat := by omega
      have : x.den * 2 ^ (((a : Int) - b - 1)).toNat ≤ (2 : Int) ^ b * 2 ^ (((a : Int) - b - 1)).toNat := Int.mul_le_mul_of_nonneg_right (by
        have : ((2 ^ b : Nat) : Int) = 2 ^ b := by simp
        omega) (Int.le_of_lt (Int.pow_pos (by omega)))
      rw [← Int.pow_add, ← e] at this
      have : ((2 ^ (a - 1) : Nat) : Int) = 2 ^ (a - 1) := by simp
      omega
/-- .. by order -/
theorem flog_le {x : Rat} (h : 0 < x) {t : Int} : (2 : Rat) ^ t ≤ x ↔ t ≤ flog x := by
  obtain ⟨h1, h2⟩ := flog_spec h
  constructor
  · intro ht
    apply Int.not_lt.mp
    intro z
    have := zpow2_mono (s := flog x + 1) (t := t) (by omega)
    grind
  · intro ht
    exact Rat.le_trans (zpow2_mono ht) h1
end DL
set_option maxHeartbeats 4000000
/-! DL, part 26: the functions of fractions walked. -/
namespace DL
open PySem PySem.Spec PyProof.Rows L2
theorem divInt_add (x y : Rat) : Rat.divInt (x.num * y.den + y.num * x.den) (x.den * y.den) = x + y := by
  rw [Rat.add_def', ← Rat.divInt_ofNat, Int.natCast_mul]
theorem divInt_sub (x y : Rat) : Rat.divInt (x.num * y.den - y.num * x.den) (x.den * y.den) = x - y := by
  rw [Rat.sub_def', ← Rat.divInt_ofNat, Int.natCast_mul]
theorem divInt_mul (x y : Rat) : Rat.divInt (x.num * y.num) (x.den * y.den) = x * y := by
  rw [Rat.mul_def', ← Rat.divInt_ofNat, Int.natCast_mul]
theorem divInt_dv (x y : Rat) : Rat.divInt (x.num * y.den) (x.den * y.num) = x / y := by
  rw [Rat.div_def, Rat.inv_def, ← Rat.divInt_mul_divInt, Rat.num_divInt_den]
theorem den_ne (x y : Rat) : (x.den : Int) * y.den ≠ 0 := Int.ne_of_gt (Int.mul_pos (den_pos x) (den_pos y))
theorem num_ne {x : Rat} (h : x ≠ 0) : x.num ≠ 0 := fun e => h (Rat.num_eq_zero.mp e)
theorem num_eq0 {x : Rat} : x.num = 0 ↔ x = 0 := Rat.num_eq_zero
/-- added, taken_off, multiplied, divided -/
noncomputable def addedB (F : List D → FRes) : SDen :=
 sRet (dCall F [dApp oAdd [dApp oMul [dApp oIx [dVar 0, dC (.int 0)], dApp oIx [dVar 1, dC (.int 1)]], dApp oMul [dApp oIx [dVar 1, dC (.int 0)], dApp oIx [dVar 0, dC (.int 1)]]], dApp oMul [dApp oIx [dVar 0, dC (.int 1)], dApp oIx [dVar 1, dC (.int 1)]]])
noncomputable def takenB (F : List D → FRes) : SDen :=
 sRet (dCall F [dApp oSub [dApp oMul [dApp oIx [dVar 0, dC (.int 0)], dApp oIx [dVar 1, dC (.int 1)]], dApp oMul [dApp oIx [dVar 1, dC (.int 0)], dApp oIx [dVar 0, dC (.int 1)]]], dApp oMul [dApp oIx [dVar 0, dC (.int 1)], dApp oIx [dVar 1, dC (.int 1)]]])
noncomputable def multB (F : List D → FRes) : SDen :=
 sRet (dCall F [dApp oMul [dApp oIx [dVar 0, dC (.int 0)], dApp oIx [dVar 1, dC (.int 0)]], dApp oMul [dApp oIx [dVar 0, dC (.int 1)], dApp oIx [dVar 1, dC (.int 1)]]])
noncomputable def dividedB (F : List D → FRes) : SDen :=
 sSeq (sIf (dBool (dApp oEq [dApp oIx [dVar 1, dC (.int 0)], dC (.int 0)]))
 (sBad)
 (sNext))
 (sRet (dCall F [dApp oMul [dApp oIx [dVar 0, dC (.int 0)], dApp oIx [dVar 1, dC (.int 1)]], dApp oMul [dApp oIx [dVar 0, dC (.int 1)], dApp oIx [dVar 1, dC (.int 0)]]]))
def Fit (x y : Rat) : Prop := nb x.den + nb y.den ≤ 9000 ∧ rb x + rb y ≤ 50000000
def FitD (x y : Rat) : Prop := nb x.den + nb y.num.natAbs ≤ 9000 ∧ rb x + rb y ≤ 50000000
abbrev AddedE (A : List D → FRes) : Prop := ∀ x y : Rat, Fit x y → A [fr x, fr y] = .ok (.d (fr (x + y))) none
abbrev TakenE (A : List D → FRes) : Prop := ∀ x y : Rat, Fit x y → A [fr x, fr y] = .ok (.d (fr (x - y))) none
abbrev MultE (A : List D → FRes) : Prop := ∀ x y : Rat, Fit x y → A [fr x, fr y] = .ok (.d (fr (x * y))) none
abbrev DividedE (A : List D → FRes) : Prop := ∀ x y : Rat, y ≠ 0 → FitD x y → A [fr x, fr y] = .ok (.d (fr (x / y))) none
section
variable {F : List D → FRes} (hF : FractionE F)
include hF
theorem added_e : AddedE (runFn 2 2 false (addedB F)) := by
  intro x y h
  obtain ⟨hd, h⟩ := h
  have x1 := rb_num x
  have x2 := rb_den x
  have y1 := rb_num y
  have y2 := rb_den y
  have m := nb_mul x.den y.den
  refine eq_of_w (w_run0 rfl ?_)
  show wS (addedB F [Sl.val (fr x), .val (fr y)]) _
  unfold addedB
  simp (disch := first | assumption | omega | (simp only [Int.natAbs_natCast]; omega)) only [↓w_var, ↓wVar_val, ↓wVar_own, ↓w_c, ↓w_nil, ↓w_cons, ↓w_app, ↓wViews_nil, ↓wViews_cons, ↓wView_d, ↓wView_fresh, ↓wView_plc, ↓wSlot_val, ↓wSlot_own, ↓wEsc_d, ↓wEsc_fresh, ↓wEsc_plc, ↓wEscS_val, ↓wEscS_own, ↓wEscs_nil, ↓wEscs_cons, ↓w_frz, ↓w_tup, ↓w_lst, ↓w_bool, ↓w_tru, ↓w_notT, ↓w_andT, ↓w_orT, ↓w_if, ↓w_and, ↓w_or, ↓w_not, ↓w_chain, ↓wB_bl, ↓w_noPart, ↓w_part, ↓w_slice, ↓w_call, ↓wPlc_cons, ↓wOwn_own, ↓w_callIo, ↓isLst_lst, ↓w_meth, ↓w_ext, ↓wExt_ok, ↓ws_next, ↓ws_bk, ↓ws_ct, ↓ws_rt, ↓ws_nx, ↓ws_seq, ↓ws_drop, ↓ws_ret, ↓ws_if, ↓ws_set, ↓wSet_d, ↓wSet_fresh, ↓wSet_plc, ↓ws_asg, ↓wt_name, ↓wt_nil, ↓wt_cons, ↓wt_tup, ↓wt_lst, ↓wPar_two, ↓ws_par, ↓wLstS_own, ↓wInt_int, ↓ws_item, ↓ws_for, ↓w_zip, ↓w_iter, ↓wItems_lst, ↓wItems_tup, ↓w_rng, ↓wRet_d, ↓wRet_fresh, ↓wRet_plc, ↓wRetS_val, ↓wRetS_own, ↓wRetS_ownS, ↓wI_some, ↓wI_none, ↓wI_ite, List.getElem?_cons_zero, List.getElem?_cons_succ, List.set_cons_zero, List.set_cons_succ, fr_ix0, fr_ix1, o_mulN, o_add]
  rw [hF _ _ (den_ne x y) (by rw [Int.natAbs_mul]; simp only [Int.natAbs_natCast]; omega), divInt_add]
  simp only [wF0_ok, ↓w_var, ↓wVar_val, ↓wVar_own, ↓w_c, ↓w_nil, ↓w_cons, ↓w_app, ↓wViews_nil, ↓wViews_cons, ↓wView_d, ↓wView_fresh, ↓wView_plc, ↓wSlot_val, ↓wSlot_own, ↓wEsc_d, ↓wEsc_fresh, ↓wEsc_plc, ↓wEscS_val, ↓wEscS_own, ↓wEscs_nil, ↓wEscs_cons, ↓w_frz, ↓w_tup, ↓w_lst, ↓w_bool, ↓w_tru, ↓w_notT, ↓w_andT, ↓w_orT, ↓w_if, ↓w_and, ↓w_or, ↓w_not, ↓w_chain, ↓wB_bl, ↓w_noPart, ↓w_part, ↓w_slice, ↓w_call, ↓wPlc_cons, ↓wOwn_own, ↓w_callIo, ↓isLst_lst, ↓w_meth, ↓w_ext, ↓wExt_ok, ↓ws_next, ↓ws_bk, ↓ws_ct, ↓ws_rt, ↓ws_nx, ↓ws_seq, ↓ws_drop, ↓ws_ret, ↓ws_if, ↓ws_set, ↓wSet_d, ↓wSet_fresh, ↓wSet_plc, ↓ws_asg, ↓wt_name, ↓wt_nil, ↓wt_cons, ↓wt_tup, ↓wt_lst, ↓wPar_two, ↓ws_par, ↓wLstS_own, ↓wInt_int, ↓ws_item, ↓ws_for, ↓w_zip, ↓w_iter, ↓wItems_lst, ↓wItems_tup, ↓w_rng, ↓wRet_d, ↓wRet_fresh, ↓wRet_plc, ↓wRetS_val, ↓wRetS_own, ↓wRetS_ownS, ↓wI_some, ↓wI_none, ↓wI_ite, List.getElem?_cons_zero, List.getElem?_cons_succ, List.set_cons_zero, List.set_cons_succ]
theorem taken_e : TakenE (runFn 2 2 false (takenB F)) := by
  intro x y h
  obtain ⟨hd, h⟩ := h
  have x1 := rb_num x
  have x2 := rb_den x
  have y1 := rb_num y
  have y2 := rb_den y
  have m := nb_mul x.den y.den
  refine eq_of_w (w_run0 rfl ?_)
  show wS (takenB F [Sl.val (fr x), .val (fr y)]) _
  unfold takenB
  simp (disch := first | assumption | omega | (simp only [Int.natAbs_natCast]; omega)) only [↓w_var, ↓wVar_val, ↓wVar_own, ↓w_c, ↓w_nil, ↓w_cons, ↓w_app, ↓wViews_nil, ↓wViews_cons, ↓wView_d, ↓wView_fresh, ↓wView_plc, ↓wSlot_val, ↓wSlot_own, ↓wEsc_d, ↓wEsc_fresh, ↓wEsc_plc, ↓wEscS_val, ↓wEscS_own, ↓wEscs_nil, ↓wEscs_cons, ↓w_frz, ↓w_tup, ↓w_lst, ↓w_bool, ↓w_tru, ↓w_notT, ↓w_andT, ↓w_orT, ↓w_if, ↓w_and, ↓w_or, ↓w_not, ↓w_chain, ↓wB_bl, ↓w_noPart, ↓w_part, ↓w_slice, ↓w_call, ↓wPlc_cons, ↓wOwn_own, ↓w_callIo, ↓isLst_lst, ↓w_meth, ↓w_ext, ↓wExt_ok, ↓ws_next, ↓ws_bk, ↓ws_ct, ↓ws_rt, ↓ws_nx, ↓ws_seq, ↓ws_drop, ↓ws_ret, ↓ws_if, ↓ws_set, ↓wSet_d, ↓wSet_fresh, ↓wSet_plc, ↓ws_asg, ↓wt_name, ↓wt_nil, ↓wt_cons, ↓wt_tup, ↓wt_lst, ↓wPar_two, ↓ws_par, ↓wLstS_own, ↓wInt_int, ↓ws_item, ↓ws_for, ↓w_zip, ↓w_iter, ↓wItems_lst, ↓wItems_tup, ↓w_rng, ↓wRet_d, ↓wRet_fresh, ↓wRet_plc, ↓wRetS_val, ↓wRetS_own, ↓wRetS_ownS, ↓wI_some, ↓wI_none, ↓wI_ite, List.getElem?_cons_zero, List.getElem?_cons_succ, List.set_cons_zero, List.set_cons_succ, fr_ix0, fr_ix1, o_mulN, o_sub]
  rw [hF _ _ (den_ne x y) (by rw [Int.natAbs_mul]; simp only [Int.natAbs_natCast]; omega), divInt_sub]
  simp only [wF0_ok, ↓w_var, ↓wVar_val, ↓wVar_own, ↓w_c, ↓w_nil, ↓w_cons, ↓w_app, ↓wViews_nil, ↓wViews_cons, ↓wView_d, ↓wView_fresh, ↓wView_plc, ↓wSlot_val, ↓wSlot_own, ↓wEsc_d, ↓wEsc_fresh, ↓wEsc_plc, ↓wEscS_val, ↓wEscS_own, ↓wEscs_nil, ↓wEscs_cons, ↓w_frz, ↓w_tup, ↓w_lst, ↓w_bool, ↓w_tru, ↓w_notT, ↓w_andT, ↓w_orT, ↓w_if, ↓w_and, ↓w_or, ↓w_not, ↓w_chain, ↓wB_bl, ↓w_noPart, ↓w_part, ↓w_slice, ↓w_call, ↓wPlc_cons, ↓wOwn_own, ↓w_callIo, ↓isLst_lst, ↓w_meth, ↓w_ext, ↓wExt_ok, ↓ws_next, ↓ws_bk, ↓ws_ct, ↓ws_rt, ↓ws_nx, ↓ws_seq, ↓ws_drop, ↓ws_ret, ↓ws_if, ↓ws_set, ↓wSet_d, ↓wSet_fresh, ↓wSet_plc, ↓ws_asg, ↓wt_name, ↓wt_nil, ↓wt_cons, ↓wt_tup, ↓wt_lst, ↓wPar_two, ↓ws_par, ↓wLstS_own, ↓wInt_int, ↓ws_item, ↓ws_for, ↓w_zip, ↓w_iter, ↓wItems_lst, ↓wItems_tup, ↓w_rng, ↓wRet_d, ↓wRet_fresh, ↓wRet_plc, ↓wRetS_val, ↓wRetS_own, ↓wRetS_ownS, ↓wI_some, ↓wI_none, ↓wI_ite, List.getElem?_cons_zero, List.getElem?_cons_succ, List.set_cons_zero, List.set_cons_succ]
theorem mult_e : MultE (runFn 2 2 false (multB F)) := by
  intro x y h
  obtain ⟨hd, h⟩ := h
  have x1 := rb_num x
  have x2 := rb_den x
  have y1 := rb_num y
  have y2 := rb_den y
  have m := nb_mul x.den y.den
  refine eq_of_w (w_run0 rfl ?_)
  show wS (multB F [Sl.val (fr x), .val (fr y)]) _
  unfold multB
  simp (disch := first | assumption | omega | (simp only [Int.natAbs_natCast]; omega)) only [↓w_var, ↓wVar_val, ↓wVar_own, ↓w_c, ↓w_nil, ↓w_cons, ↓w_app, ↓wViews_nil, ↓wViews_cons, ↓wView_d, ↓wView_fresh, ↓wView_plc, ↓wSlot_val, ↓wSlot_own, ↓wEsc_d, ↓wEsc_fresh, ↓wEsc_plc, ↓wEscS_val, ↓wEscS_own, ↓wEscs_nil, ↓wEscs_cons, ↓w_frz, ↓w_tup, ↓w_lst, ↓w_bool, ↓w_tru, ↓w_notT, ↓w_andT, ↓w_orT, ↓w_if, ↓w_and, ↓w_or, ↓w_not, ↓w_chain, ↓wB_bl, ↓w_noPart, ↓w_part, ↓w_slice, ↓w_call, ↓wPlc_cons, ↓wOwn_own, ↓w_callIo, ↓isLst_lst, ↓w_meth, ↓w_ext, ↓wExt_ok, ↓ws_next, ↓ws_bk, ↓ws_ct, ↓ws_rt, ↓ws_nx, ↓ws_seq, ↓ws_drop, ↓ws_ret, ↓ws_if, ↓ws_set, ↓wSet_d, ↓wSet_fresh, ↓wSet_plc, ↓ws_asg, ↓wt_name, ↓wt_nil, ↓wt_cons, ↓wt_tup, ↓wt_lst, ↓wPar_two, ↓ws_par, ↓wLstS_own, ↓wInt_int, ↓ws_item, ↓ws_for, ↓w_zip, ↓w_iter, ↓wItems_lst, ↓wItems_tup, ↓w_rng, ↓wRet_d, ↓wRet_fresh, ↓wRet_plc, ↓wRetS_val, ↓wRetS_own, ↓wRetS_ownS, ↓wI_some, ↓wI_none, ↓wI_ite, List.getElem?_cons_zero, List.getElem?_cons_succ, List.set_cons_zero, List.set_cons_succ, fr_ix0, fr_ix1, o_mulN, o_add]
  rw [hF _ _ (den_ne x y) (by rw [Int.natAbs_mul]; simp only [Int.natAbs_natCast]; omega), divInt_mul]
  simp only [wF0_ok, ↓w_var, ↓wVar_val, ↓wVar_own, ↓w_c, ↓w_nil, ↓w_cons, ↓w_app, ↓wViews_nil, ↓wViews_cons, ↓wView_d, ↓wView_fresh, ↓wView_plc, ↓wSlot_val, ↓wSlot_own, ↓wEsc_d, ↓wEsc_fresh, ↓wEsc_plc, ↓wEscS_val, ↓wEscS_own, ↓wEscs_nil, ↓wEscs_cons, ↓w_frz, ↓w_tup, ↓w_lst, ↓w_bool, ↓w_tru, ↓w_notT, ↓w_andT, ↓w_orT, ↓w_if, ↓w_and, ↓w_or, ↓w_not, ↓w_chain, ↓wB_bl, ↓w_noPart, ↓w_part, ↓w_slice, ↓w_call, ↓wPlc_cons, ↓wOwn_own, ↓w_callIo, ↓isLst_lst, ↓w_meth, ↓w_ext, ↓wExt_ok, ↓ws_next, ↓ws_bk, ↓ws_ct, ↓ws_rt, ↓ws_nx, ↓ws_seq, ↓ws_drop, ↓ws_ret, ↓ws_if, ↓ws_set, ↓wSet_d, ↓wSet_fresh, ↓wSet_plc, ↓ws_asg, ↓wt_name, ↓wt_nil, ↓wt_cons, ↓wt_tup, ↓wt_lst, ↓wPar_two, ↓ws_par, ↓wLstS_own, ↓wInt_int, ↓ws_item, ↓ws_for, ↓w_zip, ↓w_iter, ↓wItems_lst, ↓wItems_tup, ↓w_rng, ↓wRet_d, ↓wRet_fresh, ↓wRet_plc, ↓wRetS_val, ↓wRetS_own, ↓wRetS_ownS, ↓wI_some, ↓wI_none, ↓wI_ite, List.getElem?_cons_zero, List.getElem?_cons_succ, List.set_cons_zero, List.set_cons_succ]
theorem divided_e : DividedE (runFn 2 2 false (dividedB F)) := by
  intro x y hy h
  obtain ⟨hd, h⟩ := h
  have x1 := rb_num x
  have x2 := rb_den x
  have y1 := rb_num y
  have y2 := rb_den y
  have m := nb_imul x.den y.num
  have hy' := num_ne hy
  rw [Int.natAbs_natCast] at m
  refine eq_of_w (w_run0 rfl ?_)
  show wS (dividedB F [Sl.val (fr x), .val (fr y)]) _
  unfold dividedB
  simp (disch := first | assumption | omega | (simp only [Int.natAbs_natCast]; omega)) only [↓w_var, ↓wVar_val, ↓wVar_own, ↓w_c, ↓w_nil, ↓w_cons, ↓w_app, ↓wViews_nil, ↓wViews_cons, ↓wView_d, ↓wView_fresh, ↓wView_plc, ↓wSlot_val, ↓wSlot_own, ↓wEsc_d, ↓wEsc_fresh, ↓wEsc_plc, ↓wEscS_val, ↓wEscS_own, ↓wEscs_nil, ↓wEscs_cons, ↓w_frz, ↓w_tup, ↓w_lst, ↓w_bool, ↓w_tru, ↓w_notT, ↓w_andT, ↓w_orT, ↓w_if, ↓w_and, ↓w_or, ↓w_not, ↓w_chain, ↓wB_bl, ↓w_noPart, ↓w_part, ↓w_slice, ↓w_call, ↓wPlc_cons, ↓wOwn_own, ↓w_callIo, ↓isLst_lst, ↓w_meth, ↓w_ext, ↓wExt_ok, ↓ws_next, ↓ws_bk, ↓ws_ct, ↓ws_rt, ↓ws_nx, ↓ws_seq, ↓ws_drop, ↓ws_ret, ↓ws_if, ↓ws_set, ↓wSet_d, ↓wSet_fresh, ↓wSet_plc, ↓ws_asg, ↓wt_name, ↓wt_nil, ↓wt_cons, ↓wt_tup, ↓wt_lst, ↓wPar_two, ↓ws_par, ↓wLstS_own, ↓wInt_int, ↓ws_item, ↓ws_for, ↓w_zip, ↓w_iter, ↓wItems_lst, ↓wItems_tup, ↓w_rng, ↓wRet_d, ↓wRet_fresh, ↓wRet_plc, ↓wRetS_val, ↓wRetS_own, ↓wRetS_ownS, ↓wI_some, ↓wI_none, ↓wI_ite, List.getElem?_cons_zero, List.getElem?_cons_succ, List.set_cons_zero, List.set_cons_succ, fr_ix0, fr_ix1, o_mulN, o_eqI, decide_eq_true_eq, hy', ↓reduceIte]
  rw [hF _ _ (Int.mul_ne_zero (Int.ne_of_gt (den_pos x)) hy') (by omega), divInt_dv]
  simp only [wF0_ok, ↓w_var, ↓wVar_val, ↓wVar_own, ↓w_c, ↓w_nil, ↓w_cons, ↓w_app, ↓wViews_nil, ↓wViews_cons, ↓wView_d, ↓wView_fresh, ↓wView_plc, ↓wSlot_val, ↓wSlot_own, ↓wEsc_d, ↓wEsc_fresh, ↓wEsc_plc, ↓wEscS_val, ↓wEscS_own, ↓wEscs_nil, ↓wEscs_cons, ↓w_frz, ↓w_tup, ↓w_lst, ↓w_bool, ↓w_tru, ↓w_notT, ↓w_andT, ↓w_orT, ↓w_if, ↓w_and, ↓w_or, ↓w_not, ↓w_chain, ↓wB_bl, ↓w_noPart, ↓w_part, ↓w_slice, ↓w_call, ↓wPlc_cons, ↓wOwn_own, ↓w_callIo, ↓isLst_lst, ↓w_meth, ↓w_ext, ↓wExt_ok, ↓ws_next, ↓ws_bk, ↓ws_ct, ↓ws_rt, ↓ws_nx, ↓ws_seq, ↓ws_drop, ↓ws_ret, ↓ws_if, ↓ws_set, ↓wSet_d, ↓wSet_fresh, ↓wSet_plc, ↓ws_asg, ↓wt_name, ↓wt_nil, ↓wt_cons, ↓wt_tup, ↓wt_lst, ↓wPar_two, ↓ws_par, ↓wLstS_own, ↓wInt_int, ↓ws_item, ↓ws_for, ↓w_zip, ↓w_iter, ↓wItems_lst, ↓wItems_tup, ↓w_rng, ↓wRet_d, ↓wRet_fresh, ↓wRet_plc, ↓wRetS_val, ↓wRetS_own, ↓wRetS_ownS, ↓wI_some, ↓wI_none, ↓wI_ite, List.getElem?_cons_zero, List.getElem?_cons_succ, List.set_cons_zero, List.set_cons_succ]
end
/-- which -/
noncomputable def whichB : SDen :=
 sSeq (sSet 2 (dApp oMul [dApp oIx [dVar 0, dC (.int 0)], dApp oIx [dVar 1, dC (.int 1)]]))
 (sSeq (sSet 3 (dApp oMul [dApp oIx [dVar 1, dC (.int 0)], dApp oIx [dVar 0, dC (.int 1)]]))
 (sRet (dApp oSub [dApp oInt [dApp oGt [dVar 2, dVar 3]], dApp oInt [dApp oLtI [dVar 2, dVar 3]]])))
def wh (x y : Rat) : Int := if y < x then 1 else if x < y then -1 else 0
abbrev WhichE (A : List D → FRes) : Prop := ∀ x y : Rat, rb x + rb y ≤ 50000000 → A [fr x, fr y] = .ok (.d (.int (wh x y))) none
theorem which_e : WhichE (runFn 4 2 false whichB) := by
  intro x y h
  have x1 := rb_num x
  have x2 := rb_den x
  have y1 := rb_num y
  have y2 := rb_den y
  refine eq_of_w (w_run0 rfl ?_)
  show wS (whichB [Sl.val (fr x), .val (fr y), .no, .no]) _
  unfold whichB
  simp (disch := first | assumption | omega | (simp only [Int.natAbs_natCast]; omega)) only [↓w_var, ↓wVar_val, ↓wVar_own, ↓w_c, ↓w_nil, ↓w_cons, ↓w_app, ↓wViews_nil, ↓wViews_cons, ↓wView_d, ↓wView_fresh, ↓wView_plc, ↓wSlot_val, ↓wSlot_own, ↓wEsc_d, ↓wEsc_fresh, ↓wEsc_plc, ↓wEscS_val, ↓wEscS_own, ↓wEscs_nil, ↓wEscs_cons, ↓w_frz, ↓w_tup, ↓w_lst, ↓w_bool, ↓w_tru, ↓w_notT, ↓w_andT, ↓w_orT, ↓w_if, ↓w_and, ↓w_or, ↓w_not, ↓w_chain, ↓wB_bl, ↓w_noPart, ↓w_part, ↓w_slice, ↓w_call, ↓wPlc_cons, ↓wOwn_own, ↓w_callIo, ↓isLst_lst, ↓w_meth, ↓w_ext, ↓wExt_ok, ↓ws_next, ↓ws_bk, ↓ws_ct, ↓ws_rt, ↓ws_nx, ↓ws_seq, ↓ws_drop, ↓ws_ret, ↓ws_if, ↓ws_set, ↓wSet_d, ↓wSet_fresh, ↓wSet_plc, ↓ws_asg, ↓wt_name, ↓wt_nil, ↓wt_cons, ↓wt_tup, ↓wt_lst, ↓wPar_two, ↓ws_par, ↓wLstS_own, ↓wInt_int, ↓ws_item, ↓ws_for, ↓w_zip, ↓w_iter, ↓wItems_lst, ↓wItems_tup, ↓w_rng, ↓wRet_d, ↓wRet_fresh, ↓wRet_plc, ↓wRetS_val, ↓wRetS_own, ↓wRetS_ownS, ↓wI_some, ↓wI_none, ↓wI_ite, List.getElem?_cons_zero, List.getElem?_cons_succ, List.set_cons_zero, List.set_cons_succ, fr_ix0, fr_ix1, o_mulN, o_gt, o_lt, o_intB, o_sub]
  have e1 := Rat.lt_iff y x
  have e2 := Rat.lt_iff x y
  unfold wh
  congr 3
  by_cases c1 : y < x
  · have c2 : ¬ x < y := fun z => by grind
    rw [if_pos c1]
    simp only [← e1, ← e2, c1, c2]
    rfl
  · rw [if_neg c1]
    simp only [← e1, ← e2, c1]
    by_cases c2 : x < y
    · rw [if_pos c2, decide_eq_true c2]
      rfl
    · rw [if_neg c2, decide_eq_false c2]
      rfl
/-- power_whole -/
noncomputable def powerB : SDen :=
 sSeq (sSet 2 (dC (.int 1)))
 (sSeq (sSet 3 (dVar 1))
 (sSeq (sWhile (dBool (dApp oGt [dVar 3, dC (.int 0)]))
 (sSeq (sIf (dBool (dApp oEq [dApp oMod [dVar 3, dC (.int 2)], dC (.int 1)]))
 (sSet 2 (dApp oMul [dVar 2, dVar 0]))
 (sNext))
 (sSeq (sSet 0 (dApp oMul [dVar 0, dVar 0]))
 (sSet 3 (dApp oDiv [dVar 3, dC (.int 2)])))))
 (sRet (dVar 2))))
abbrev PowerE (A : List D → FRes) : Prop := ∀ (b : Int) (n : Nat), nb b.natAbs * (2 * n + 2) ≤ 50000000 → A [.int b, .int n] = .ok (.d (.int (b ^ n))) none
theorem nb_pow (b : Int) (n : Nat) : nb (b ^ n).natAbs ≤ nb b.natAbs * n + 1 := by
  induction n with
  | zero =>
    have : nb 1 = 1 := by decide
    simp [this]
  | succ n ih =>
    cases n with
    | zero => simp [Int.pow_succ]
    | succ n =>
      rw [Int.pow_succ]
      have := nb_imul (b ^ (n + 1)) b
      have e : nb b.natAbs * (n + 1 + 1) = nb b.natAbs * (n + 1) + nb b.natAbs := by rw [Nat.mul_succ]
      omega
theorem power_e : PowerE (runFn 4 2 false powerB) := by
  intro b n h
  refine eq_of_w (w_run0 rfl ?_)
  show wS (powerB [Sl.val (.int b), .val (.int n), .no, .no]) _
  unfold powerB
  simp only [↓w_var, ↓wVar_val, ↓wVar_own, ↓w_c, ↓w_nil, ↓w_cons, ↓w_app, ↓wViews_nil, ↓wViews_cons, ↓wView_d, ↓wView_fresh, ↓wView_plc, ↓wSlot_val, ↓wSlot_own, ↓wEsc_d, ↓wEsc_fresh, ↓wEsc_plc, ↓wEscS_val, ↓wEscS_own, ↓wEscs_nil, ↓wEscs_cons, ↓w_frz, ↓w_tup, ↓w_lst, ↓w_bool, ↓w_tru, ↓w_notT, ↓w_andT, ↓w_orT, ↓w_if, ↓w_and, ↓w_or, ↓w_not, ↓w_chain, ↓wB_bl, ↓w_noPart, ↓w_part, ↓w_slice, ↓w_call, ↓wPlc_cons, ↓wOwn_own, ↓w_callIo, ↓isLst_lst, ↓w_meth, ↓w_ext, ↓wExt_ok, ↓ws_next, ↓ws_bk, ↓ws_ct, ↓ws_rt, ↓ws_nx, ↓ws_seq, ↓ws_drop, ↓ws_ret, ↓ws_if, ↓ws_set, ↓wSet_d, ↓wSet_fresh, ↓wSet_plc, ↓ws_asg, ↓wt_name, ↓wt_nil, ↓wt_cons, ↓wt_tup, ↓wt_lst, ↓wPar_two, ↓ws_par, ↓wLstS_own, ↓wInt_int, ↓ws_item, ↓ws_for, ↓w_zip, ↓w_iter, ↓wItems_lst, ↓wItems_tup, ↓w_rng, ↓wRet_d, ↓wRet_fresh, ↓wRet_plc, ↓wRetS_val, ↓wRetS_own, ↓wRetS_ownS, ↓wI_some, ↓wI_none, ↓wI_ite, List.getElem?_cons_zero, List.getElem?_cons_succ, List.set_cons_zero, List.set_cons_succ]
  refine while_inv (fun k ρ => ∃ m a : Nat, ρ = [.val (.int (b ^ m)), .val (.int n), .val (.int (b ^ a)), .val (.int (k : Int))] ∧ 0 < m ∧ m ≤ 2 * n + 1 ∧ a + m * k = n) (n := n) ⟨1, 0, by simp [Int.pow_succ], by omega, by omega, by omega⟩ ?_
  rintro k ρ ⟨m, a, rfl, m0, m1, ha⟩
  simp only [↓w_var, ↓wVar_val, ↓wVar_own, ↓w_c, ↓w_nil, ↓w_cons, ↓w_app, ↓wViews_nil, ↓wViews_cons, ↓wView_d, ↓wView_fresh, ↓wView_plc, ↓wSlot_val, ↓wSlot_own, ↓wEsc_d, ↓wEsc_fresh, ↓wEsc_plc, ↓wEscS_val, ↓wEscS_own, ↓wEscs_nil, ↓wEscs_cons, ↓w_frz, ↓w_tup, ↓w_lst, ↓w_bool, ↓w_tru, ↓w_notT, ↓w_andT, ↓w_orT, ↓w_if, ↓w_and, ↓w_or, ↓w_not, ↓w_chain, ↓wB_bl, ↓w_noPart, ↓w_part, ↓w_slice, ↓w_call, ↓wPlc_cons, ↓wOwn_own, ↓w_callIo, ↓isLst_lst, ↓w_meth, ↓w_ext, ↓wExt_ok, ↓ws_next, ↓ws_bk, ↓ws_ct, ↓ws_rt, ↓ws_nx, ↓ws_seq, ↓ws_drop, ↓ws_ret, ↓ws_if, ↓ws_set, ↓wSet_d, ↓wSet_fresh, ↓wSet_plc, ↓ws_asg, ↓wt_name, ↓wt_nil, ↓wt_cons, ↓wt_tup, ↓wt_lst, ↓wPar_two, ↓ws_par, ↓wLstS_own, ↓wInt_int, ↓ws_item, ↓ws_for, ↓w_zip, ↓w_iter, ↓wItems_lst, ↓wItems_tup, ↓w_rng, ↓wRet_d, ↓wRet_fresh, ↓wRet_plc, ↓wRetS_val, ↓wRetS_own, ↓wRetS_ownS, ↓wI_some, ↓wI_none, ↓wI_ite, List.getElem?_cons_zero, List.getElem?_cons_succ, List.set_cons_zero, List.set_cons_succ, o_gt, decide_eq_true_eq]
  by_cases hk : (0 : Int) < k
  · rw [if_pos hk]
    have mk : m ≤ m * k := by
      have := Nat.mul_le_mul_left m (show 1 ≤ k by omega)
      omega
    have big : ∀ j : Nat, j ≤ n → nb (b ^ j).natAbs ≤ 25000001 := fun j hj => by
      have h1 := nb_pow b j
      have h2 := Nat.mul_le_mul_left (nb b.natAbs) hj
      have h3 : nb b.natAbs * (2 * n + 2) = 2 * (nb b.natAbs * n) + 2 * nb b.natAbs := by rw [Nat.mul_add]; rw [Nat.mul_left_comm, Nat.mul_comm _ 2]
      omega
    have bm := big m (by omega)
    have ba := big a (by omega)
    have k2 : ((k : Int)) / 2 = ((k / 2 : Nat) : Int) := by omega
    have mm : b ^ m * b ^ m = b ^ (m + m) := by rw [Int.pow_add]
    have am : b ^ a * b ^ m = b ^ (a + m) := by rw [Int.pow_add]
    have s1 : nb (2 : Int).natAbs ≤ 9000 := by decide
    simp (disch := first | assumption | omega) only [↓w_var, ↓wVar_val, ↓wVar_own, ↓w_c, ↓w_nil, ↓w_cons, ↓w_app, ↓wViews_nil, ↓wViews_cons, ↓wView_d, ↓wView_fresh, ↓wView_plc, ↓wSlot_val, ↓wSlot_own, ↓wEsc_d, ↓wEsc_fresh, ↓wEsc_plc, ↓wEscS_val, ↓wEscS_own, ↓wEscs_nil, ↓wEscs_cons, ↓w_frz, ↓w_tup, ↓w_lst, ↓w_bool, ↓w_tru, ↓w_notT, ↓w_andT, ↓w_orT, ↓w_if, ↓w_and, ↓w_or, ↓w_not, ↓w_chain, ↓wB_bl, ↓w_noPart, ↓w_part, ↓w_slice, ↓w_call, ↓wPlc_cons, ↓wOwn_own, ↓w_callIo, ↓isLst_lst, ↓w_meth, ↓w_ext, ↓wExt_ok, ↓ws_next, ↓ws_bk, ↓ws_ct, ↓ws_rt, ↓ws_nx, ↓ws_seq, ↓ws_drop, ↓ws_ret, ↓ws_if, ↓ws_set, ↓wSet_d, ↓wSet_fresh, ↓wSet_plc, ↓ws_asg, ↓wt_name, ↓wt_nil, ↓wt_cons, ↓wt_tup, ↓wt_lst, ↓wPar_two, ↓ws_par, ↓wLstS_own, ↓wInt_int, ↓ws_item, ↓ws_for, ↓w_zip, ↓w_iter, ↓wItems_lst, ↓wItems_tup, ↓w_rng, ↓wRet_d, ↓wRet_fresh, ↓wRet_plc, ↓wRetS_val, ↓wRetS_own, ↓wRetS_ownS, ↓wI_some, ↓wI_none, ↓wI_ite, List.getElem?_cons_zero, List.getElem?_cons_succ, List.set_cons_zero, List.set_cons_succ, o_modP, o_eqI, decide_eq_true_eq, o_mulN, o_divN, k2, mm, am]
    have e2 : (m + m) * (k / 2) = m * (2 * (k / 2)) := by rw [← Nat.two_mul, Nat.mul_assoc, Nat.mul_left_comm]
    split
    · rename_i h1
      refine ⟨k / 2, by omega, m + m, a + m, rfl, by omega, by omega, ?_⟩
      rw [e2]
      have : 2 * (k / 2) = k - 1 := by omega
      rw [this, Nat.mul_sub, Nat.mul_one]
      omega
    · rename_i h1
      refine ⟨k / 2, by omega, m + m, a, rfl, by omega, by omega, ?_⟩
      rw [e2]
      have : 2 * (k / 2) = k := by omega
      rw [this]
      exact ha
  · rw [if_neg hk]
    have : k = 0 := by omega
    subst this
    rw [Nat.mul_zero, Nat.add_zero] at ha
    rw [ha]
theorem pow_ne {x : Rat} (h : x ≠ 0) (n : Nat) : x ^ n ≠ 0 := by
  induction n with
  | zero =>
    rw [Rat.pow_zero]
    decide
  | succ n ih =>
    rw [Rat.pow_succ]
    intro z
    rcases Rat.mul_eq_zero.mp z with e | e
    · exact ih e
    · exact h e
theorem inv_pow {x : Rat} (h : x ≠ 0) (n : Nat) : x⁻¹ ^ n = (x ^ n)⁻¹ := by
  induction n with
  | zero =>
    rw [Rat.pow_zero, Rat.pow_zero]
    grind
  | succ n ih =>
    rw [Rat.pow_succ, Rat.pow_succ, ih]
    have : x ^ n ≠ 0 := pow_ne h n
    grind
/-- raised -/
noncomputable def raisedB (F P : List D → FRes) : SDen :=
 sSeq (sAsg (dVar 0) (tTupT 2 (tCons' (tName 2) (tCons' (tName 3) (tNil')))))
 (sSeq (sIf (dBool (dApp oLtI [dVar 1, dC (.int 0)]))
 (sSeq (sIf (dBool (dApp oEq [dVar 2, dC (.int 0)]))
 (sBad)
 (sNext))
 (sAsg (dCall F [dVar 3, dVar 2]) (tTupT 2 (tCons' (tName 2) (tCons' (tName 3) (tNil'))))))
 (sNext))
 (sRet (dTup [dCall P [dVar 2, dApp oAbs [dVar 1]], dCall P [dVar 3, dApp oAbs [dVar 1]]])))
abbrev RaisedE (A : List D → FRes) : Prop := ∀ (x : Rat) (n : Int), (0 ≤ n ∨ x ≠ 0) → rb x ≤ 9000 → rb x * (2 * n.natAbs + 2) ≤ 50000000 → A [fr x, .int n] = .ok (.d (fr (x ^ n))) none
theorem fr_pow (x : Rat) (n : Nat) : D.tup [.int (x.num ^ n), .int ((x.den : Int) ^ n)] = fr (x ^ n) := by
  unfold fr
  rw [Rat.pow_def]
  simp
theorem raised_e {F P : List D → FRes} (hF : FractionE F) (hP : PowerE P) : RaisedE (runFn 4 2 false (raisedB F P)) := by
  intro x n hn hx hb
  refine eq_of_w (w_run0 rfl ?_)
  show wS (raisedB F P [Sl.val (fr x), .val (.int n), .no, .no]) _
  unfold raisedB
  have fin : ∀ (y : Rat) (m : Nat), y ^ m = x ^ n → m = n.natAbs → rb y ≤ rb x → wS (sRet (dTup [dCall P [dVar 2, dApp oAbs [dVar 1]], dCall P [dVar 3, dApp oAbs [dVar 1]]]) [Sl.val (fr x), .val (.int n), .val (.int y.num), .val (.int y.den)]) ⟨fun _ => (RV.d D.non) = .d (fr (x ^ n)), fun r ρ => wI (retOf false ρ r) fun r => r = .d (fr (x ^ n)), fun _ => False, fun _ => False, fun _ _ => False⟩ := by
    intro y m e hm hy
    have y1 := rb_num y
    have y2 := rb_den y
    have ea : (if n < 0 then -n else n) = (m : Int) := by split <;> omega
    simp only [↓w_var, ↓wVar_val, ↓wVar_own, ↓w_c, ↓w_nil, ↓w_cons, ↓w_app, ↓wViews_nil, ↓wViews_cons, ↓wView_d, ↓wView_fresh, ↓wView_plc, ↓wSlot_val, ↓wSlot_own, ↓wEsc_d, ↓wEsc_fresh, ↓wEsc_plc, ↓wEscS_val, ↓wEscS_own, ↓wEscs_nil, ↓wEscs_cons, ↓w_frz, ↓w_tup, ↓w_lst, ↓w_bool, ↓w_tru, ↓w_notT, ↓w_andT, ↓w_orT, ↓w_if, ↓w_and, ↓w_or, ↓w_not, ↓w_chain, ↓wB_bl, ↓w_noPart, ↓w_part, ↓w_slice, ↓w_call, ↓wPlc_cons, ↓wOwn_own, ↓w_callIo, ↓isLst_lst, ↓w_meth, ↓w_ext, ↓wExt_ok, ↓ws_next, ↓ws_bk, ↓ws_ct, ↓ws_rt, ↓ws_nx, ↓ws_seq, ↓ws_drop, ↓ws_ret, ↓ws_if, ↓ws_set, ↓wSet_d, ↓wSet_fresh, ↓wSet_plc, ↓ws_asg, ↓wt_name, ↓wt_nil, ↓wt_cons, ↓wt_tup, ↓wt_lst, ↓wPar_two, ↓ws_par, ↓wLstS_own, ↓wInt_int, ↓ws_item, ↓ws_for, ↓w_zip, ↓w_iter, ↓wItems_lst, ↓wItems_tup, ↓w_rng, ↓wRet_d, ↓wRet_fresh, ↓wRet_plc, ↓wRetS_val, ↓wRetS_own, ↓wRetS_ownS, ↓wI_some, ↓wI_none, ↓wI_ite, List.getElem?_cons_zero, List.getElem?_cons_succ, List.set_cons_zero, List.set_cons_succ, o_abs, ea]
    have b1 : nb y.num.natAbs * (2 * m + 2) ≤ 50000000 := Nat.le_trans (Nat.mul_le_mul_right _ (Nat.le_trans y1 hy)) (by rw [hm]; exact hb)
    have b2 : nb ((y.den : Int)).natAbs * (2 * m + 2) ≤ 50000000 := Nat.le_trans (Nat.mul_le_mul_right _ (Nat.le_trans (by rw [Int.natAbs_natCast]; exact y2) hy)) (by rw [hm]; exact hb)
    rw [hP _ _ b1]
    simp only [wF0_ok, ↓w_var, ↓wVar_val, ↓wVar_own, ↓w_c, ↓w_nil, ↓w_cons, ↓w_app, ↓wViews_nil, ↓wViews_cons, ↓wView_d, ↓wView_fresh, ↓wView_plc, ↓wSlot_val, ↓wSlot_own, ↓wEsc_d, ↓wEsc_fresh, ↓wEsc_plc, ↓wEscS_val, ↓wEscS_own, ↓wEscs_nil, ↓wEscs_cons, ↓w_frz, ↓w_tup, ↓w_lst, ↓w_bool, ↓w_tru, ↓w_notT, ↓w_andT, ↓w_orT, ↓w_if, ↓w_and, ↓w_or, ↓w_not, ↓w_chain, ↓wB_bl, ↓w_noPart, ↓w_part, ↓w_slice, ↓w_call, ↓wPlc_cons, ↓wOwn_own, ↓w_callIo, ↓isLst_lst, ↓w_meth, ↓w_ext, ↓wExt_ok, ↓ws_next, ↓ws_bk, ↓ws_ct, ↓ws_rt, ↓ws_nx, ↓ws_seq, ↓ws_drop, ↓ws_ret, ↓ws_if, ↓ws_set, ↓wSet_d, ↓wSet_fresh, ↓wSet_plc, ↓ws_asg, ↓wt_name, ↓wt_nil, ↓wt_cons, ↓wt_tup, ↓wt_lst, ↓wPar_two, ↓ws_par, ↓wLstS_own, ↓wInt_int, ↓ws_item, ↓ws_for, ↓w_zip, ↓w_iter, ↓wItems_lst, ↓wItems_tup, ↓w_rng, ↓wRet_d, ↓wRet_fresh, ↓wRet_plc, ↓wRetS_val, ↓wRetS_own, ↓wRetS_ownS, ↓wI_some, ↓wI_none, ↓wI_ite, List.getElem?_cons_zero, List.getElem?_cons_succ, List.set_cons_zero, List.set_cons_succ, o_abs, ea]
    rw [hP _ _ b2]
    simp only [wF0_ok, ↓w_var, ↓wVar_val, ↓wVar_own, ↓w_c, ↓w_nil, ↓w_cons, ↓w_app, ↓wViews_nil, ↓wViews_cons, ↓wView_d, ↓wView_fresh, ↓wView_plc, ↓wSlot_val, ↓wSlot_own, ↓wEsc_d, ↓wEsc_fresh, ↓wEsc_plc, ↓wEscS_val, ↓wEscS_own, ↓wEscs_nil, ↓wEscs_cons, ↓w_frz, ↓w_tup, ↓w_lst, ↓w_bool, ↓w_tru, ↓w_notT, ↓w_andT, ↓w_orT, ↓w_if, ↓w_and, ↓w_or, ↓w_not, ↓w_chain, ↓wB_bl, ↓w_noPart, ↓w_part, ↓w_slice, ↓w_call, ↓wPlc_cons, ↓wOwn_own, ↓w_callIo, ↓isLst_lst, ↓w_meth, ↓w_ext, ↓wExt_ok, ↓ws_next, ↓ws_bk, ↓ws_ct, ↓ws_rt, ↓ws_nx, ↓ws_seq, ↓ws_drop, ↓ws_ret, ↓ws_if, ↓ws_set, ↓wSet_d, ↓wSet_fresh, ↓wSet_plc, ↓ws_asg, ↓wt_name, ↓wt_nil, ↓wt_cons, ↓wt_tup, ↓wt_lst, ↓wPar_two, ↓ws_par, ↓wLstS_own, ↓wInt_int, ↓ws_item, ↓ws_for, ↓w_zip, ↓w_iter, ↓wItems_lst, ↓wItems_tup, ↓w_rng, ↓wRet_d, ↓wRet_fresh, ↓wRet_plc, ↓wRetS_val, ↓wRetS_own, ↓wRetS_ownS, ↓wI_some, ↓wI_none, ↓wI_ite, List.getElem?_cons_zero, List.getElem?_cons_succ, List.set_cons_zero, List.set_cons_succ]
    rw [fr_pow, e]
  have l2 : (([D.int x.num, D.int x.den] : List D).length == 2) = true := rfl
  have ex : fr x = .tup [.int x.num, .int x.den] := rfl
  refine ws_cut (fun ρ => ρ = [Sl.val (fr x), .val (.int n), .val (.int x.num), .val (.int x.den)]) ?_ ?_
  · rw [ex]
    simp only [↓w_var, ↓wVar_val, ↓wVar_own, ↓w_c, ↓w_nil, ↓w_cons, ↓w_app, ↓wViews_nil, ↓wViews_cons, ↓wView_d, ↓wView_fresh, ↓wView_plc, ↓wSlot_val, ↓wSlot_own, ↓wEsc_d, ↓wEsc_fresh, ↓wEsc_plc, ↓wEscS_val, ↓wEscS_own, ↓wEscs_nil, ↓wEscs_cons, ↓w_frz, ↓w_tup, ↓w_lst, ↓w_bool, ↓w_tru, ↓w_notT, ↓w_andT, ↓w_orT, ↓w_if, ↓w_and, ↓w_or, ↓w_not, ↓w_chain, ↓wB_bl, ↓w_noPart, ↓w_part, ↓w_slice, ↓w_call, ↓wPlc_cons, ↓wOwn_own, ↓w_callIo, ↓isLst_lst, ↓w_meth, ↓w_ext, ↓wExt_ok, ↓ws_next, ↓ws_bk, ↓ws_ct, ↓ws_rt, ↓ws_nx, ↓ws_seq, ↓ws_drop, ↓ws_ret, ↓ws_if, ↓ws_set, ↓wSet_d, ↓wSet_fresh, ↓wSet_plc, ↓ws_asg, ↓wt_name, ↓wt_nil, ↓wt_cons, ↓wt_tup, ↓wt_lst, ↓wPar_two, ↓ws_par, ↓wLstS_own, ↓wInt_int, ↓ws_item, ↓ws_for, ↓w_zip, ↓w_iter, ↓wItems_lst, ↓wItems_tup, ↓w_rng, ↓wRet_d, ↓wRet_fresh, ↓wRet_plc, ↓wRetS_val, ↓wRetS_own, ↓wRetS_ownS, ↓wI_some, ↓wI_none, ↓wI_ite, List.getElem?_cons_zero, List.getElem?_cons_succ, List.set_cons_zero, List.set_cons_succ, l2, ↓reduceIte]
  rintro _ rfl
  by_cases h : n < 0
  · have hx0 : x ≠ 0 := hn.resolve_left (by omega)
    have hxn := num_ne hx0
    refine ws_cut (fun ρ => ρ = [Sl.val (fr x), .val (.int n), .val (.int (x⁻¹).num), .val (.int (x⁻¹).den)]) ?_ ?_
    · simp only [↓w_var, ↓wVar_val, ↓wVar_own, ↓w_c, ↓w_nil, ↓w_cons, ↓w_app, ↓wViews_nil, ↓wViews_cons, ↓wView_d, ↓wView_fresh, ↓wView_plc, ↓wSlot_val, ↓wSlot_own, ↓wEsc_d, ↓wEsc_fresh, ↓wEsc_plc, ↓wEscS_val, ↓wEscS_own, ↓wEscs_nil, ↓wEscs_cons, ↓w_frz, ↓w_tup, ↓w_lst, ↓w_bool, ↓w_tru, ↓w_notT, ↓w_andT, ↓w_orT, ↓w_if, ↓w_and, ↓w_or, ↓w_not, ↓w_chain, ↓wB_bl, ↓w_noPart, ↓w_part, ↓w_slice, ↓w_call, ↓wPlc_cons, ↓wOwn_own, ↓w_callIo, ↓isLst_lst, ↓w_meth, ↓w_ext, ↓wExt_ok, ↓ws_next, ↓ws_bk, ↓ws_ct, ↓ws_rt, ↓ws_nx, ↓ws_seq, ↓ws_drop, ↓ws_ret, ↓ws_if, ↓ws_set, ↓wSet_d, ↓wSet_fresh, ↓wSet_plc, ↓ws_asg, ↓wt_name, ↓wt_nil, ↓wt_cons, ↓wt_tup, ↓wt_lst, ↓wPar_two, ↓ws_par, ↓wLstS_own, ↓wInt_int, ↓ws_item, ↓ws_for, ↓w_zip, ↓w_iter, ↓wItems_lst, ↓wItems_tup, ↓w_rng, ↓wRet_d, ↓wRet_fresh, ↓wRet_plc, ↓wRetS_val, ↓wRetS_own, ↓wRetS_ownS, ↓wI_some, ↓wI_none, ↓wI_ite, List.getElem?_cons_zero, List.getElem?_cons_succ, List.set_cons_zero, List.set_cons_succ, o_lt, h, decide_true, ↓reduceIte, o_eqI, hxn, decide_false, Bool.false_eq_true]
      rw [hF _ _ hxn (by have := rb_num x; omega), ← Rat.inv_def]
      have l3 : (([D.int (x⁻¹).num, D.int (x⁻¹).den] : List D).length == 2) = true := rfl
      have ey : fr (x⁻¹) = .tup [.int (x⁻¹).num, .int (x⁻¹).den] := rfl
      rw [ey]
      simp only [wF0_ok, ↓w_var, ↓wVar_val, ↓wVar_own, ↓w_c, ↓w_nil, ↓w_cons, ↓w_app, ↓wViews_nil, ↓wViews_cons, ↓wView_d, ↓wView_fresh, ↓wView_plc, ↓wSlot_val, ↓wSlot_own, ↓wEsc_d, ↓wEsc_fresh, ↓wEsc_plc, ↓wEscS_val, ↓wEscS_own, ↓wEscs_nil, ↓wEscs_cons, ↓w_frz, ↓w_tup, ↓w_lst, ↓w_bool, ↓w_tru, ↓w_notT, ↓w_andT, ↓w_orT, ↓w_if, ↓w_and, ↓w_or, ↓w_not, ↓w_chain, ↓wB_bl, ↓w_noPart, ↓w_part, ↓w_slice, ↓w_call, ↓wPlc_cons, ↓wOwn_own, ↓w_callIo, ↓isLst_lst, ↓w_meth, ↓w_ext, ↓wExt_ok, ↓ws_next, ↓ws_bk, ↓ws_ct, ↓ws_rt, ↓ws_nx, ↓ws_seq, ↓ws_drop, ↓ws_ret, ↓ws_if, ↓ws_set, ↓wSet_d, ↓wSet_fresh, ↓wSet_plc, ↓ws_asg, ↓wt_name, ↓wt_nil, ↓wt_cons, ↓wt_tup, ↓wt_lst, ↓wPar_two, ↓ws_par, ↓wLstS_own, ↓wInt_int, ↓ws_item, ↓ws_for, ↓w_zip, ↓w_iter, ↓wItems_lst, ↓wItems_tup, ↓w_rng, ↓wRet_d, ↓wRet_fresh, ↓wRet_plc, ↓wRetS_val, ↓wRetS_own, ↓wRetS_ownS, ↓wI_some, ↓wI_none, ↓wI_ite, List.getElem?_cons_zero, List.getElem?_cons_succ, List.set_cons_zero, List.set_cons_succ, l3, ↓reduceIte]
    rintro _ rfl
    refine fin _ n.natAbs ?_ rfl (rb_inv x)
    have : n = -(n.natAbs : Int) := by omega
    conv => rhs; rw [this, Rat.zpow_neg, Rat.zpow_natCast]
    exact inv_pow hx0 _
  · refine ws_cut (fun ρ => ρ = [Sl.val (fr x), .val (.int n), .val (.int x.num), .val (.int x.den)]) ?_ ?_
    · simp only [↓w_var, ↓wVar_val, ↓wVar_own, ↓w_c, ↓w_nil, ↓w_cons, ↓w_app, ↓wViews_nil, ↓wViews_cons, ↓wView_d, ↓wView_fresh, ↓wView_plc, ↓wSlot_val, ↓wSlot_own, ↓wEsc_d, ↓wEsc_fresh, ↓wEsc_plc, ↓wEscS_val, ↓wEscS_own, ↓wEscs_nil, ↓wEscs_cons, ↓w_frz, ↓w_tup, ↓w_lst, ↓w_bool, ↓w_tru, ↓w_notT, ↓w_andT, ↓w_orT, ↓w_if, ↓w_and, ↓w_or, ↓w_not, ↓w_chain, ↓wB_bl, ↓w_noPart, ↓w_part, ↓w_slice, ↓w_call, ↓wPlc_cons, ↓wOwn_own, ↓w_callIo, ↓isLst_lst, ↓w_meth, ↓w_ext, ↓wExt_ok, ↓ws_next, ↓ws_bk, ↓ws_ct, ↓ws_rt, ↓ws_nx, ↓ws_seq, ↓ws_drop, ↓ws_ret, ↓ws_if, ↓ws_set, ↓wSet_d, ↓wSet_fresh, ↓wSet_plc, ↓ws_asg, ↓wt_name, ↓wt_nil, ↓wt_cons, ↓wt_tup, ↓wt_lst, ↓wPar_two, ↓ws_par, ↓wLstS_own, ↓wInt_int, ↓ws_item, ↓ws_for, ↓w_zip, ↓w_iter, ↓wItems_lst, ↓wItems_tup, ↓w_rng, ↓wRet_d, ↓wRet_fresh, ↓wRet_plc, ↓wRetS_val, ↓wRetS_own, ↓wRetS_ownS, ↓wI_some, ↓wI_none, ↓wI_ite, List.getElem?_cons_zero, List.getElem?_cons_succ, List.set_cons_zero, List.set_cons_succ, o_lt, h, decide_false, Bool.false_eq_true, ↓reduceIte]
    rintro _ rfl
    refine fin _ n.natAbs ?_ rfl (Nat.le_refl _)
    have : n = (n.natAbs : Int) := by omega
    conv => rhs; rw [this, Rat.zpow_natCast]
/-- is_above, floor_log, ceil_log -/
noncomputable def isAboveB : SDen :=
 sSeq (sIf (dBool (dApp oLtI [dVar 1, dC (.int 0)]))
 (sRet (dApp oLe [dApp oIx [dVar 0, dC (.int 1)], dApp oShl [dApp oIx [dVar 0, dC (.int 0)], dApp oNeg [dVar 1]]]))
 (sNext))
 (sRet (dApp oLe [dApp oShl [dApp oIx [dVar 0, dC (.int 1)], dVar 1], dApp oIx [dVar 0, dC (.int 0)]]))
abbrev IsAboveE (A : List D → FRes) : Prop := ∀ (x : Rat) (t : Int), rb x + t.natAbs ≤ 100000000 → A [fr x, .int t] = .ok (.d (.bl (decide ((2 : Rat) ^ t ≤ x)))) none
theorem o_shlN {i j : Int} {Q : RV → Prop} (h0 : 0 ≤ j) (h : nb i.natAbs + j.natAbs ≤ 130000000) : wI (oShl [.int i, .int j]) Q = Q (.d (.int (i * 2 ^ j.toNat))) := by
  show wI (if (decide (0 ≤ j) && decide ((Builtin.Int.intBits i : Int) + j ≤ 2 ^ 27)) = true then _ else _) Q = _
  rw [if_pos]
  · rfl
  · have : Builtin.Int.intBits i ≤ nb i.natAbs := by
      unfold Builtin.Int.intBits nb
      split <;> omega
    have e : (2 : Int) ^ 27 = 134217728 := by decide
    rw [decide_eq_true h0, decide_eq_true (by rw [e]; omega)]
    rfl
theorem isAbove_e : IsAboveE (runFn 2 2 false isAboveB) := by
  intro x t h
  have x1 := rb_num x
  have x2 := rb_den x
  refine eq_of_w (w_run0 rfl ?_)
  show wS (isAboveB [Sl.val (fr x), .val (.int t)]) _
  unfold isAboveB
  have e := zpow2_le x t
  by_cases ht : t < 0
  · rw [if_pos ht] at e
    simp (disch := first | assumption | omega | (simp only [Int.natAbs_natCast]; omega)) only [↓w_var, ↓wVar_val, ↓wVar_own, ↓w_c, ↓w_nil, ↓w_cons, ↓w_app, ↓wViews_nil, ↓wViews_cons, ↓wView_d, ↓wView_fresh, ↓wView_plc, ↓wSlot_val, ↓wSlot_own, ↓wEsc_d, ↓wEsc_fresh, ↓wEsc_plc, ↓wEscS_val, ↓wEscS_own, ↓wEscs_nil, ↓wEscs_cons, ↓w_frz, ↓w_tup, ↓w_lst, ↓w_bool, ↓w_tru, ↓w_notT, ↓w_andT, ↓w_orT, ↓w_if, ↓w_and, ↓w_or, ↓w_not, ↓w_chain, ↓wB_bl, ↓w_noPart, ↓w_part, ↓w_slice, ↓w_call, ↓wPlc_cons, ↓wOwn_own, ↓w_callIo, ↓isLst_lst, ↓w_meth, ↓w_ext, ↓wExt_ok, ↓ws_next, ↓ws_bk, ↓ws_ct, ↓ws_rt, ↓ws_nx, ↓ws_seq, ↓ws_drop, ↓ws_ret, ↓ws_if, ↓ws_set, ↓wSet_d, ↓wSet_fresh, ↓wSet_plc, ↓ws_asg, ↓wt_name, ↓wt_nil, ↓wt_cons, ↓wt_tup, ↓wt_lst, ↓wPar_two, ↓ws_par, ↓wLstS_own, ↓wInt_int, ↓ws_item, ↓ws_for, ↓w_zip, ↓w_iter, ↓wItems_lst, ↓wItems_tup, ↓w_rng, ↓wRet_d, ↓wRet_fresh, ↓wRet_plc, ↓wRetS_val, ↓wRetS_own, ↓wRetS_ownS, ↓wI_some, ↓wI_none, ↓wI_ite, List.getElem?_cons_zero, List.getElem?_cons_succ, List.set_cons_zero, List.set_cons_succ, o_lt, ht, decide_true, ↓reduceIte, fr_ix0, fr_ix1, o_neg, o_shlN, o_le]
    rw [decide_eq_decide.mpr e]
  · rw [if_neg ht] at e
    simp (disch := first | assumption | omega | (simp only [Int.natAbs_natCast]; omega)) only [↓w_var, ↓wVar_val, ↓wVar_own, ↓w_c, ↓w_nil, ↓w_cons, ↓w_app, ↓wViews_nil, ↓wViews_cons, ↓wView_d, ↓wView_fresh, ↓wView_plc, ↓wSlot_val, ↓wSlot_own, ↓wEsc_d, ↓wEsc_fresh, ↓wEsc_plc, ↓wEscS_val, ↓wEscS_own, ↓wEscs_nil, ↓wEscs_cons, ↓w_frz, ↓w_tup, ↓w_lst, ↓w_bool, ↓w_tru, ↓w_notT, ↓w_andT, ↓w_orT, ↓w_if, ↓w_and, ↓w_or, ↓w_not, ↓w_chain, ↓wB_bl, ↓w_noPart, ↓w_part, ↓w_slice, ↓w_call, ↓wPlc_cons, ↓wOwn_own, ↓w_callIo, ↓isLst_lst, ↓w_meth, ↓w_ext, ↓wExt_ok, ↓ws_next, ↓ws_bk, ↓ws_ct, ↓ws_rt, ↓ws_nx, ↓ws_seq, ↓ws_drop, ↓ws_ret, ↓ws_if, ↓ws_set, ↓wSet_d, ↓wSet_fresh, ↓wSet_plc, ↓ws_asg, ↓wt_name, ↓wt_nil, ↓wt_cons, ↓wt_tup, ↓wt_lst, ↓wPar_two, ↓ws_par, ↓wLstS_own, ↓wInt_int, ↓ws_item, ↓ws_for, ↓w_zip, ↓w_iter, ↓wItems_lst, ↓wItems_tup, ↓w_rng, ↓wRet_d, ↓wRet_fresh, ↓wRet_plc, ↓wRetS_val, ↓wRetS_own, ↓wRetS_ownS, ↓wI_some, ↓wI_none, ↓wI_ite, List.getElem?_cons_zero, List.getElem?_cons_succ, List.set_cons_zero, List.set_cons_succ, o_lt, ht, decide_false, Bool.false_eq_true, ↓reduceIte, fr_ix0, fr_ix1, o_neg, o_shlN, o_le]
    rw [decide_eq_decide.mpr e]
theorem o_bitsN {i : Int} {Q : RV → Prop} : wI (oBits [.int i]) Q = Q (.d (.int (nbi i))) := id rfl
noncomputable def floorB (A : List D → FRes) : SDen :=
 sSeq (sIf (dBool (dApp oLe [dApp oIx [dVar 0, dC (.int 0)], dC (.int 0)]))
 (sBad)
 (sNext))
 (sSeq (sSet 1 (dApp oSub [dApp oBits [dApp oIx [dVar 0, dC (.int 0)]], dApp oBits [dApp oIx [dVar 0, dC (.int 1)]]]))
 (sRet (dIf (dTru (dCall A [dVar 0, dVar 1])) (dVar 1) (dApp oSub [dVar 1, dC (.int 1)]))))
noncomputable def ceilB (A : List D → FRes) : SDen :=
 sSeq (sIf (dBool (dApp oLe [dApp oIx [dVar 0, dC (.int 0)], dC (.int 0)]))
 (sBad)
 (sNext))
 (sRet (dApp oNeg [dCall A [dTup [dApp oIx [dVar 0, dC (.int 1)], dApp oIx [dVar 0, dC (.int 0)]]]]))
abbrev FloorE (A : List D → FRes) : Prop := ∀ x : Rat, 0 < x → rb x ≤ 10000000 → A [fr x] = .ok (.d (.int (flog x))) none
def clog (x : Rat) : Int := - flog x⁻¹
abbrev CeilE (A : List D → FRes) : Prop := ∀ x : Rat, 0 < x → rb x ≤ 10000000 → A [fr x] = .ok (.d (.int (clog x))) none
theorem nbi_bd (i : Int) : 0 ≤ nbi i ∧ nbi i ≤ nb i.natAbs := by
  unfold nbi Builtin.Int.intBits nb
  split <;> omega
theorem floor_e {A : List D → FRes} (hA : IsAboveE A) : FloorE (runFn 2 1 false (floorB A)) := by
  intro x h hb
  have hn := num_pos h
  have x1 := rb_num x
  have x2 := rb_den x
  have n1 := nbi_bd x.num
  have n2 := nbi_bd x.den
  rw [Int.natAbs_natCast] at n2
  refine eq_of_w (w_run0 rfl ?_)
  show wS (floorB A [Sl.val (fr x), .no]) _
  unfold floorB
  have hn' : ¬ x.num ≤ 0 := by omega
  simp only [↓w_var, ↓wVar_val, ↓wVar_own, ↓w_c, ↓w_nil, ↓w_cons, ↓w_app, ↓wViews_nil, ↓wViews_cons, ↓wView_d, ↓wView_fresh, ↓wView_plc, ↓wSlot_val, ↓wSlot_own, ↓wEsc_d, ↓wEsc_fresh, ↓wEsc_plc, ↓wEscS_val, ↓wEscS_own, ↓wEscs_nil, ↓wEscs_cons, ↓w_frz, ↓w_tup, ↓w_lst, ↓w_bool, ↓w_tru, ↓w_notT, ↓w_andT, ↓w_orT, ↓w_if, ↓w_and, ↓w_or, ↓w_not, ↓w_chain, ↓wB_bl, ↓w_noPart, ↓w_part, ↓w_slice, ↓w_call, ↓wPlc_cons, ↓wOwn_own, ↓w_callIo, ↓isLst_lst, ↓w_meth, ↓w_ext, ↓wExt_ok, ↓ws_next, ↓ws_bk, ↓ws_ct, ↓ws_rt, ↓ws_nx, ↓ws_seq, ↓ws_drop, ↓ws_ret, ↓ws_if, ↓ws_set, ↓wSet_d, ↓wSet_fresh, ↓wSet_plc, ↓ws_asg, ↓wt_name, ↓wt_nil, ↓wt_cons, ↓wt_tup, ↓wt_lst, ↓wPar_two, ↓ws_par, ↓wLstS_own, ↓wInt_int, ↓ws_item, ↓ws_for, ↓w_zip, ↓w_iter, ↓wItems_lst, ↓wItems_tup, ↓w_rng, ↓wRet_d, ↓wRet_fresh, ↓wRet_plc, ↓wRetS_val, ↓wRetS_own, ↓wRetS_ownS, ↓wI_some, ↓wI_none, ↓wI_ite, List.getElem?_cons_zero, List.getElem?_cons_succ, List.set_cons_zero, List.set_cons_succ, fr_ix0, fr_ix1, o_le, hn', decide_false, Bool.false_eq_true, ↓reduceIte, o_bitsN, o_sub]
  rw [hA _ _ (by omega)]
  unfold flog
  simp only [wF0_ok, ↓w_var, ↓wVar_val, ↓wVar_own, ↓w_c, ↓w_nil, ↓w_cons, ↓w_app, ↓wViews_nil, ↓wViews_cons, ↓wView_d, ↓wView_fresh, ↓wView_plc, ↓wSlot_val, ↓wSlot_own, ↓wEsc_d, ↓wEsc_fresh, ↓wEsc_plc, ↓wEscS_val, ↓wEscS_own, ↓wEscs_nil, ↓wEscs_cons, ↓w_frz, ↓w_tup, ↓w_lst, ↓w_bool, ↓w_tru, ↓w_notT, ↓w_andT, ↓w_orT, ↓w_if, ↓w_and, ↓w_or, ↓w_not, ↓w_chain, ↓wB_bl, ↓w_noPart, ↓w_part, ↓w_slice, ↓w_call, ↓wPlc_cons, ↓wOwn_own, ↓w_callIo, ↓isLst_lst, ↓w_meth, ↓w_ext, ↓wExt_ok, ↓ws_next, ↓ws_bk, ↓ws_ct, ↓ws_rt, ↓ws_nx, ↓ws_seq, ↓ws_drop, ↓ws_ret, ↓ws_if, ↓ws_set, ↓wSet_d, ↓wSet_fresh, ↓wSet_plc, ↓ws_asg, ↓wt_name, ↓wt_nil, ↓wt_cons, ↓wt_tup, ↓wt_lst, ↓wPar_two, ↓ws_par, ↓wLstS_own, ↓wInt_int, ↓ws_item, ↓ws_for, ↓w_zip, ↓w_iter, ↓wItems_lst, ↓wItems_tup, ↓w_rng, ↓wRet_d, ↓wRet_fresh, ↓wRet_plc, ↓wRetS_val, ↓wRetS_own, ↓wRetS_ownS, ↓wI_some, ↓wI_none, ↓wI_ite, List.getElem?_cons_zero, List.getElem?_cons_succ, List.set_cons_zero, List.set_cons_succ, tru_bl, decide_eq_true_eq, o_sub]
  split <;> rfl
theorem inv_fr {x : Rat} (h : 0 < x) : D.tup [.int x.den, .int x.num] = fr x⁻¹ := by
  have hn := num_pos h
  unfold fr
  have e1 : (x⁻¹).num = x.den := by
    rw [Rat.num_inv, Int.sign_eq_one_of_pos hn, Int.one_mul]
  have e2 : ((x⁻¹).den : Int) = x.num := by
    rw [Rat.den_inv, if_neg (by omega)]
    omega
  rw [e1, e2]
theorem ceil_e {A : List D → FRes} (hA : FloorE A) : CeilE (runFn 1 1 false (ceilB A)) := by
  intro x h hb
  have hn := num_pos h
  refine eq_of_w (w_run0 rfl ?_)
  show wS (ceilB A [Sl.val (fr x)]) _
  unfold ceilB
  have hn' : ¬ x.num ≤ 0 := by omega
  simp only [↓w_var, ↓wVar_val, ↓wVar_own, ↓w_c, ↓w_nil, ↓w_cons, ↓w_app, ↓wViews_nil, ↓wViews_cons, ↓wView_d, ↓wView_fresh, ↓wView_plc, ↓wSlot_val, ↓wSlot_own, ↓wEsc_d, ↓wEsc_fresh, ↓wEsc_plc, ↓wEscS_val, ↓wEscS_own, ↓wEscs_nil, ↓wEscs_cons, ↓w_frz, ↓w_tup, ↓w_lst, ↓w_bool, ↓w_tru, ↓w_notT, ↓w_andT, ↓w_orT, ↓w_if, ↓w_and, ↓w_or, ↓w_not, ↓w_chain, ↓wB_bl, ↓w_noPart, ↓w_part, ↓w_slice, ↓w_call, ↓wPlc_cons, ↓wOwn_own, ↓w_callIo, ↓isLst_lst, ↓w_meth, ↓w_ext, ↓wExt_ok, ↓ws_next, ↓ws_bk, ↓ws_ct, ↓ws_rt, ↓ws_nx, ↓ws_seq, ↓ws_drop, ↓ws_ret, ↓ws_if, ↓ws_set, ↓wSet_d, ↓wSet_fresh, ↓wSet_plc, ↓ws_asg, ↓wt_name, ↓wt_nil, ↓wt_cons, ↓wt_tup, ↓wt_lst, ↓wPar_two, ↓ws_par, ↓wLstS_own, ↓wInt_int, ↓ws_item, ↓ws_for, ↓w_zip, ↓w_iter, ↓wItems_lst, ↓wItems_tup, ↓w_rng, ↓wRet_d, ↓wRet_fresh, ↓wRet_plc, ↓wRetS_val, ↓wRetS_own, ↓wRetS_ownS, ↓wI_some, ↓wI_none, ↓wI_ite, List.getElem?_cons_zero, List.getElem?_cons_succ, List.set_cons_zero, List.set_cons_succ, fr_ix0, fr_ix1, o_le, hn', decide_false, Bool.false_eq_true, ↓reduceIte]
  rw [inv_fr h, hA _ (Rat.inv_pos.mpr h) (Nat.le_trans (rb_inv x) hb)]
  simp only [wF0_ok, ↓w_var, ↓wVar_val, ↓wVar_own, ↓w_c, ↓w_nil, ↓w_cons, ↓w_app, ↓wViews_nil, ↓wViews_cons, ↓wView_d, ↓wView_fresh, ↓wView_plc, ↓wSlot_val, ↓wSlot_own, ↓wEsc_d, ↓wEsc_fresh, ↓wEsc_plc, ↓wEscS_val, ↓wEscS_own, ↓wEscs_nil, ↓wEscs_cons, ↓w_frz, ↓w_tup, ↓w_lst, ↓w_bool, ↓w_tru, ↓w_notT, ↓w_andT, ↓w_orT, ↓w_if, ↓w_and, ↓w_or, ↓w_not, ↓w_chain, ↓wB_bl, ↓w_noPart, ↓w_part, ↓w_slice, ↓w_call, ↓wPlc_cons, ↓wOwn_own, ↓w_callIo, ↓isLst_lst, ↓w_meth, ↓w_ext, ↓wExt_ok, ↓ws_next, ↓ws_bk, ↓ws_ct, ↓ws_rt, ↓ws_nx, ↓ws_seq, ↓ws_drop, ↓ws_ret, ↓ws_if, ↓ws_set, ↓wSet_d, ↓wSet_fresh, ↓wSet_plc, ↓ws_asg, ↓wt_name, ↓wt_nil, ↓wt_cons, ↓wt_tup, ↓wt_lst, ↓wPar_two, ↓ws_par, ↓wLstS_own, ↓wInt_int, ↓ws_item, ↓ws_for, ↓w_zip, ↓w_iter, ↓wItems_lst, ↓wItems_tup, ↓w_rng, ↓wRet_d, ↓wRet_fresh, ↓wRet_plc, ↓wRetS_val, ↓wRetS_own, ↓wRetS_ownS, ↓wI_some, ↓wI_none, ↓wI_ite, List.getElem?_cons_zero, List.getElem?_cons_succ, List.set_cons_zero, List.set_cons_succ, o_neg]
  rfl
end DL
set_option maxHeartbeats 4000000
/-! DL, part 27: shared functions of laws: draws; a comprehension over draws. -/
namespace DL
open PySem PySem.Spec PyProof.Rows L2
theorem inst {S : (List D → FRes) → Prop} {f g : List D → FRes} (h : ∀ ds, f ds = g ds) (p : S g) : S f := by
  rw [funext h]
  exact p
/-- bounds found by instances: of the whole, of the bottom -/
class RB (x : Rat) (k d : outParam Nat) : Prop where
  le : rb x ≤ k
  dn : nb x.den ≤ d
theorem dn_divInt {p q : Int} {k : Nat} (hk : 0 < k) (hq : nb q.natAbs ≤ k) : nb (Rat.divInt p q).den ≤ k := by
  rw [Rat.den_divInt]
  split
  · have : nb 1 = 1 := by decide
    omega
  · exact Nat.le_trans (nb_div _ _) hq
theorem dn_add (x y : Rat) : nb (x + y).den ≤ nb x.den + nb y.den := by
  rw [Rat.add_def', ← Rat.divInt_ofNat]
  exact dn_divInt (by have := nb_pos x.den; omega) (by rw [Int.natAbs_natCast]; exact nb_mul _ _)
theorem dn_sub (x y : Rat) : nb (x - y).den ≤ nb x.den + nb y.den := by
  have := dn_add x (-y)
  rw [Rat.neg_den] at this
  rw [Rat.sub_eq_add_neg]
  exact this
theorem dn_mul (x y : Rat) : nb (x * y).den ≤ nb x.den + nb y.den := by
  rw [Rat.mul_def', ← Rat.divInt_ofNat]
  exact dn_divInt (by have := nb_pos x.den; omega) (by rw [Int.natAbs_natCast]; exact nb_mul _ _)
theorem dn_inv (x : Rat) : nb x⁻¹.den ≤ nb x.num.natAbs := by
  rw [Rat.inv_def]
  exact dn_divInt (nb_pos _) (Nat.le_refl _)
section
variable {x y : Rat} {k m d e : Nat}
instance [hx : RB x k d] [hy : RB y m e] : RB (x + y) (k + m + 1) (d + e) := ⟨by have := rb_add x y; have := hx.le; have := hy.le; omega, by have := dn_add x y; have := hx.dn; have := hy.dn; omega⟩
instance [hx : RB x k d] [hy : RB y m e] : RB (x - y) (k + m + 1) (d + e) := ⟨by have := rb_sub x y; have := hx.le; have := hy.le; omega, by have := dn_sub x y; have := hx.dn; have := hy.dn; omega⟩
instance [hx : RB x k d] [hy : RB y m e] : RB (x * y) (k + m) (d + e) := ⟨by have := rb_mul x y; have := hx.le; have := hy.le; omega, by have := dn_mul x y; have := hx.dn; have := hy.dn; omega⟩
instance [hx : RB x k d] : RB x⁻¹ k k := ⟨Nat.le_trans (rb_inv x) hx.le, Nat.le_trans (dn_inv x) (Nat.le_trans (rb_num x) hx.le)⟩
instance [hx : RB x k d] [hy : RB y m e] : RB (x / y) (k + m) (d + m) := ⟨by have := rb_dv x y; have := hx.le; have := hy.le; omega, by
  rw [Rat.div_def]
  have := dn_mul x y⁻¹
  have := dn_inv y
  have := hx.dn
  have := rb_num y
  have := hy.le
  omega⟩
instance [hx : RB x k d] : RB (-x) k d := ⟨by rw [rb_neg]; exact hx.le, by rw [Rat.neg_den]; exact hx.dn⟩
instance : RB 0 1 1 := ⟨by decide, by decide⟩
instance : RB 1 1 1 := ⟨by decide, by decide⟩
theorem RB.of {x : Rat} {k : Nat} (h : rb x ≤ k) : RB x k k := ⟨h, Nat.le_trans (rb_den x) h⟩
theorem RB.int {i : Int} {k : Nat} (h : nb i.natAbs ≤ k) : RB (i : Rat) k 1 := ⟨by
  unfold rb
  rw [Rat.num_intCast, Rat.den_intCast]
  have : nb 1 = 1 := by decide
  have := nb_pos i.natAbs
  omega, by
  rw [Rat.den_intCast]
  decide⟩
theorem RB.mono {x : Rat} {k m d e : Nat} (h : RB x k d) (h1 : k ≤ m) (h2 : d ≤ e) : RB x m e := ⟨Nat.le_trans h.le h1, Nat.le_trans h.dn h2⟩
theorem rb2 [hx : RB x k d] [hy : RB y m e] (h : d + e ≤ 9000 ∧ k + m ≤ 50000000 := by omega) : Fit x y := ⟨Nat.le_trans (Nat.add_le_add hx.dn hy.dn) h.1, Nat.le_trans (Nat.add_le_add hx.le hy.le) h.2⟩
theorem rb2d [hx : RB x k d] [hy : RB y m e] (h : d + m ≤ 9000 ∧ k + m ≤ 50000000 := by omega) : FitD x y := ⟨Nat.le_trans (Nat.add_le_add hx.dn (Nat.le_trans (rb_num y) hy.le)) h.1, Nat.le_trans (Nat.add_le_add hx.le hy.le) h.2⟩
theorem rbw {N : Nat} [hx : RB x k d] [hy : RB y m e] (h : k + m ≤ N := by omega) : rb x + rb y ≤ N := Nat.le_trans (Nat.add_le_add hx.le hy.le) h
theorem rb1 {N : Nat} [hx : RB x k d] (h : k ≤ N := by omega) : rb x ≤ N := Nat.le_trans hx.le h
end
theorem rb_pow (x : Rat) (n : Nat) : rb (x ^ n) ≤ rb x * n + 1 := by
  induction n with
  | zero =>
    rw [Rat.pow_zero]
    have : rb 1 = 1 := by decide
    omega
  | succ n ih =>
    cases n with
    | zero =>
      rw [Rat.pow_one]
      omega
    | succ n =>
      rw [Rat.pow_succ]
      have := rb_mul (x ^ (n + 1)) x
      have e : rb x * (n + 1 + 1) = rb x * (n + 1) + rb x := by rw [Nat.mul_succ]
      omega
theorem rb_zpow (x : Rat) (n : Int) : rb (x ^ n) ≤ rb x * n.natAbs + 1 := by
  by_cases h : n < 0
  · have : n = -(n.natAbs : Int) := by omega
    rw [this, Rat.zpow_neg, Rat.zpow_natCast, Int.natAbs_neg, Int.natAbs_natCast]
    exact Nat.le_trans (rb_inv _) (rb_pow x _)
  · have : n = (n.natAbs : Int) := by omega
    rw [this, Rat.zpow_natCast, Int.natAbs_natCast]
    exact rb_pow x _
/-- is_whole, is_fraction -/
abbrev WholeE (F : List D → FRes) : Prop := ∀ d : D, F [d] = .ok (.d (.bl (isW d))) none
theorem whole_e : WholeE (runFn 1 1 false wholeB) := fun d => eq_of_w (whole_spec d _ _ rfl)
abbrev FracE (F : List D → FRes) : Prop := ∀ d : D, F [d] = .ok (.d (.bl (isFr d))) none
theorem WholeE.s {F : List D → FRes} (h : WholeE F) : WholeS F := fun d Q E q => by rw [h d]; exact q
theorem CommonE.s {F : List D → FRes} (h : CommonE F) : CommonS F := fun a b Q E h1 h2 q => by rw [h a b h1 h2]; exact q
theorem frac_e {W C : List D → FRes} (hW : WholeE W) (hC : CommonE C) : FracE (runFn 1 1 false (fracB W C)) := fun d => eq_of_w (frac_spec hW.s hC.s rfl)
theorem isFr_fr (x : Rat) : isFr (fr x) = true := by
  show (decide ((1 : Int) ≤ x.den) && decide ((Int.gcd x.num x.den : Int) = 1)) = true
  have := den_pos x
  have g : Int.gcd x.num x.den = 1 := x.reduced
  rw [decide_eq_true (by omega), g]
  rfl
theorem isFr_ex {d : D} (h : isFr d = true) : ∃ x, d = fr x := by
  unfold isFr at h
  split at h
  · rename_i p q
    rw [Bool.and_eq_true, decide_eq_true_eq, decide_eq_true_eq] at h
    exact ⟨Rat.divInt p q, fr_mk (by omega) (by omega)⟩
  · cases h
theorem rb_le {x : Rat} {k : Nat} (h : rb x ≤ k) {m : Nat} (hm : k ≤ m) : rb x ≤ m := Nat.le_trans h hm
def FeedS (c : List D → FRes) : Prop := ∀ (l : List Int) (Q : RV → Prop) (E : Exn → Prop), l.length ≤ 100 → (∀ f, Fd 0 f → Q (.fresh f)) → wF0 (c [.lst (l.map .int)]) Q E
theorem feed_s : FeedS (runFn 1 1 false feedB) := fun l Q E hl h => feed_spec hl h
def NextS (c : List D → FRes) : Prop := ∀ (b : Nat) (f : D) (m : Int) (Q : RV → D → Prop) (E : Exn → D → Prop), Fd b f → b ≤ 1000000000000 → 0 < m → m < 10 ^ 200 → (∀ r f', Fd (b + 1) f' → 0 ≤ r → r < m → Q (.d (.int r)) f') → wF1 (c [f, .int m]) Q E
theorem next_s : NextS (runFn 6 2 true nextB) := fun b f m Q E hf hb h0 h1 h => next_spec hf hb h0 h1 h
/-- _law_ratio, _law_made: in lowest terms -/
abbrev RatioE (F : List D → FRes) : Prop := ∀ p q : Int, q ≠ 0 → nb q.natAbs ≤ 600 → F [.int p, .int q] = .ok (.d (fr (Rat.divInt p q))) none
theorem nb_of {i : Int} {k : Nat} (hk : 0 < k) (h1 : -(2 ^ k) < i) (h2 : i < 2 ^ k) : nb i.natAbs ≤ k := nb_le (by
  have : ((2 ^ k : Nat) : Int) = 2 ^ k := by simp
  omega) hk
theorem lt_of_nb {i : Int} {k : Nat} (h : nb i.natAbs ≤ k) : -(2 ^ k) < i ∧ i < 2 ^ k := by
  have h1 := Nat.lt_of_lt_of_le (lt_nb i.natAbs) (Nat.pow_le_pow_right (show 0 < 2 by omega) h)
  have : ((2 ^ k : Nat) : Int) = 2 ^ k := by simp
  omega
theorem ratio_e : RatioE (runFn 4 2 false ratioB) := by
  intro p q hq hb
  have := lt_of_nb hb
  refine eq_of_w (ratio_spec hq (by omega) (by omega) ?_)
  rw [fr_divInt hq]
abbrev MadeE (F : List D → FRes) : Prop := ∀ p q : Int, 0 < q → nb q.natAbs ≤ 600 → F [.int p, .int q] = .ok (.d (fr (Rat.divInt p q))) none
theorem made_e : MadeE (runFn 5 2 false madeB) := by
  intro p q hq hb
  have := lt_of_nb hb
  refine eq_of_w (made_spec hq (by omega) ?_)
  rw [fr_made hq]
/-- _law_number -/
noncomputable def numberB (N : List D → FRes) : SDen :=
 sSeq (sSet 1 (dCallIo N [dVar 0, dC (.int 8)]))
 (sSeq (sIf (dBool (dApp oLtI [dVar 1, dC (.int 5)]))
 (sRet (dApp oSub [dCallIo N [dVar 0, dC (.int 13)], dC (.int 6)]))
 (sNext))
 (sSeq (sIf (dBool (dApp oEq [dVar 1, dC (.int 5)]))
 (sRet (dApp oSub [dCallIo N [dVar 0, dC (.int 1999999)], dC (.int 999999)]))
 (sNext))
 (sSeq (sIf (dBool (dApp oEq [dVar 1, dC (.int 6)]))
 (sRet (dApp oMul [dApp oSub [dC (.int 1), dApp oMul [dC (.int 2), dCallIo N [dVar 0, dC (.int 2)]]], dApp oSub [dApp oAdd [dApp oShl [dC (.int 1), dCallIo N [dVar 0, dC (.int 190)]], dCallIo N [dVar 0, dC (.int 3)]], dC (.int 1)]]))
 (sNext))
 (sRet (dApp oMul [dApp oSub [dCallIo N [dVar 0, dC (.int 2000003)], dC (.int 1000001)], dApp oAdd [dApp oPow [dC (.int 10), dC (.int 53)], dCallIo N [dVar 0, dC (.int 1000003)]]])))))
theorem pow53 {Q : RV → Prop} : wI (oPow [.int 10, .int 53]) Q = Q (.d (.int (10 ^ 53))) := id rfl
theorem o_shl1 {Q : RV → Prop} {k : Int} (h : 0 ≤ k) (h2 : k ≤ 1000) : wI (oShl [.int 1, .int k]) Q = Q (.d (.int (1 * 2 ^ k.toNat))) := o_shlN h (by
  have : nb (1 : Int).natAbs = 1 := by decide
  omega)
def NumberS (c : List D → FRes) : Prop := ∀ (b : Nat) (f : D) (Q : RV → D → Prop) (E : Exn → D → Prop), Fd b f → b ≤ 100000000000 → (∀ r f', Fd (b + 4) f' → -(10 ^ 62) < r → r < 10 ^ 62 → Q (.d (.int r)) f') → wF1 (c [f]) Q E
theorem number_s {N : List D → FRes} (next1 : NextS N) : NumberS (runFn 2 1 true (numberB N)) := by
  intro b f Q E hf hb h
  refine w_run1 rfl ?_
  show wS (numberB _ [Sl.own f, .no]) _
  unfold numberB
  simp only [↓w_var, ↓wVar_val, ↓wVar_own, ↓w_c, ↓w_nil, ↓w_cons, ↓w_app, ↓wViews_nil, ↓wViews_cons, ↓wView_d, ↓wView_fresh, ↓wView_plc, ↓wSlot_val, ↓wSlot_own, ↓wEsc_d, ↓wEsc_fresh, ↓wEsc_plc, ↓wEscS_val, ↓wEscS_own, ↓wEscs_nil, ↓wEscs_cons, ↓w_frz, ↓w_tup, ↓w_lst, ↓w_bool, ↓w_tru, ↓w_notT, ↓w_andT, ↓w_orT, ↓w_if, ↓w_and, ↓w_or, ↓w_not, ↓w_chain, ↓wB_bl, ↓w_noPart, ↓w_part, ↓w_slice, ↓w_call, ↓wPlc_cons, ↓wOwn_own, ↓w_callIo, ↓isLst_lst, ↓w_meth, ↓w_ext, ↓wExt_ok, ↓ws_next, ↓ws_bk, ↓ws_ct, ↓ws_rt, ↓ws_nx, ↓ws_seq, ↓ws_drop, ↓ws_ret, ↓ws_if, ↓ws_set, ↓wSet_d, ↓wSet_fresh, ↓wSet_plc, ↓ws_asg, ↓wt_name, ↓wt_nil, ↓wt_cons, ↓wt_tup, ↓wt_lst, ↓wPar_two, ↓ws_par, ↓wLstS_own, ↓wInt_int, ↓ws_item, ↓ws_for, ↓w_zip, ↓w_iter, ↓wItems_lst, ↓wItems_tup, ↓w_rng, ↓wRet_d, ↓wRet_fresh, ↓wRet_plc, ↓wRetS_val, ↓wRetS_own, ↓wRetS_ownS, ↓wI_some, ↓wI_none, ↓wI_ite, List.getElem?_cons_zero, List.getElem?_cons_succ, List.set_cons_zero, List.set_cons_succ]
  refine next1 _ _ _ _ _ hf (by omega) (by omega) (by omega) fun w f1 hf1 w0 w1 => ?_
  simp (disch := first | assumption | omega) only [↓w_var, ↓wVar_val, ↓wVar_own, ↓w_c, ↓w_nil, ↓w_cons, ↓w_app, ↓wViews_nil, ↓wViews_cons, ↓wView_d, ↓wView_fresh, ↓wView_plc, ↓wSlot_val, ↓wSlot_own, ↓wEsc_d, ↓wEsc_fresh, ↓wEsc_plc, ↓wEscS_val, ↓wEscS_own, ↓wEscs_nil, ↓wEscs_cons, ↓w_frz, ↓w_tup, ↓w_lst, ↓w_bool, ↓w_tru, ↓w_notT, ↓w_andT, ↓w_orT, ↓w_if, ↓w_and, ↓w_or, ↓w_not, ↓w_chain, ↓wB_bl, ↓w_noPart, ↓w_part, ↓w_slice, ↓w_call, ↓wPlc_cons, ↓wOwn_own, ↓w_callIo, ↓isLst_lst, ↓w_meth, ↓w_ext, ↓wExt_ok, ↓ws_next, ↓ws_bk, ↓ws_ct, ↓ws_rt, ↓ws_nx, ↓ws_seq, ↓ws_drop, ↓ws_ret, ↓ws_if, ↓ws_set, ↓wSet_d, ↓wSet_fresh, ↓wSet_plc, ↓ws_asg, ↓wt_name, ↓wt_nil, ↓wt_cons, ↓wt_tup, ↓wt_lst, ↓wPar_two, ↓ws_par, ↓wLstS_own, ↓wInt_int, ↓ws_item, ↓ws_for, ↓w_zip, ↓w_iter, ↓wItems_lst, ↓wItems_tup, ↓w_rng, ↓wRet_d, ↓wRet_fresh, ↓wRet_plc, ↓wRetS_val, ↓wRetS_own, ↓wRetS_ownS, ↓wI_some, ↓wI_none, ↓wI_ite, List.getElem?_cons_zero, List.getElem?_cons_succ, List.set_cons_zero, List.set_cons_succ, o_lt, o_eqI, decide_eq_true_eq]
  split
  · refine next1 _ _ _ _ _ hf1 (by omega) (by omega) (by omega) fun r f2 hf2 r0 r1 => ?_
    simp only [↓w_var, ↓wVar_val, ↓wVar_own, ↓w_c, ↓w_nil, ↓w_cons, ↓w_app, ↓wViews_nil, ↓wViews_cons, ↓wView_d, ↓wView_fresh, ↓wView_plc, ↓wSlot_val, ↓wSlot_own, ↓wEsc_d, ↓wEsc_fresh, ↓wEsc_plc, ↓wEscS_val, ↓wEscS_own, ↓wEscs_nil, ↓wEscs_cons, ↓w_frz, ↓w_tup, ↓w_lst, ↓w_bool, ↓w_tru, ↓w_notT, ↓w_andT, ↓w_orT, ↓w_if, ↓w_and, ↓w_or, ↓w_not, ↓w_chain, ↓wB_bl, ↓w_noPart, ↓w_part, ↓w_slice, ↓w_call, ↓wPlc_cons, ↓wOwn_own, ↓w_callIo, ↓isLst_lst, ↓w_meth, ↓w_ext, ↓wExt_ok, ↓ws_next, ↓ws_bk, ↓ws_ct, ↓ws_rt, ↓ws_nx, ↓ws_seq, ↓ws_drop, ↓ws_ret, ↓ws_if, ↓ws_set, ↓wSet_d, ↓wSet_fresh, ↓wSet_plc, ↓ws_asg, ↓wt_name, ↓wt_nil, ↓wt_cons, ↓wt_tup, ↓wt_lst, ↓wPar_two, ↓ws_par, ↓wLstS_own, ↓wInt_int, ↓ws_item, ↓ws_for, ↓w_zip, ↓w_iter, ↓wItems_lst, ↓wItems_tup, ↓w_rng, ↓wRet_d, ↓wRet_fresh, ↓wRet_plc, ↓wRetS_val, ↓wRetS_own, ↓wRetS_ownS, ↓wI_some, ↓wI_none, ↓wI_ite, List.getElem?_cons_zero, List.getElem?_cons_succ, List.set_cons_zero, List.set_cons_succ, o_sub]
    exact h _ _ (hf2.mono (by omega)) (by omega) (by omega)
  · split
    · refine next1 _ _ _ _ _ hf1 (by omega) (by omega) (by omega) fun r f2 hf2 r0 r1 => ?_
      simp only [↓w_var, ↓wVar_val, ↓wVar_own, ↓w_c, ↓w_nil, ↓w_cons, ↓w_app, ↓wViews_nil, ↓wViews_cons, ↓wView_d, ↓wView_fresh, ↓wView_plc, ↓wSlot_val, ↓wSlot_own, ↓wEsc_d, ↓wEsc_fresh, ↓wEsc_plc, ↓wEscS_val, ↓wEscS_own, ↓wEscs_nil, ↓wEscs_cons, ↓w_frz, ↓w_tup, ↓w_lst, ↓w_bool, ↓w_tru, ↓w_notT, ↓w_andT, ↓w_orT, ↓w_if, ↓w_and, ↓w_or, ↓w_not, ↓w_chain, ↓wB_bl, ↓w_noPart, ↓w_part, ↓w_slice, ↓w_call, ↓wPlc_cons, ↓wOwn_own, ↓w_callIo, ↓isLst_lst, ↓w_meth, ↓w_ext, ↓wExt_ok, ↓ws_next, ↓ws_bk, ↓ws_ct, ↓ws_rt, ↓ws_nx, ↓ws_seq, ↓ws_drop, ↓ws_ret, ↓ws_if, ↓ws_set, ↓wSet_d, ↓wSet_fresh, ↓wSet_plc, ↓ws_asg, ↓wt_name, ↓wt_nil, ↓wt_cons, ↓wt_tup, ↓wt_lst, ↓wPar_two, ↓ws_par, ↓wLstS_own, ↓wInt_int, ↓ws_item, ↓ws_for, ↓w_zip, ↓w_iter, ↓wItems_lst, ↓wItems_tup, ↓w_rng, ↓wRet_d, ↓wRet_fresh, ↓wRet_plc, ↓wRetS_val, ↓wRetS_own, ↓wRetS_ownS, ↓wI_some, ↓wI_none, ↓wI_ite, List.getElem?_cons_zero, List.getElem?_cons_succ, List.set_cons_zero, List.set_cons_succ, o_sub]
      exact h _ _ (hf2.mono (by omega)) (by omega) (by omega)
    · split
      · refine next1 _ _ _ _ _ hf1 (by omega) (by omega) (by omega) fun r f2 hf2 r0 r1 => ?_
        simp (disch := first | assumption | omega) only [↓w_var, ↓wVar_val, ↓wVar_own, ↓w_c, ↓w_nil, ↓w_cons, ↓w_app, ↓wViews_nil, ↓wViews_cons, ↓wView_d, ↓wView_fresh, ↓wView_plc, ↓wSlot_val, ↓wSlot_own, ↓wEsc_d, ↓wEsc_fresh, ↓wEsc_plc, ↓wEscS_val, ↓wEscS_own, ↓wEscs_nil, ↓wEscs_cons, ↓w_frz, ↓w_tup, ↓w_lst, ↓w_bool, ↓w_tru, ↓w_notT, ↓w_andT, ↓w_orT, ↓w_if, ↓w_and, ↓w_or, ↓w_not, ↓w_chain, ↓wB_bl, ↓w_noPart, ↓w_part, ↓w_slice, ↓w_call, ↓wPlc_cons, ↓wOwn_own, ↓w_callIo, ↓isLst_lst, ↓w_meth, ↓w_ext, ↓wExt_ok, ↓ws_next, ↓ws_bk, ↓ws_ct, ↓ws_rt, ↓ws_nx, ↓ws_seq, ↓ws_drop, ↓ws_ret, ↓ws_if, ↓ws_set, ↓wSet_d, ↓wSet_fresh, ↓wSet_plc, ↓ws_asg, ↓wt_name, ↓wt_nil, ↓wt_cons, ↓wt_tup, ↓wt_lst, ↓wPar_two, ↓ws_par, ↓wLstS_own, ↓wInt_int, ↓ws_item, ↓ws_for, ↓w_zip, ↓w_iter, ↓wItems_lst, ↓wItems_tup, ↓w_rng, ↓wRet_d, ↓wRet_fresh, ↓wRet_plc, ↓wRetS_val, ↓wRetS_own, ↓wRetS_ownS, ↓wI_some, ↓wI_none, ↓wI_ite, List.getElem?_cons_zero, List.getElem?_cons_succ, List.set_cons_zero, List.set_cons_succ, o_sub, o_mulS]
        refine next1 _ _ _ _ _ hf2 (by omega) (by omega) (by omega) fun s f3 hf3 s0 s1 => ?_
        simp (disch := first | assumption | omega) only [↓w_var, ↓wVar_val, ↓wVar_own, ↓w_c, ↓w_nil, ↓w_cons, ↓w_app, ↓wViews_nil, ↓wViews_cons, ↓wView_d, ↓wView_fresh, ↓wView_plc, ↓wSlot_val, ↓wSlot_own, ↓wEsc_d, ↓wEsc_fresh, ↓wEsc_plc, ↓wEscS_val, ↓wEscS_own, ↓wEscs_nil, ↓wEscs_cons, ↓w_frz, ↓w_tup, ↓w_lst, ↓w_bool, ↓w_tru, ↓w_notT, ↓w_andT, ↓w_orT, ↓w_if, ↓w_and, ↓w_or, ↓w_not, ↓w_chain, ↓wB_bl, ↓w_noPart, ↓w_part, ↓w_slice, ↓w_call, ↓wPlc_cons, ↓wOwn_own, ↓w_callIo, ↓isLst_lst, ↓w_meth, ↓w_ext, ↓wExt_ok, ↓ws_next, ↓ws_bk, ↓ws_ct, ↓ws_rt, ↓ws_nx, ↓ws_seq, ↓ws_drop, ↓ws_ret, ↓ws_if, ↓ws_set, ↓wSet_d, ↓wSet_fresh, ↓wSet_plc, ↓ws_asg, ↓wt_name, ↓wt_nil, ↓wt_cons, ↓wt_tup, ↓wt_lst, ↓wPar_two, ↓ws_par, ↓wLstS_own, ↓wInt_int, ↓ws_item, ↓ws_for, ↓w_zip, ↓w_iter, ↓wItems_lst, ↓wItems_tup, ↓w_rng, ↓wRet_d, ↓wRet_fresh, ↓wRet_plc, ↓wRetS_val, ↓wRetS_own, ↓wRetS_ownS, ↓wI_some, ↓wI_none, ↓wI_ite, List.getElem?_cons_zero, List.getElem?_cons_succ, List.set_cons_zero, List.set_cons_succ, o_shl1]
        refine next1 _ _ _ _ _ hf3 (by omega) (by omega) (by omega) fun t f4 hf4 t0 t1 => ?_
        have p := pow_bd (k := s.toNat) (m := 190) (by omega)
        have q := mul_bd (a := 1 - 2 * r) (b := 1 * 2 ^ s.toNat + t - 1) (A := 1) (B := 2 ^ 190 + 3) (by omega) (by omega) (by omega) (by omega)
        simp (disch := first | assumption | omega) only [↓w_var, ↓wVar_val, ↓wVar_own, ↓w_c, ↓w_nil, ↓w_cons, ↓w_app, ↓wViews_nil, ↓wViews_cons, ↓wView_d, ↓wView_fresh, ↓wView_plc, ↓wSlot_val, ↓wSlot_own, ↓wEsc_d, ↓wEsc_fresh, ↓wEsc_plc, ↓wEscS_val, ↓wEscS_own, ↓wEscs_nil, ↓wEscs_cons, ↓w_frz, ↓w_tup, ↓w_lst, ↓w_bool, ↓w_tru, ↓w_notT, ↓w_andT, ↓w_orT, ↓w_if, ↓w_and, ↓w_or, ↓w_not, ↓w_chain, ↓wB_bl, ↓w_noPart, ↓w_part, ↓w_slice, ↓w_call, ↓wPlc_cons, ↓wOwn_own, ↓w_callIo, ↓isLst_lst, ↓w_meth, ↓w_ext, ↓wExt_ok, ↓ws_next, ↓ws_bk, ↓ws_ct, ↓ws_rt, ↓ws_nx, ↓ws_seq, ↓ws_drop, ↓ws_ret, ↓ws_if, ↓ws_set, ↓wSet_d, ↓wSet_fresh, ↓wSet_plc, ↓ws_asg, ↓wt_name, ↓wt_nil, ↓wt_cons, ↓wt_tup, ↓wt_lst, ↓wPar_two, ↓ws_par, ↓wLstS_own, ↓wInt_int, ↓ws_item, ↓ws_for, ↓w_zip, ↓w_iter, ↓wItems_lst, ↓wItems_tup, ↓w_rng, ↓wRet_d, ↓wRet_fresh, ↓wRet_plc, ↓wRetS_val, ↓wRetS_own, ↓wRetS_ownS, ↓wI_some, ↓wI_none, ↓wI_ite, List.getElem?_cons_zero, List.getElem?_cons_succ, List.set_cons_zero, List.set_cons_succ, o_sub, o_add, o_mulS]
        exact h _ _ (hf4.mono (by omega)) (by omega) (by omega)
      · refine next1 _ _ _ _ _ hf1 (by omega) (by omega) (by omega) fun r f2 hf2 r0 r1 => ?_
        simp (disch := first | assumption | omega) only [↓w_var, ↓wVar_val, ↓wVar_own, ↓w_c, ↓w_nil, ↓w_cons, ↓w_app, ↓wViews_nil, ↓wViews_cons, ↓wView_d, ↓wView_fresh, ↓wView_plc, ↓wSlot_val, ↓wSlot_own, ↓wEsc_d, ↓wEsc_fresh, ↓wEsc_plc, ↓wEscS_val, ↓wEscS_own, ↓wEscs_nil, ↓wEscs_cons, ↓w_frz, ↓w_tup, ↓w_lst, ↓w_bool, ↓w_tru, ↓w_notT, ↓w_andT, ↓w_orT, ↓w_if, ↓w_and, ↓w_or, ↓w_not, ↓w_chain, ↓wB_bl, ↓w_noPart, ↓w_part, ↓w_slice, ↓w_call, ↓wPlc_cons, ↓wOwn_own, ↓w_callIo, ↓isLst_lst, ↓w_meth, ↓w_ext, ↓wExt_ok, ↓ws_next, ↓ws_bk, ↓ws_ct, ↓ws_rt, ↓ws_nx, ↓ws_seq, ↓ws_drop, ↓ws_ret, ↓ws_if, ↓ws_set, ↓wSet_d, ↓wSet_fresh, ↓wSet_plc, ↓ws_asg, ↓wt_name, ↓wt_nil, ↓wt_cons, ↓wt_tup, ↓wt_lst, ↓wPar_two, ↓ws_par, ↓wLstS_own, ↓wInt_int, ↓ws_item, ↓ws_for, ↓w_zip, ↓w_iter, ↓wItems_lst, ↓wItems_tup, ↓w_rng, ↓wRet_d, ↓wRet_fresh, ↓wRet_plc, ↓wRetS_val, ↓wRetS_own, ↓wRetS_ownS, ↓wI_some, ↓wI_none, ↓wI_ite, List.getElem?_cons_zero, List.getElem?_cons_succ, List.set_cons_zero, List.set_cons_succ, o_sub, pow53]
        refine next1 _ _ _ _ _ hf2 (by omega) (by omega) (by omega) fun s f3 hf3 s0 s1 => ?_
        have q := mul_bd (a := r - 1000001) (b := 10 ^ 53 + s) (A := 1000002) (B := 10 ^ 53 + 1000003) (by omega) (by omega) (by omega) (by omega)
        simp (disch := first | assumption | omega) only [↓w_var, ↓wVar_val, ↓wVar_own, ↓w_c, ↓w_nil, ↓w_cons, ↓w_app, ↓wViews_nil, ↓wViews_cons, ↓wView_d, ↓wView_fresh, ↓wView_plc, ↓wSlot_val, ↓wSlot_own, ↓wEsc_d, ↓wEsc_fresh, ↓wEsc_plc, ↓wEscS_val, ↓wEscS_own, ↓wEscs_nil, ↓wEscs_cons, ↓w_frz, ↓w_tup, ↓w_lst, ↓w_bool, ↓w_tru, ↓w_notT, ↓w_andT, ↓w_orT, ↓w_if, ↓w_and, ↓w_or, ↓w_not, ↓w_chain, ↓wB_bl, ↓w_noPart, ↓w_part, ↓w_slice, ↓w_call, ↓wPlc_cons, ↓wOwn_own, ↓w_callIo, ↓isLst_lst, ↓w_meth, ↓w_ext, ↓wExt_ok, ↓ws_next, ↓ws_bk, ↓ws_ct, ↓ws_rt, ↓ws_nx, ↓ws_seq, ↓ws_drop, ↓ws_ret, ↓ws_if, ↓ws_set, ↓wSet_d, ↓wSet_fresh, ↓wSet_plc, ↓ws_asg, ↓wt_name, ↓wt_nil, ↓wt_cons, ↓wt_tup, ↓wt_lst, ↓wPar_two, ↓ws_par, ↓wLstS_own, ↓wInt_int, ↓ws_item, ↓ws_for, ↓w_zip, ↓w_iter, ↓wItems_lst, ↓wItems_tup, ↓w_rng, ↓wRet_d, ↓wRet_fresh, ↓wRet_plc, ↓wRetS_val, ↓wRetS_own, ↓wRetS_ownS, ↓wI_some, ↓wI_none, ↓wI_ite, List.getElem?_cons_zero, List.getElem?_cons_succ, List.set_cons_zero, List.set_cons_succ, o_sub, o_add, o_mulS]
        exact h _ _ (hf3.mono (by omega)) (by omega) (by omega)
/-- _law_drawn -/
noncomputable def drawnB (R U N : List D → FRes) : SDen :=
 sRet (dCall R [dCallIo U [dVar 0], dApp oIx [dLst [dC (.int 1), dC (.int 1), dC (.int 2), dC (.int 3), dC (.int 4), dC (.int 6), dC (.int 7), dApp oAdd [dC (.int 1), dApp oAbs [dCallIo U [dVar 0]]]], dCallIo N [dVar 0, dC (.int 8)]]])
def DrawnS (c : List D → FRes) : Prop := ∀ (b : Nat) (f : D) (Q : RV → D → Prop) (E : Exn → D → Prop), Fd b f → b ≤ 10000000000 → (∀ x f', Fd (b + 9) f' → rb x ≤ 210 → Q (.d (fr x)) f') → wF1 (c [f]) Q E
theorem drawn_s {R U N : List D → FRes} (hR : RatioE R) (number1 : NumberS U) (next1 : NextS N) : DrawnS (runFn 1 1 true (drawnB R U N)) := by
  intro b f Q E hf hb h
  refine w_run1 rfl ?_
  show wS (drawnB _ _ _ [Sl.own f]) _
  unfold drawnB
  simp only [↓w_var, ↓wVar_val, ↓wVar_own, ↓w_c, ↓w_nil, ↓w_cons, ↓w_app, ↓wViews_nil, ↓wViews_cons, ↓wView_d, ↓wView_fresh, ↓wView_plc, ↓wSlot_val, ↓wSlot_own, ↓wEsc_d, ↓wEsc_fresh, ↓wEsc_plc, ↓wEscS_val, ↓wEscS_own, ↓wEscs_nil, ↓wEscs_cons, ↓w_frz, ↓w_tup, ↓w_lst, ↓w_bool, ↓w_tru, ↓w_notT, ↓w_andT, ↓w_orT, ↓w_if, ↓w_and, ↓w_or, ↓w_not, ↓w_chain, ↓wB_bl, ↓w_noPart, ↓w_part, ↓w_slice, ↓w_call, ↓wPlc_cons, ↓wOwn_own, ↓w_callIo, ↓isLst_lst, ↓w_meth, ↓w_ext, ↓wExt_ok, ↓ws_next, ↓ws_bk, ↓ws_ct, ↓ws_rt, ↓ws_nx, ↓ws_seq, ↓ws_drop, ↓ws_ret, ↓ws_if, ↓ws_set, ↓wSet_d, ↓wSet_fresh, ↓wSet_plc, ↓ws_asg, ↓wt_name, ↓wt_nil, ↓wt_cons, ↓wt_tup, ↓wt_lst, ↓wPar_two, ↓ws_par, ↓wLstS_own, ↓wInt_int, ↓ws_item, ↓ws_for, ↓w_zip, ↓w_iter, ↓wItems_lst, ↓wItems_tup, ↓w_rng, ↓wRet_d, ↓wRet_fresh, ↓wRet_plc, ↓wRetS_val, ↓wRetS_own, ↓wRetS_ownS, ↓wI_some, ↓wI_none, ↓wI_ite, List.getElem?_cons_zero, List.getElem?_cons_succ, List.set_cons_zero, List.set_cons_succ]
  refine number1 _ _ _ _ hf (by omega) fun p f1 hf1 p0 p1 => ?_
  simp only [↓w_var, ↓wVar_val, ↓wVar_own, ↓w_c, ↓w_nil, ↓w_cons, ↓w_app, ↓wViews_nil, ↓wViews_cons, ↓wView_d, ↓wView_fresh, ↓wView_plc, ↓wSlot_val, ↓wSlot_own, ↓wEsc_d, ↓wEsc_fresh, ↓wEsc_plc, ↓wEscS_val, ↓wEscS_own, ↓wEscs_nil, ↓wEscs_cons, ↓w_frz, ↓w_tup, ↓w_lst, ↓w_bool, ↓w_tru, ↓w_notT, ↓w_andT, ↓w_orT, ↓w_if, ↓w_and, ↓w_or, ↓w_not, ↓w_chain, ↓wB_bl, ↓w_noPart, ↓w_part, ↓w_slice, ↓w_call, ↓wPlc_cons, ↓wOwn_own, ↓w_callIo, ↓isLst_lst, ↓w_meth, ↓w_ext, ↓wExt_ok, ↓ws_next, ↓ws_bk, ↓ws_ct, ↓ws_rt, ↓ws_nx, ↓ws_seq, ↓ws_drop, ↓ws_ret, ↓ws_if, ↓ws_set, ↓wSet_d, ↓wSet_fresh, ↓wSet_plc, ↓ws_asg, ↓wt_name, ↓wt_nil, ↓wt_cons, ↓wt_tup, ↓wt_lst, ↓wPar_two, ↓ws_par, ↓wLstS_own, ↓wInt_int, ↓ws_item, ↓ws_for, ↓w_zip, ↓w_iter, ↓wItems_lst, ↓wItems_tup, ↓w_rng, ↓wRet_d, ↓wRet_fresh, ↓wRet_plc, ↓wRetS_val, ↓wRetS_own, ↓wRetS_ownS, ↓wI_some, ↓wI_none, ↓wI_ite, List.getElem?_cons_zero, List.getElem?_cons_succ, List.set_cons_zero, List.set_cons_succ]
  refine number1 _ _ _ _ hf1 (by omega) fun q f2 hf2 q0 q1 => ?_
  simp only [↓w_var, ↓wVar_val, ↓wVar_own, ↓w_c, ↓w_nil, ↓w_cons, ↓w_app, ↓wViews_nil, ↓wViews_cons, ↓wView_d, ↓wView_fresh, ↓wView_plc, ↓wSlot_val, ↓wSlot_own, ↓wEsc_d, ↓wEsc_fresh, ↓wEsc_plc, ↓wEscS_val, ↓wEscS_own, ↓wEscs_nil, ↓wEscs_cons, ↓w_frz, ↓w_tup, ↓w_lst, ↓w_bool, ↓w_tru, ↓w_notT, ↓w_andT, ↓w_orT, ↓w_if, ↓w_and, ↓w_or, ↓w_not, ↓w_chain, ↓wB_bl, ↓w_noPart, ↓w_part, ↓w_slice, ↓w_call, ↓wPlc_cons, ↓wOwn_own, ↓w_callIo, ↓isLst_lst, ↓w_meth, ↓w_ext, ↓wExt_ok, ↓ws_next, ↓ws_bk, ↓ws_ct, ↓ws_rt, ↓ws_nx, ↓ws_seq, ↓ws_drop, ↓ws_ret, ↓ws_if, ↓ws_set, ↓wSet_d, ↓wSet_fresh, ↓wSet_plc, ↓ws_asg, ↓wt_name, ↓wt_nil, ↓wt_cons, ↓wt_tup, ↓wt_lst, ↓wPar_two, ↓ws_par, ↓wLstS_own, ↓wInt_int, ↓ws_item, ↓ws_for, ↓w_zip, ↓w_iter, ↓wItems_lst, ↓wItems_tup, ↓w_rng, ↓wRet_d, ↓wRet_fresh, ↓wRet_plc, ↓wRetS_val, ↓wRetS_own, ↓wRetS_ownS, ↓wI_some, ↓wI_none, ↓wI_ite, List.getElem?_cons_zero, List.getElem?_cons_succ, List.set_cons_zero, List.set_cons_succ, o_abs, o_add]
  refine next1 _ _ _ _ _ hf2 (by omega) (by omega) (by omega) fun r f3 hf3 r0 r1 => ?_
  simp (disch := first | assumption | (simp <;> omega) | omega) only [↓w_var, ↓wVar_val, ↓wVar_own, ↓w_c, ↓w_nil, ↓w_cons, ↓w_app, ↓wViews_nil, ↓wViews_cons, ↓wView_d, ↓wView_fresh, ↓wView_plc, ↓wSlot_val, ↓wSlot_own, ↓wEsc_d, ↓wEsc_fresh, ↓wEsc_plc, ↓wEscS_val, ↓wEscS_own, ↓wEscs_nil, ↓wEscs_cons, ↓w_frz, ↓w_tup, ↓w_lst, ↓w_bool, ↓w_tru, ↓w_notT, ↓w_andT, ↓w_orT, ↓w_if, ↓w_and, ↓w_or, ↓w_not, ↓w_chain, ↓wB_bl, ↓w_noPart, ↓w_part, ↓w_slice, ↓w_call, ↓wPlc_cons, ↓wOwn_own, ↓w_callIo, ↓isLst_lst, ↓w_meth, ↓w_ext, ↓wExt_ok, ↓ws_next, ↓ws_bk, ↓ws_ct, ↓ws_rt, ↓ws_nx, ↓ws_seq, ↓ws_drop, ↓ws_ret, ↓ws_if, ↓ws_set, ↓wSet_d, ↓wSet_fresh, ↓wSet_plc, ↓ws_asg, ↓wt_name, ↓wt_nil, ↓wt_cons, ↓wt_tup, ↓wt_lst, ↓wPar_two, ↓ws_par, ↓wLstS_own, ↓wInt_int, ↓ws_item, ↓ws_for, ↓w_zip, ↓w_iter, ↓wItems_lst, ↓wItems_tup, ↓w_rng, ↓wRet_d, ↓wRet_fresh, ↓wRet_plc, ↓wRetS_val, ↓wRetS_own, ↓wRetS_ownS, ↓wI_some, ↓wI_none, ↓wI_ite, List.getElem?_cons_zero, List.getElem?_cons_succ, List.set_cons_zero, List.set_cons_succ, o_ixL]
  intro x hx
  have hx2 : ∃ y, x = D.int y ∧ 0 < y ∧ y < 10 ^ 63 := by
    have := List.mem_of_getElem? hx
    simp only [List.mem_cons, List.not_mem_nil, or_false] at this
    rcases this with rfl | rfl | rfl | rfl | rfl | rfl | rfl | rfl <;> refine ⟨_, rfl, ?_, ?_⟩ <;> first | decide | (split <;> omega)
  obtain ⟨y, rfl, y0, y1⟩ := hx2
  have b1 : nb y.natAbs ≤ 210 := nb_of (by omega) (by omega) (by omega)
  have b2 : nb p.natAbs ≤ 210 := nb_of (by omega) (by omega) (by omega)
  try simp only [↓w_var, ↓wVar_val, ↓wVar_own, ↓w_c, ↓w_nil, ↓w_cons, ↓w_app, ↓wViews_nil, ↓wViews_cons, ↓wView_d, ↓wView_fresh, ↓wView_plc, ↓wSlot_val, ↓wSlot_own, ↓wEsc_d, ↓wEsc_fresh, ↓wEsc_plc, ↓wEscS_val, ↓wEscS_own, ↓wEscs_nil, ↓wEscs_cons, ↓w_frz, ↓w_tup, ↓w_lst, ↓w_bool, ↓w_tru, ↓w_notT, ↓w_andT, ↓w_orT, ↓w_if, ↓w_and, ↓w_or, ↓w_not, ↓w_chain, ↓wB_bl, ↓w_noPart, ↓w_part, ↓w_slice, ↓w_call, ↓wPlc_cons, ↓wOwn_own, ↓w_callIo, ↓isLst_lst, ↓w_meth, ↓w_ext, ↓wExt_ok, ↓ws_next, ↓ws_bk, ↓ws_ct, ↓ws_rt, ↓ws_nx, ↓ws_seq, ↓ws_drop, ↓ws_ret, ↓ws_if, ↓ws_set, ↓wSet_d, ↓wSet_fresh, ↓wSet_plc, ↓ws_asg, ↓wt_name, ↓wt_nil, ↓wt_cons, ↓wt_tup, ↓wt_lst, ↓wPar_two, ↓ws_par, ↓wLstS_own, ↓wInt_int, ↓ws_item, ↓ws_for, ↓w_zip, ↓w_iter, ↓wItems_lst, ↓wItems_tup, ↓w_rng, ↓wRet_d, ↓wRet_fresh, ↓wRet_plc, ↓wRetS_val, ↓wRetS_own, ↓wRetS_ownS, ↓wI_some, ↓wI_none, ↓wI_ite, List.getElem?_cons_zero, List.getElem?_cons_succ, List.set_cons_zero, List.set_cons_succ]
  rw [hR p y (by omega) (by omega)]
  simp only [wF0_ok, ↓w_var, ↓wVar_val, ↓wVar_own, ↓w_c, ↓w_nil, ↓w_cons, ↓w_app, ↓wViews_nil, ↓wViews_cons, ↓wView_d, ↓wView_fresh, ↓wView_plc, ↓wSlot_val, ↓wSlot_own, ↓wEsc_d, ↓wEsc_fresh, ↓wEsc_plc, ↓wEscS_val, ↓wEscS_own, ↓wEscs_nil, ↓wEscs_cons, ↓w_frz, ↓w_tup, ↓w_lst, ↓w_bool, ↓w_tru, ↓w_notT, ↓w_andT, ↓w_orT, ↓w_if, ↓w_and, ↓w_or, ↓w_not, ↓w_chain, ↓wB_bl, ↓w_noPart, ↓w_part, ↓w_slice, ↓w_call, ↓wPlc_cons, ↓wOwn_own, ↓w_callIo, ↓isLst_lst, ↓w_meth, ↓w_ext, ↓wExt_ok, ↓ws_next, ↓ws_bk, ↓ws_ct, ↓ws_rt, ↓ws_nx, ↓ws_seq, ↓ws_drop, ↓ws_ret, ↓ws_if, ↓ws_set, ↓wSet_d, ↓wSet_fresh, ↓wSet_plc, ↓ws_asg, ↓wt_name, ↓wt_nil, ↓wt_cons, ↓wt_tup, ↓wt_lst, ↓wPar_two, ↓ws_par, ↓wLstS_own, ↓wInt_int, ↓ws_item, ↓ws_for, ↓w_zip, ↓w_iter, ↓wItems_lst, ↓wItems_tup, ↓w_rng, ↓wRet_d, ↓wRet_fresh, ↓wRet_plc, ↓wRetS_val, ↓wRetS_own, ↓wRetS_ownS, ↓wI_some, ↓wI_none, ↓wI_ite, List.getElem?_cons_zero, List.getElem?_cons_succ, List.set_cons_zero, List.set_cons_succ]
  exact h _ _ (hf3.mono (by omega)) (rb_divInt b2 b1)
/-- a comprehension whose items come out of a feed -/
theorem comp_feed {v s k : Nat} {fi : DEnv → Out (List D)} {fe : Den} {ρ : DEnv} {Q : RV → DEnv → Prop} {E : Exn → DEnv → Prop} (P : D → Prop)
    (h : wO (fi ρ) (fun ds ρ1 => ds.length ≤ 1000000 ∧ v ≠ s ∧ ∃ b f, ρ1[s]? = some (.own f) ∧ Fd b f ∧
      (∀ d ∈ ds, ∀ b' f', b' ≤ b + k * ds.length → Fd b' f' → wO (fe ((ρ1.set s (.own f')).set v (.val d))) (fun r ρ3 => wI (esc ρ3 r) fun p => P p.1 ∧ ∃ f'', Fd (b' + k) f'' ∧ p.2 = (ρ1.set s (.own f'')).set v (.val d)) (fun _ _ => False)) ∧
      ∀ l f', l.length = ds.length → (∀ d ∈ l, P d) → Fd (b + k * ds.length) f' → Q (.fresh (.lst l)) (ρ1.set s (.own f'))) E) : wO (dComp [v] fi (tName v) dYes fe ρ) Q E := by
  rw [w_comp]
  refine wO_mono h (fun ds ρ1 ⟨hl, hvs, b, f, hs, hf, he, hq⟩ => ?_) fun _ _ z => z
  have hs0 : ρ1.set s (.own f) = ρ1 := by
    apply List.ext_getElem?
    intro i
    by_cases e : s = i
    · subst e
      rw [List.getElem?_set_self (List.getElem?_eq_some_iff.mp hs).1, hs]
    · rw [List.getElem?_set_ne e]
  refine comp_inv (ρ := ρ1) (fun rest acc ρ2 => ∃ f', Fd (b + k * acc.length) f' ∧ ρ2.set v .no = (ρ1.set s (.own f')).set v .no ∧ acc.length + rest.length = ds.length ∧ (∀ d ∈ rest, d ∈ ds) ∧ ∀ d ∈ acc, P d) ⟨f, by simpa using hf, by rw [hs0], by simp, fun _ h => h, by simp⟩ ?_ ?_
  · rintro d rest acc ρ2 ⟨f', hf', h2, hlen, hmem, hP⟩
    rw [List.length_cons] at hlen
    show wI (tName v d (wipeD ρ2 [v])) _
    rw [wt_name]
    have e0 : ∀ {ρ : DEnv} {Q : Bool → DEnv → Prop} {E : Exn → DEnv → Prop}, wO (dYes ρ) Q E = Q true ρ := fun {ρ Q E} => rfl
    rw [e0, if_pos rfl]
    have e2 : (wipeD ρ2 [v]).set v (.val d) = (ρ1.set s (.own f')).set v (.val d) := set_val_no h2
    rw [e2]
    have kk : k * acc.length ≤ k * ds.length := Nat.mul_le_mul_left k (by omega)
    refine wO_mono (he d (hmem d List.mem_cons_self) (b + k * acc.length) f' (by omega) hf') (fun r ρ3 hr => ?_) fun _ _ z => z
    cases q : esc ρ3 r with
    | none => rw [q] at hr; exact hr.elim
    | some p =>
      rw [q] at hr
      obtain ⟨r1, f'', hf'', r2⟩ := (hr : P p.1 ∧ ∃ f'', Fd (b + k * acc.length + k) f'' ∧ p.2 = (ρ1.set s (.own f'')).set v (.val d))
      refine ⟨okLen_of (by omega), f'', ?_, by rw [r2, List.set_set], by rw [List.length_append, List.length_singleton]; omega, fun x hx => hmem x (List.mem_cons_of_mem _ hx), fun x hx => ?_⟩
      · rw [List.length_append, List.length_singleton, Nat.mul_add, Nat.mul_one]
        exact hf''.mono (by omega)
      · rcases List.mem_append.mp hx with hx | hx
        · exact hP x hx
        · rw [List.mem_singleton.mp hx]; exact r1
  · rintro acc ρ2 ⟨f', hf', h2, hlen, _, hP⟩
    have e3 : unw ρ1 ρ2 [v] = ρ1.set s (.own f') := by
      have hl2 : ρ2.length = ρ1.length := by
        have := congrArg List.length h2
        simpa using this
      apply List.ext_getElem?
      intro i
      by_cases e : i = v
      · subst e
        rw [unw_in hl2.symm (by simp), List.getElem?_set_ne (Ne.symm hvs)]
      · rw [unw_out (by simp [e])]
        have := congrArg (fun l : DEnv => l[i]?) h2
        simpa [List.getElem?_set_ne (Ne.symm e)] using this
    rw [e3]
    simp at hlen
    rw [← hlen] at hq
    exact hq acc f' rfl hP hf'
end DL
set_option maxHeartbeats 4000000
/-! DL, part 28: plain laws of which and of logarithms. -/
namespace DL
open PySem PySem.Spec PyProof.Rows L2
theorem wh_le {x y : Rat} : wh x y ≤ 0 ↔ x ≤ y := by
  unfold wh
  by_cases h : y < x
  · rw [if_pos h]
    constructor
    · intro z; omega
    · intro z; grind
  · rw [if_neg h]
    have : x ≤ y := Rat.not_lt.mp h
    constructor
    · intro _; exact this
    · intro _; split <;> omega
theorem wh_of {x y z w : Rat} (h1 : y < x ↔ w < z) (h2 : x < y ↔ z < w) : wh x y = wh z w := by
  unfold wh
  simp only [h1, h2]
theorem wh_add (x y z : Rat) : wh (x + z) (y + z) = wh x y := wh_of ⟨fun h => by grind, fun h => by grind⟩ ⟨fun h => by grind, fun h => by grind⟩
theorem wh_sub (x y : Rat) : wh (x - y) 0 = wh x y := wh_of ⟨fun h => by grind, fun h => by grind⟩ ⟨fun h => by grind, fun h => by grind⟩
theorem wh_mul (x y : Rat) {z : Rat} (h : 0 < z) : wh (x * z) (y * z) = wh x y := by
  rw [Rat.mul_comm x, Rat.mul_comm y]
  exact wh_of (Rat.mul_lt_mul_left h) (Rat.mul_lt_mul_left h)
theorem inv_anti {a b : Rat} (ha : 0 < a) (hb : 0 < b) : a ≤ b ↔ b⁻¹ ≤ a⁻¹ := by
  have key : ∀ {a b : Rat}, 0 < a → 0 < b → a ≤ b → b⁻¹ ≤ a⁻¹ := fun {a b} ha hb h => by
    have h1 := Rat.inv_pos.mpr ha
    have h2 := Rat.inv_pos.mpr hb
    have h3 := Rat.mul_le_mul_of_nonneg_left h (Rat.le_of_lt (Rat.mul_pos h1 h2))
    have a0 := Rat.ne_of_gt ha
    have b0 := Rat.ne_of_gt hb
    have e1 : a⁻¹ * b⁻¹ * a = b⁻¹ := by grind
    have e2 : a⁻¹ * b⁻¹ * b = a⁻¹ := by grind
    rw [e1, e2] at h3
    exact h3
  refine ⟨key ha hb, fun h => ?_⟩
  have := key (Rat.inv_pos.mpr hb) (Rat.inv_pos.mpr ha) h
  rw [Rat.inv_inv, Rat.inv_inv] at this
  exact this
theorem clog_le {x : Rat} (h : 0 < x) {t : Int} : x ≤ (2 : Rat) ^ t ↔ clog x ≤ t := by
  rw [inv_anti h (zpow2_pos t), ← Rat.zpow_neg, flog_le (Rat.inv_pos.mpr h)]
  unfold clog
  omega
theorem pow2_le_iff {s t : Int} : (2 : Rat) ^ s ≤ (2 : Rat) ^ t ↔ s ≤ t := by
  refine ⟨fun h => ?_, zpow2_mono⟩
  rw [flog_le (zpow2_pos t)] at h
  have : ¬ t + 1 ≤ flog ((2 : Rat) ^ t) := by
    rw [← flog_le (zpow2_pos t), Rat.zpow_add_one two_ne]
    intro z
    have := zpow2_pos t
    grind
  omega
theorem logs_near {x : Rat} (h : 0 < x) : flog x ≤ clog x ∧ clog x ≤ flog x + 1 := by
  obtain ⟨h1, h2⟩ := flog_spec h
  constructor
  · exact pow2_le_iff.mp (Rat.le_trans h1 ((clog_le h).mpr (Int.le_refl _)))
  · exact (clog_le h).mp (Rat.le_of_lt h2)
theorem clog_inv (x : Rat) : clog x⁻¹ = - flog x := by
  unfold clog
  rw [Rat.inv_inv]
theorem flog_mono {x y : Rat} (hx : 0 < x) (hy : 0 < y) (h : x ≤ y) : flog x ≤ flog y := (flog_le hy).mp (Rat.le_trans (flog_spec hx).1 h)
theorem clog_mono {x y : Rat} (hx : 0 < x) (hy : 0 < y) (h : x ≤ y) : clog x ≤ clog y := (clog_le hx).mp (Rat.le_trans h ((clog_le hy).mpr (Int.le_refl _)))
theorem flog_mul {x y : Rat} (hx : 0 < x) (hy : 0 < y) : flog x + flog y ≤ flog (x * y) ∧ flog (x * y) ≤ flog x + flog y + 1 := by
  obtain ⟨x1, x2⟩ := flog_spec hx
  obtain ⟨y1, y2⟩ := flog_spec hy
  have xy := Rat.mul_pos hx hy
  constructor
  · apply (flog_le xy).mp
    rw [Rat.zpow_add two_ne]
    have a := Rat.mul_le_mul_of_nonneg_left y1 (Rat.le_of_lt (zpow2_pos (flog x)))
    have b := Rat.mul_le_mul_of_nonneg_left x1 (Rat.le_of_lt hy)
    grind
  · have : ¬ flog x + flog y + 2 ≤ flog (x * y) := by
      rw [← flog_le xy]
      intro z
      rw [show flog x + flog y + 2 = (flog x + 1) + (flog y + 1) by omega, Rat.zpow_add two_ne] at z
      have a := (Rat.mul_lt_mul_left hx).mpr y2
      have b := (Rat.mul_lt_mul_left (zpow2_pos (flog y + 1))).mpr x2
      grind
    omega
end DL
set_option maxHeartbeats 4000000
/-! DL, part 29: repr, how long its text is. -/
namespace DL
open PySem PySem.Spec PyProof.Rows L2
theorem len_ofString (s : String) : (Str.ofString s).length = s.toList.length := by
  rw [Str.ofString_eq_toList]
  show ((s.toList.map Char.toNat).toArray).size = _
  simp
theorem len_nat (n : Nat) : (toString n : String).toList.length ≤ nb n := by
  have : (toString n : String).toList = Nat.toDigits 10 n := by
    show n.repr.toList = _
    exact Nat.toList_repr
  rw [this]
  refine (Nat.length_toDigits_le_iff (by omega) (nb_pos n)).mpr ?_
  exact Nat.lt_of_lt_of_le (lt_nb n) (Nat.pow_le_pow_left (by omega) _)
theorem len_int (i : Int) : (Str.ofString (toString i)).length ≤ nb i.natAbs + 1 := by
  rw [len_ofString]
  cases i with
  | ofNat n => exact Nat.le_succ_of_le (len_nat n)
  | negSucc n =>
    show ("-" ++ toString (n + 1) : String).toList.length ≤ _
    rw [String.toList_append, List.length_append]
    have := len_nat (n + 1)
    have e : (Int.negSucc n).natAbs = n + 1 := rfl
    rw [e]
    have e1 : "-".toList.length = 1 := rfl
    omega
theorem strLen (a b : Str) : (a ++ b).length = a.length + b.length := by
  show (a.cps ++ b.cps).size = _
  rw [Array.size_append]
  rfl
theorem textFrom_le : ∀ (ts : List Str) (k : Nat) (acc : Str), (textFrom k acc ts).length ≤ acc.length + (ts.map fun t => t.length + 2).sum
  | [], k, acc => by simp [textFrom]
  | t :: r, k, acc => by
    have h := textFrom_le r (k + 1) (acc ++ (if k > 0 then ", " else "" : String) ++ t)
    rw [strLen, strLen] at h
    have e : (Str.ofString (if k > 0 then ", " else "" : String)).length ≤ 2 := by
      split
      · decide
      · decide
    rw [textFrom, List.map_cons, List.sum_cons]
    omega
theorem join_le : ∀ ts : List Str, (Str.join ", " ts).length ≤ (ts.map fun t => t.length + 2).sum
  | [] => by simp [Str.join]; decide
  | [x] => by simp [Str.join]
  | x :: y :: r => by
    have h := join_le (y :: r)
    show (x ++ ", " ++ Str.join ", " (y :: r)).length ≤ _
    rw [strLen, strLen, List.map_cons, List.sum_cons]
    have e : (Str.ofString ", ").length = 2 := rfl
    omega
mutual
/-- at most so many signs -/
def shLen : D → Nat
  | .non => 4
  | .bl _ => 5
  | .int i => nb i.natAbs + 1
  | .str x => (reprText x).length
  | .tup l => shLens l + 3
  | .lst l => shLens l + 2
def shLens : List D → Nat
  | [] => 0
  | d :: l => shLen d + 2 + shLens l
end
mutual
theorem shown_le : ∀ d : D, (toP d).shown.length ≤ shLen d
  | .non => by rw [toP, shLen]; simp only [PyData.shown]; decide
  | .bl b => by rw [toP, shLen]; simp only [PyData.shown]; cases b <;> decide
  | .int i => by rw [toP, shLen]; simp only [PyData.shown]; exact len_int i
  | .str x => by rw [toP, shLen]; simp only [PyData.shown]; exact Nat.le_refl _
  | .tup l => by
    rw [toP, shLen]
    simp only [PyData.shown]
    unfold tupleText
    rw [strLen, strLen]
    have h1 := join_le (PyData.shownAll (toPs l))
    have h2 := shownAll_le l
    have e1 : (Str.ofString "(").length = 1 := rfl
    have e2 : (Str.ofString (if (PyData.shownAll (toPs l)).length == 1 then ",)" else ")" : String)).length ≤ 2 := by
      split
      · decide
      · decide
    omega
  | .lst l => by
    rw [toP, shLen]
    simp only [PyData.shown]
    unfold listText
    rw [strLen]
    have h1 := textFrom_le (PyData.shownAll (toPs l)) 0 "["
    have h2 := shownAll_le l
    have e1 : (Str.ofString "[").length = 1 := rfl
    have e2 : (Str.ofString "]").length = 1 := rfl
    omega
theorem shownAll_le : ∀ l : List D, ((PyData.shownAll (toPs l)).map fun t => t.length + 2).sum ≤ shLens l
  | [] => by rw [toPs, shLens]; simp [PyData.shownAll]
  | d :: l => by
    have h1 := shown_le d
    have h2 := shownAll_le l
    rw [toPs, shLens]
    simp only [PyData.shownAll, List.map_cons, List.sum_cons]
    omega
end
mutual
/-- no number too great to be shown -/
def shwB : D → Bool
  | .int i => decide (nb i.natAbs ≤ 1920)
  | .tup l => shwBs l
  | .lst l => shwBs l
  | _ => true
def shwBs : List D → Bool
  | [] => true
  | d :: l => shwB d && shwBs l
end
mutual
theorem shwB_ok : ∀ d : D, shwB d = true → (toP d).showable = true
  | .non, _ => by rw [toP]; simp only [PyData.showable]
  | .bl b, _ => by rw [toP]; simp only [PyData.showable]
  | .int i, h => by
    rw [shwB, decide_eq_true_eq] at h
    unfold nb at h
    rw [toP]
    simp only [PyData.showable, decide_eq_true_eq]
    omega
  | .str x, _ => by rw [toP]; simp only [PyData.showable]
  | .tup l, h => by
    rw [shwB] at h
    rw [toP]
    simp only [PyData.showable]
    exact shwBs_ok l h
  | .lst l, h => by
    rw [shwB] at h
    rw [toP]
    simp only [PyData.showable]
    exact shwBs_ok l h
theorem shwBs_ok : ∀ l : List D, shwBs l = true → PyData.showableAll (toPs l) = true
  | [], _ => by rw [toPs]; simp only [PyData.showableAll]
  | d :: l, h => by
    rw [shwBs, Bool.and_eq_true] at h
    rw [toPs]
    simp only [PyData.showableAll, shwB_ok d h.1, shwBs_ok l h.2, Bool.and_self]
end
mutual
def depD : D → Nat
  | .tup l => depDs l + 1
  | .lst l => depDs l + 1
  | _ => 0
def depDs : List D → Nat
  | [] => 0
  | d :: l => max (depD d) (depDs l)
end
mutual
theorem depD_ok : ∀ d : D, (toP d).depth ≤ depD d
  | .non => by rw [toP]; simp [PyData.depth]
  | .bl b => by rw [toP]; simp [PyData.depth]
  | .int i => by rw [toP]; simp [PyData.depth]
  | .str x => by rw [toP]; simp [PyData.depth]
  | .tup l => by
    have := depDs_ok l
    rw [toP, depD]
    simp only [PyData.depth]
    omega
  | .lst l => by
    have := depDs_ok l
    rw [toP, depD]
    simp only [PyData.depth]
    omega
theorem depDs_ok : ∀ l : List D, PyData.depthAll (toPs l) ≤ depDs l
  | [] => by rw [toPs]; simp [PyData.depthAll]
  | d :: l => by
    have h1 := depD_ok d
    have h2 := depDs_ok l
    rw [toPs, depDs]
    simp only [PyData.depthAll]
    omega
end
/-- that d may be shown -/
def Shw (d : D) : Prop := shwB d = true ∧ shLen d ≤ 1000000 ∧ depD d ≤ 64
theorem Shw.ok {d : D} (h : Shw d) : repOk d = true := by
  unfold repOk
  rw [shwB_ok d h.1, okLen_of (show (shownD d).length ≤ 1000000 from Nat.le_trans (shown_le d) h.2.1), Nat.ble_eq_true_of_le (Nat.le_trans (depD_ok d) h.2.2)]
  rfl
theorem o_repr {d : D} {Q : RV → Prop} (h : Shw d) : wI (oRepr [d]) Q = Q (.d (.str (shownD d))) := by
  show wI (if repOk d = true then _ else none) Q = _
  rw [if_pos h.ok]
  rfl
theorem o_neR {s : Str} {Q : RV → Prop} : wI (oNe [.str s, .str s]) Q = Q (.d (.bl false)) := by
  rw [o_neS, beq_self_eq_true]
  rfl
theorem shw_int {i : Int} (h : nb i.natAbs ≤ 1920) : Shw (.int i) := by
  refine ⟨?_, ?_, ?_⟩
  · rw [shwB]; exact decide_eq_true h
  · rw [shLen]; omega
  · simp [depD]
theorem shw_non : Shw .non := ⟨rfl, by decide, by decide⟩
theorem shw_bl {b : Bool} : Shw (.bl b) := ⟨rfl, by rw [shLen]; decide, by simp [depD]⟩
theorem shw_fr {x : Rat} (h : rb x ≤ 1920) : Shw (fr x) := by
  have h1 := rb_num x
  have h2 := rb_den x
  unfold fr
  refine ⟨?_, ?_, ?_⟩
  · simp only [shwB, shwBs, Int.natAbs_natCast, Bool.and_true, Bool.and_eq_true, decide_eq_true_eq]
    omega
  · simp only [shLen, shLens, Int.natAbs_natCast]
    omega
  · simp only [depD, depDs]
    decide
end DL
set_option maxHeartbeats 4000000
/-! DL, part 30: laws' own fractions and logarithms (gcd, part, plus, times, by, turned, not above, low log, high log). -/
namespace DL
open PySem PySem.Spec PyProof.Rows L2
theorem pos_num {x : Rat} (h : 0 < x.num) : 0 < x := by
  rw [Rat.lt_iff]
  simpa using h
theorem fr_lit {p q : Int} {k : Nat} (hq : 0 < q) (hg : Int.gcd p q = 1) (hk : 0 < k) (h1 : -(2 ^ k) < p) (h2 : p < 2 ^ k) (h3 : q < 2 ^ k) : ∃ x, D.tup [.int p, .int q] = fr x ∧ rb x ≤ k ∧ x.num = p := by
  have e := fr_mk hq hg
  refine ⟨Rat.divInt p q, e, rb_divInt (nb_of hk h1 h2) (nb_of hk (by
    have : (0 : Int) < 2 ^ k := Int.pow_pos (by omega)
    omega) h3), ?_⟩
  unfold fr at e
  injection e with e
  injection e with e _
  injection e with e
  exact e.symm
/-- a written fraction, by one look -/
def frLit (k : Nat) : D → Bool
  | .tup [.int p, .int q] => decide (0 < q) && (decide (Int.gcd p q = 1) && (decide (-(2 ^ k) < p) && (decide (p < 2 ^ k) && (decide (q < 2 ^ k) && decide (0 < k)))))
  | _ => false
theorem frLit_ok {k : Nat} {d : D} (h : frLit k d = true) : ∃ x, d = fr x ∧ rb x ≤ k := by
  unfold frLit at h
  split at h
  · simp only [Bool.and_eq_true, decide_eq_true_eq] at h
    obtain ⟨h1, h2, h3, h4, h5, h6⟩ := h
    obtain ⟨x, e, b, _⟩ := fr_lit h1 h2 h6 h3 h4 h5
    exact ⟨x, e, b⟩
  · cases h
theorem frLits_ok {k : Nat} {l : List D} (h : l.all (frLit k) = true) {i : Nat} {d : D} (hd : l[i]? = some d) : ∃ x, d = fr x ∧ rb x ≤ k := frLit_ok (List.all_eq_true.mp h d (List.mem_of_getElem? hd))
noncomputable def gcdB : SDen :=
 sSeq (sWhile (dBool (dApp oGt [dVar 1, dC (.int 0)]))
 (sPar 0 1 [dVar 1, dApp oMod [dVar 0, dVar 1]]))
 (sRet (dVar 0))
theorem gcd_e : CommonE (runFn 2 2 false gcdB) := by
  intro a b ha hb
  refine eq_of_w (w_run0 rfl ?_)
  show wS (gcdB [Sl.val (.int a), .val (.int b)]) _
  unfold gcdB
  rw [ws_seq]
  refine while_inv (fun n ρ => ∃ x y : Int, ρ = [.val (.int x), .val (.int y)] ∧ 0 ≤ x ∧ 0 ≤ y ∧ Int.gcd x y = Int.gcd a b ∧ n = y.toNat) ⟨a, b, rfl, ha, hb, rfl, rfl⟩ ?_
  rintro n ρ ⟨x, y, rfl, hx, hy, hg, rfl⟩
  by_cases h0 : y = 0
  · subst h0
    simp (disch := first | assumption | omega) only [↓w_var, ↓wVar_val, ↓wVar_own, ↓w_c, ↓w_nil, ↓w_cons, ↓w_app, ↓wViews_nil, ↓wViews_cons, ↓wView_d, ↓wView_fresh, ↓wView_plc, ↓wSlot_val, ↓wSlot_own, ↓wEsc_d, ↓wEsc_fresh, ↓wEsc_plc, ↓wEscS_val, ↓wEscS_own, ↓wEscs_nil, ↓wEscs_cons, ↓w_frz, ↓w_tup, ↓w_lst, ↓w_bool, ↓w_tru, ↓w_notT, ↓w_andT, ↓w_orT, ↓w_if, ↓w_and, ↓w_or, ↓w_not, ↓w_chain, ↓wB_bl, ↓w_noPart, ↓w_part, ↓w_slice, ↓w_call, ↓wPlc_cons, ↓wOwn_own, ↓w_callIo, ↓isLst_lst, ↓w_meth, ↓w_ext, ↓wExt_ok, ↓ws_next, ↓ws_bk, ↓ws_ct, ↓ws_rt, ↓ws_nx, ↓ws_seq, ↓ws_drop, ↓ws_ret, ↓ws_if, ↓ws_set, ↓wSet_d, ↓wSet_fresh, ↓wSet_plc, ↓ws_asg, ↓wt_name, ↓wt_nil, ↓wt_cons, ↓wt_tup, ↓wt_lst, ↓wPar_two, ↓ws_par, ↓wLstS_own, ↓wInt_int, ↓ws_item, ↓ws_for, ↓w_zip, ↓w_iter, ↓wItems_lst, ↓wItems_tup, ↓w_rng, ↓wRet_d, ↓wRet_fresh, ↓wRet_plc, ↓wRetS_val, ↓wRetS_own, ↓wRetS_ownS, ↓wI_some, ↓wI_none, ↓wI_ite, List.getElem?_cons_zero, List.getElem?_cons_succ, List.set_cons_zero, List.set_cons_succ, o_gt, decide_eq_true_eq]
    rw [if_neg (by omega)]
    have : (Int.gcd x 0 : Int) = x := by simp; omega
    rw [← hg, this]
  · have hy' : 0 < y := by omega
    simp (disch := first | assumption | omega) only [↓w_var, ↓wVar_val, ↓wVar_own, ↓w_c, ↓w_nil, ↓w_cons, ↓w_app, ↓wViews_nil, ↓wViews_cons, ↓wView_d, ↓wView_fresh, ↓wView_plc, ↓wSlot_val, ↓wSlot_own, ↓wEsc_d, ↓wEsc_fresh, ↓wEsc_plc, ↓wEscS_val, ↓wEscS_own, ↓wEscs_nil, ↓wEscs_cons, ↓w_frz, ↓w_tup, ↓w_lst, ↓w_bool, ↓w_tru, ↓w_notT, ↓w_andT, ↓w_orT, ↓w_if, ↓w_and, ↓w_or, ↓w_not, ↓w_chain, ↓wB_bl, ↓w_noPart, ↓w_part, ↓w_slice, ↓w_call, ↓wPlc_cons, ↓wOwn_own, ↓w_callIo, ↓isLst_lst, ↓w_meth, ↓w_ext, ↓wExt_ok, ↓ws_next, ↓ws_bk, ↓ws_ct, ↓ws_rt, ↓ws_nx, ↓ws_seq, ↓ws_drop, ↓ws_ret, ↓ws_if, ↓ws_set, ↓wSet_d, ↓wSet_fresh, ↓wSet_plc, ↓ws_asg, ↓wt_name, ↓wt_nil, ↓wt_cons, ↓wt_tup, ↓wt_lst, ↓wPar_two, ↓ws_par, ↓wLstS_own, ↓wInt_int, ↓ws_item, ↓ws_for, ↓w_zip, ↓w_iter, ↓wItems_lst, ↓wItems_tup, ↓w_rng, ↓wRet_d, ↓wRet_fresh, ↓wRet_plc, ↓wRetS_val, ↓wRetS_own, ↓wRetS_ownS, ↓wI_some, ↓wI_none, ↓wI_ite, List.getElem?_cons_zero, List.getElem?_cons_succ, List.set_cons_zero, List.set_cons_succ, o_gt, o_modP, decide_eq_true_eq]
    rw [if_pos hy']
    have h1 := Int.emod_nonneg x h0
    have h2 := Int.emod_lt_of_pos x hy'
    exact ⟨(x % y).toNat, by omega, y, x % y, rfl, hy, h1, (gcd_step hx hy').trans hg, rfl⟩
noncomputable def partB (C : List D → FRes) : SDen :=
 sSeq (sIf (dBool (dApp oLtI [dVar 1, dC (.int 0)]))
 (sPar 0 1 [dApp oSub [dC (.int 0), dVar 0], dApp oSub [dC (.int 0), dVar 1]])
 (sNext))
 (sSeq (sSet 2 (dCall C [dApp oAbs [dVar 0], dVar 1]))
 (sRet (dTup [dApp oDiv [dVar 0, dVar 2], dApp oDiv [dVar 1, dVar 2]])))
theorem part_e {C : List D → FRes} (hC : CommonE C) : FractionE (runFn 3 2 false (partB C)) := by
  intro p q hq hb
  refine eq_of_w (w_run0 rfl ?_)
  show wS (partB C [Sl.val (.int p), .val (.int q), .no]) _
  unfold partB
  refine ws_cut (fun ρ => ρ = [Sl.val (.int (if q < 0 then -p else p)), .val (.int (if q < 0 then -q else q)), .no]) ?_ ?_
  · simp only [↓w_var, ↓wVar_val, ↓wVar_own, ↓w_c, ↓w_nil, ↓w_cons, ↓w_app, ↓wViews_nil, ↓wViews_cons, ↓wView_d, ↓wView_fresh, ↓wView_plc, ↓wSlot_val, ↓wSlot_own, ↓wEsc_d, ↓wEsc_fresh, ↓wEsc_plc, ↓wEscS_val, ↓wEscS_own, ↓wEscs_nil, ↓wEscs_cons, ↓w_frz, ↓w_tup, ↓w_lst, ↓w_bool, ↓w_tru, ↓w_notT, ↓w_andT, ↓w_orT, ↓w_if, ↓w_and, ↓w_or, ↓w_not, ↓w_chain, ↓wB_bl, ↓w_noPart, ↓w_part, ↓w_slice, ↓w_call, ↓wPlc_cons, ↓wOwn_own, ↓w_callIo, ↓isLst_lst, ↓w_meth, ↓w_ext, ↓wExt_ok, ↓ws_next, ↓ws_bk, ↓ws_ct, ↓ws_rt, ↓ws_nx, ↓ws_seq, ↓ws_drop, ↓ws_ret, ↓ws_if, ↓ws_set, ↓wSet_d, ↓wSet_fresh, ↓wSet_plc, ↓ws_asg, ↓wt_name, ↓wt_nil, ↓wt_cons, ↓wt_tup, ↓wt_lst, ↓wPar_two, ↓ws_par, ↓wLstS_own, ↓wInt_int, ↓ws_item, ↓ws_for, ↓w_zip, ↓w_iter, ↓wItems_lst, ↓wItems_tup, ↓w_rng, ↓wRet_d, ↓wRet_fresh, ↓wRet_plc, ↓wRetS_val, ↓wRetS_own, ↓wRetS_ownS, ↓wI_some, ↓wI_none, ↓wI_ite, List.getElem?_cons_zero, List.getElem?_cons_succ, List.set_cons_zero, List.set_cons_succ, o_lt, o_sub, decide_eq_true_eq]
    split <;> simp
  rintro _ rfl
  simp only [↓w_var, ↓wVar_val, ↓wVar_own, ↓w_c, ↓w_nil, ↓w_cons, ↓w_app, ↓wViews_nil, ↓wViews_cons, ↓wView_d, ↓wView_fresh, ↓wView_plc, ↓wSlot_val, ↓wSlot_own, ↓wEsc_d, ↓wEsc_fresh, ↓wEsc_plc, ↓wEscS_val, ↓wEscS_own, ↓wEscs_nil, ↓wEscs_cons, ↓w_frz, ↓w_tup, ↓w_lst, ↓w_bool, ↓w_tru, ↓w_notT, ↓w_andT, ↓w_orT, ↓w_if, ↓w_and, ↓w_or, ↓w_not, ↓w_chain, ↓wB_bl, ↓w_noPart, ↓w_part, ↓w_slice, ↓w_call, ↓wPlc_cons, ↓wOwn_own, ↓w_callIo, ↓isLst_lst, ↓w_meth, ↓w_ext, ↓wExt_ok, ↓ws_next, ↓ws_bk, ↓ws_ct, ↓ws_rt, ↓ws_nx, ↓ws_seq, ↓ws_drop, ↓ws_ret, ↓ws_if, ↓ws_set, ↓wSet_d, ↓wSet_fresh, ↓wSet_plc, ↓ws_asg, ↓wt_name, ↓wt_nil, ↓wt_cons, ↓wt_tup, ↓wt_lst, ↓wPar_two, ↓ws_par, ↓wLstS_own, ↓wInt_int, ↓ws_item, ↓ws_for, ↓w_zip, ↓w_iter, ↓wItems_lst, ↓wItems_tup, ↓w_rng, ↓wRet_d, ↓wRet_fresh, ↓wRet_plc, ↓wRetS_val, ↓wRetS_own, ↓wRetS_ownS, ↓wI_some, ↓wI_none, ↓wI_ite, List.getElem?_cons_zero, List.getElem?_cons_succ, List.set_cons_zero, List.set_cons_succ, o_abs]
  rw [hC _ _ (by split <;> omega) (by split <;> omega)]
  have g1 : Int.gcd (if (if q < 0 then -p else p) < 0 then -(if q < 0 then -p else p) else (if q < 0 then -p else p)) (if q < 0 then -q else q) = Int.gcd p q := by
    rw [gcd_abs]
    split
    · rw [Int.neg_gcd, Int.gcd_neg]
    · rfl
  rw [g1]
  have gp : 0 < (Int.gcd p q : Int) := by
    have := Int.gcd_pos_of_ne_zero_right p hq
    omega
  have gl : nb ((Int.gcd p q : Int)).natAbs ≤ 9000 := Nat.le_trans (nb_mono (by
    rw [Int.natAbs_natCast]
    exact Nat.le_of_dvd (by omega) (Int.gcd_dvd_natAbs_right p q))) hb
  simp (disch := assumption) only [wF0_ok, ↓w_var, ↓wVar_val, ↓wVar_own, ↓w_c, ↓w_nil, ↓w_cons, ↓w_app, ↓wViews_nil, ↓wViews_cons, ↓wView_d, ↓wView_fresh, ↓wView_plc, ↓wSlot_val, ↓wSlot_own, ↓wEsc_d, ↓wEsc_fresh, ↓wEsc_plc, ↓wEscS_val, ↓wEscS_own, ↓wEscs_nil, ↓wEscs_cons, ↓w_frz, ↓w_tup, ↓w_lst, ↓w_bool, ↓w_tru, ↓w_notT, ↓w_andT, ↓w_orT, ↓w_if, ↓w_and, ↓w_or, ↓w_not, ↓w_chain, ↓wB_bl, ↓w_noPart, ↓w_part, ↓w_slice, ↓w_call, ↓wPlc_cons, ↓wOwn_own, ↓w_callIo, ↓isLst_lst, ↓w_meth, ↓w_ext, ↓wExt_ok, ↓ws_next, ↓ws_bk, ↓ws_ct, ↓ws_rt, ↓ws_nx, ↓ws_seq, ↓ws_drop, ↓ws_ret, ↓ws_if, ↓ws_set, ↓wSet_d, ↓wSet_fresh, ↓wSet_plc, ↓ws_asg, ↓wt_name, ↓wt_nil, ↓wt_cons, ↓wt_tup, ↓wt_lst, ↓wPar_two, ↓ws_par, ↓wLstS_own, ↓wInt_int, ↓ws_item, ↓ws_for, ↓w_zip, ↓w_iter, ↓wItems_lst, ↓wItems_tup, ↓w_rng, ↓wRet_d, ↓wRet_fresh, ↓wRet_plc, ↓wRetS_val, ↓wRetS_own, ↓wRetS_ownS, ↓wI_some, ↓wI_none, ↓wI_ite, List.getElem?_cons_zero, List.getElem?_cons_succ, List.set_cons_zero, List.set_cons_succ, o_divN]
  rw [← fr_divInt hq]
  rfl
noncomputable def byB (F : List D → FRes) : SDen :=
 sRet (dCall F [dApp oMul [dApp oIx [dVar 0, dC (.int 0)], dApp oIx [dVar 1, dC (.int 1)]], dApp oMul [dApp oIx [dVar 0, dC (.int 1)], dApp oIx [dVar 1, dC (.int 0)]]])
theorem by_e {F : List D → FRes} (hF : FractionE F) : DividedE (runFn 2 2 false (byB F)) := by
  intro x y hy h
  obtain ⟨hd, h⟩ := h
  have x1 := rb_num x
  have x2 := rb_den x
  have y1 := rb_num y
  have y2 := rb_den y
  have m := nb_imul x.den y.num
  have hy' := num_ne hy
  rw [Int.natAbs_natCast] at m
  refine eq_of_w (w_run0 rfl ?_)
  show wS (byB F [Sl.val (fr x), .val (fr y)]) _
  unfold byB
  simp (disch := first | assumption | omega | (simp only [Int.natAbs_natCast]; omega)) only [↓w_var, ↓wVar_val, ↓wVar_own, ↓w_c, ↓w_nil, ↓w_cons, ↓w_app, ↓wViews_nil, ↓wViews_cons, ↓wView_d, ↓wView_fresh, ↓wView_plc, ↓wSlot_val, ↓wSlot_own, ↓wEsc_d, ↓wEsc_fresh, ↓wEsc_plc, ↓wEscS_val, ↓wEscS_own, ↓wEscs_nil, ↓wEscs_cons, ↓w_frz, ↓w_tup, ↓w_lst, ↓w_bool, ↓w_tru, ↓w_notT, ↓w_andT, ↓w_orT, ↓w_if, ↓w_and, ↓w_or, ↓w_not, ↓w_chain, ↓wB_bl, ↓w_noPart, ↓w_part, ↓w_slice, ↓w_call, ↓wPlc_cons, ↓wOwn_own, ↓w_callIo, ↓isLst_lst, ↓w_meth, ↓w_ext, ↓wExt_ok, ↓ws_next, ↓ws_bk, ↓ws_ct, ↓ws_rt, ↓ws_nx, ↓ws_seq, ↓ws_drop, ↓ws_ret, ↓ws_if, ↓ws_set, ↓wSet_d, ↓wSet_fresh, ↓wSet_plc, ↓ws_asg, ↓wt_name, ↓wt_nil, ↓wt_cons, ↓wt_tup, ↓wt_lst, ↓wPar_two, ↓ws_par, ↓wLstS_own, ↓wInt_int, ↓ws_item, ↓ws_for, ↓w_zip, ↓w_iter, ↓wItems_lst, ↓wItems_tup, ↓w_rng, ↓wRet_d, ↓wRet_fresh, ↓wRet_plc, ↓wRetS_val, ↓wRetS_own, ↓wRetS_ownS, ↓wI_some, ↓wI_none, ↓wI_ite, List.getElem?_cons_zero, List.getElem?_cons_succ, List.set_cons_zero, List.set_cons_succ, fr_ix0, fr_ix1, o_mulN]
  rw [hF _ _ (Int.mul_ne_zero (Int.ne_of_gt (den_pos x)) hy') (by omega), divInt_dv]
  simp only [wF0_ok, ↓w_var, ↓wVar_val, ↓wVar_own, ↓w_c, ↓w_nil, ↓w_cons, ↓w_app, ↓wViews_nil, ↓wViews_cons, ↓wView_d, ↓wView_fresh, ↓wView_plc, ↓wSlot_val, ↓wSlot_own, ↓wEsc_d, ↓wEsc_fresh, ↓wEsc_plc, ↓wEscS_val, ↓wEscS_own, ↓wEscs_nil, ↓wEscs_cons, ↓w_frz, ↓w_tup, ↓w_lst, ↓w_bool, ↓w_tru, ↓w_notT, ↓w_andT, ↓w_orT, ↓w_if, ↓w_and, ↓w_or, ↓w_not, ↓w_chain, ↓wB_bl, ↓w_noPart, ↓w_part, ↓w_slice, ↓w_call, ↓wPlc_cons, ↓wOwn_own, ↓w_callIo, ↓isLst_lst, ↓w_meth, ↓w_ext, ↓wExt_ok, ↓ws_next, ↓ws_bk, ↓ws_ct, ↓ws_rt, ↓ws_nx, ↓ws_seq, ↓ws_drop, ↓ws_ret, ↓ws_if, ↓ws_set, ↓wSet_d, ↓wSet_fresh, ↓wSet_plc, ↓ws_asg, ↓wt_name, ↓wt_nil, ↓wt_cons, ↓wt_tup, ↓wt_lst, ↓wPar_two, ↓ws_par, ↓wLstS_own, ↓wInt_int, ↓ws_item, ↓ws_for, ↓w_zip, ↓w_iter, ↓wItems_lst, ↓wItems_tup, ↓w_rng, ↓wRet_d, ↓wRet_fresh, ↓wRet_plc, ↓wRetS_val, ↓wRetS_own, ↓wRetS_ownS, ↓wI_some, ↓wI_none, ↓wI_ite, List.getElem?_cons_zero, List.getElem?_cons_succ, List.set_cons_zero, List.set_cons_succ]
noncomputable def turnedB : SDen :=
 sRet (dTup [dApp oSub [dC (.int 0), dApp oIx [dVar 0, dC (.int 0)]], dApp oIx [dVar 0, dC (.int 1)]])
abbrev TurnedE (A : List D → FRes) : Prop := ∀ x : Rat, A [fr x] = .ok (.d (fr (-x))) none
theorem neg_fr {x : Rat} : D.tup [.int (-x.num), .int x.den] = fr (-x) := by
  unfold fr
  rw [Rat.neg_num, Rat.neg_den]
theorem turned_e : TurnedE (runFn 1 1 false turnedB) := by
  intro x
  refine eq_of_w (w_run0 rfl ?_)
  show wS (turnedB [Sl.val (fr x)]) _
  unfold turnedB
  simp only [↓w_var, ↓wVar_val, ↓wVar_own, ↓w_c, ↓w_nil, ↓w_cons, ↓w_app, ↓wViews_nil, ↓wViews_cons, ↓wView_d, ↓wView_fresh, ↓wView_plc, ↓wSlot_val, ↓wSlot_own, ↓wEsc_d, ↓wEsc_fresh, ↓wEsc_plc, ↓wEscS_val, ↓wEscS_own, ↓wEscs_nil, ↓wEscs_cons, ↓w_frz, ↓w_tup, ↓w_lst, ↓w_bool, ↓w_tru, ↓w_notT, ↓w_andT, ↓w_orT, ↓w_if, ↓w_and, ↓w_or, ↓w_not, ↓w_chain, ↓wB_bl, ↓w_noPart, ↓w_part, ↓w_slice, ↓w_call, ↓wPlc_cons, ↓wOwn_own, ↓w_callIo, ↓isLst_lst, ↓w_meth, ↓w_ext, ↓wExt_ok, ↓ws_next, ↓ws_bk, ↓ws_ct, ↓ws_rt, ↓ws_nx, ↓ws_seq, ↓ws_drop, ↓ws_ret, ↓ws_if, ↓ws_set, ↓wSet_d, ↓wSet_fresh, ↓wSet_plc, ↓ws_asg, ↓wt_name, ↓wt_nil, ↓wt_cons, ↓wt_tup, ↓wt_lst, ↓wPar_two, ↓ws_par, ↓wLstS_own, ↓wInt_int, ↓ws_item, ↓ws_for, ↓w_zip, ↓w_iter, ↓wItems_lst, ↓wItems_tup, ↓w_rng, ↓wRet_d, ↓wRet_fresh, ↓wRet_plc, ↓wRetS_val, ↓wRetS_own, ↓wRetS_ownS, ↓wI_some, ↓wI_none, ↓wI_ite, List.getElem?_cons_zero, List.getElem?_cons_succ, List.set_cons_zero, List.set_cons_succ, fr_ix0, fr_ix1, o_sub, Int.zero_sub, neg_fr]
noncomputable def notAboveB : SDen :=
 sRet (dApp oLe [dApp oMul [dApp oIx [dVar 0, dC (.int 0)], dApp oIx [dVar 1, dC (.int 1)]], dApp oMul [dApp oIx [dVar 1, dC (.int 0)], dApp oIx [dVar 0, dC (.int 1)]]])
abbrev NotAboveE (A : List D → FRes) : Prop := ∀ x y : Rat, rb x + rb y ≤ 50000000 → A [fr x, fr y] = .ok (.d (.bl (decide (x ≤ y)))) none
theorem notAbove_e : NotAboveE (runFn 2 2 false notAboveB) := by
  intro x y h
  have x1 := rb_num x
  have x2 := rb_den x
  have y1 := rb_num y
  have y2 := rb_den y
  refine eq_of_w (w_run0 rfl ?_)
  show wS (notAboveB [Sl.val (fr x), .val (fr y)]) _
  unfold notAboveB
  simp (disch := first | assumption | omega | (simp only [Int.natAbs_natCast]; omega)) only [↓w_var, ↓wVar_val, ↓wVar_own, ↓w_c, ↓w_nil, ↓w_cons, ↓w_app, ↓wViews_nil, ↓wViews_cons, ↓wView_d, ↓wView_fresh, ↓wView_plc, ↓wSlot_val, ↓wSlot_own, ↓wEsc_d, ↓wEsc_fresh, ↓wEsc_plc, ↓wEscS_val, ↓wEscS_own, ↓wEscs_nil, ↓wEscs_cons, ↓w_frz, ↓w_tup, ↓w_lst, ↓w_bool, ↓w_tru, ↓w_notT, ↓w_andT, ↓w_orT, ↓w_if, ↓w_and, ↓w_or, ↓w_not, ↓w_chain, ↓wB_bl, ↓w_noPart, ↓w_part, ↓w_slice, ↓w_call, ↓wPlc_cons, ↓wOwn_own, ↓w_callIo, ↓isLst_lst, ↓w_meth, ↓w_ext, ↓wExt_ok, ↓ws_next, ↓ws_bk, ↓ws_ct, ↓ws_rt, ↓ws_nx, ↓ws_seq, ↓ws_drop, ↓ws_ret, ↓ws_if, ↓ws_set, ↓wSet_d, ↓wSet_fresh, ↓wSet_plc, ↓ws_asg, ↓wt_name, ↓wt_nil, ↓wt_cons, ↓wt_tup, ↓wt_lst, ↓wPar_two, ↓ws_par, ↓wLstS_own, ↓wInt_int, ↓ws_item, ↓ws_for, ↓w_zip, ↓w_iter, ↓wItems_lst, ↓wItems_tup, ↓w_rng, ↓wRet_d, ↓wRet_fresh, ↓wRet_plc, ↓wRetS_val, ↓wRetS_own, ↓wRetS_ownS, ↓wI_some, ↓wI_none, ↓wI_ite, List.getElem?_cons_zero, List.getElem?_cons_succ, List.set_cons_zero, List.set_cons_succ, fr_ix0, fr_ix1, o_mulN, o_le]
  rw [decide_eq_decide.mpr (Rat.le_iff x y).symm]
noncomputable def lowLogB : SDen :=
 sSeq (sSet 1 (dApp oSub [dApp oBits [dApp oIx [dVar 0, dC (.int 0)]], dApp oBits [dApp oIx [dVar 0, dC (.int 1)]]]))
 (sSeq (sSet 2 (dIf (dBool (dApp oGe [dVar 1, dC (.int 0)])) (dApp oGe [dApp oIx [dVar 0, dC (.int 0)], dApp oShl [dApp oIx [dVar 0, dC (.int 1)], dVar 1]]) (dApp oGe [dApp oShl [dApp oIx [dVar 0, dC (.int 0)], dApp oSub [dC (.int 0), dVar 1]], dApp oIx [dVar 0, dC (.int 1)]])))
 (sRet (dIf (dTru (dVar 2)) (dVar 1) (dApp oSub [dVar 1, dC (.int 1)]))))
theorem lowLog_e : FloorE (runFn 3 1 false lowLogB) := by
  intro x h hb
  have x1 := rb_num x
  have x2 := rb_den x
  have n1 := nbi_bd x.num
  have n2 := nbi_bd x.den
  rw [Int.natAbs_natCast] at n2
  refine eq_of_w (w_run0 rfl ?_)
  show wS (lowLogB [Sl.val (fr x), .no, .no]) _
  unfold lowLogB
  have e := zpow2_le x (nbi x.num - nbi x.den)
  by_cases ht : nbi x.num - nbi x.den < 0
  · rw [if_pos ht] at e
    have hg : ¬ 0 ≤ nbi x.num - nbi x.den := by omega
    simp (disch := first | assumption | omega | (simp only [Int.natAbs_natCast]; omega)) only [↓w_var, ↓wVar_val, ↓wVar_own, ↓w_c, ↓w_nil, ↓w_cons, ↓w_app, ↓wViews_nil, ↓wViews_cons, ↓wView_d, ↓wView_fresh, ↓wView_plc, ↓wSlot_val, ↓wSlot_own, ↓wEsc_d, ↓wEsc_fresh, ↓wEsc_plc, ↓wEscS_val, ↓wEscS_own, ↓wEscs_nil, ↓wEscs_cons, ↓w_frz, ↓w_tup, ↓w_lst, ↓w_bool, ↓w_tru, ↓w_notT, ↓w_andT, ↓w_orT, ↓w_if, ↓w_and, ↓w_or, ↓w_not, ↓w_chain, ↓wB_bl, ↓w_noPart, ↓w_part, ↓w_slice, ↓w_call, ↓wPlc_cons, ↓wOwn_own, ↓w_callIo, ↓isLst_lst, ↓w_meth, ↓w_ext, ↓wExt_ok, ↓ws_next, ↓ws_bk, ↓ws_ct, ↓ws_rt, ↓ws_nx, ↓ws_seq, ↓ws_drop, ↓ws_ret, ↓ws_if, ↓ws_set, ↓wSet_d, ↓wSet_fresh, ↓wSet_plc, ↓ws_asg, ↓wt_name, ↓wt_nil, ↓wt_cons, ↓wt_tup, ↓wt_lst, ↓wPar_two, ↓ws_par, ↓wLstS_own, ↓wInt_int, ↓ws_item, ↓ws_for, ↓w_zip, ↓w_iter, ↓wItems_lst, ↓wItems_tup, ↓w_rng, ↓wRet_d, ↓wRet_fresh, ↓wRet_plc, ↓wRetS_val, ↓wRetS_own, ↓wRetS_ownS, ↓wI_some, ↓wI_none, ↓wI_ite, List.getElem?_cons_zero, List.getElem?_cons_succ, List.set_cons_zero, List.set_cons_succ, fr_ix0, fr_ix1, o_bitsN, o_sub, o_ge, hg, decide_false, Bool.false_eq_true, ↓reduceIte, o_shlN, tru_bl, decide_eq_true_eq, Int.zero_sub]
    unfold flog
    by_cases hc : (2 : Rat) ^ (nbi x.num - nbi x.den) ≤ x
    · rw [if_pos hc, if_pos (e.mp hc)]
    · rw [if_neg hc, if_neg fun z => hc (e.mpr z)]
  · rw [if_neg ht] at e
    have hg : 0 ≤ nbi x.num - nbi x.den := by omega
    simp (disch := first | assumption | omega | (simp only [Int.natAbs_natCast]; omega)) only [↓w_var, ↓wVar_val, ↓wVar_own, ↓w_c, ↓w_nil, ↓w_cons, ↓w_app, ↓wViews_nil, ↓wViews_cons, ↓wView_d, ↓wView_fresh, ↓wView_plc, ↓wSlot_val, ↓wSlot_own, ↓wEsc_d, ↓wEsc_fresh, ↓wEsc_plc, ↓wEscS_val, ↓wEscS_own, ↓wEscs_nil, ↓wEscs_cons, ↓w_frz, ↓w_tup, ↓w_lst, ↓w_bool, ↓w_tru, ↓w_notT, ↓w_andT, ↓w_orT, ↓w_if, ↓w_and, ↓w_or, ↓w_not, ↓w_chain, ↓wB_bl, ↓w_noPart, ↓w_part, ↓w_slice, ↓w_call, ↓wPlc_cons, ↓wOwn_own, ↓w_callIo, ↓isLst_lst, ↓w_meth, ↓w_ext, ↓wExt_ok, ↓ws_next, ↓ws_bk, ↓ws_ct, ↓ws_rt, ↓ws_nx, ↓ws_seq, ↓ws_drop, ↓ws_ret, ↓ws_if, ↓ws_set, ↓wSet_d, ↓wSet_fresh, ↓wSet_plc, ↓ws_asg, ↓wt_name, ↓wt_nil, ↓wt_cons, ↓wt_tup, ↓wt_lst, ↓wPar_two, ↓ws_par, ↓wLstS_own, ↓wInt_int, ↓ws_item, ↓ws_for, ↓w_zip, ↓w_iter, ↓wItems_lst, ↓wItems_tup, ↓w_rng, ↓wRet_d, ↓wRet_fresh, ↓wRet_plc, ↓wRetS_val, ↓wRetS_own, ↓wRetS_ownS, ↓wI_some, ↓wI_none, ↓wI_ite, List.getElem?_cons_zero, List.getElem?_cons_succ, List.set_cons_zero, List.set_cons_succ, fr_ix0, fr_ix1, o_bitsN, o_sub, o_ge, hg, decide_true, ↓reduceIte, o_shlN, tru_bl, decide_eq_true_eq]
    unfold flog
    by_cases hc : (2 : Rat) ^ (nbi x.num - nbi x.den) ≤ x
    · rw [if_pos hc, if_pos (e.mp hc)]
    · rw [if_neg hc, if_neg fun z => hc (e.mpr z)]
noncomputable def highLogB (A : List D → FRes) : SDen :=
 sRet (dApp oSub [dC (.int 0), dCall A [dTup [dApp oIx [dVar 0, dC (.int 1)], dApp oIx [dVar 0, dC (.int 0)]]]])
theorem highLog_e {A : List D → FRes} (hA : FloorE A) : CeilE (runFn 1 1 false (highLogB A)) := by
  intro x h hb
  refine eq_of_w (w_run0 rfl ?_)
  show wS (highLogB A [Sl.val (fr x)]) _
  unfold highLogB
  simp only [↓w_var, ↓wVar_val, ↓wVar_own, ↓w_c, ↓w_nil, ↓w_cons, ↓w_app, ↓wViews_nil, ↓wViews_cons, ↓wView_d, ↓wView_fresh, ↓wView_plc, ↓wSlot_val, ↓wSlot_own, ↓wEsc_d, ↓wEsc_fresh, ↓wEsc_plc, ↓wEscS_val, ↓wEscS_own, ↓wEscs_nil, ↓wEscs_cons, ↓w_frz, ↓w_tup, ↓w_lst, ↓w_bool, ↓w_tru, ↓w_notT, ↓w_andT, ↓w_orT, ↓w_if, ↓w_and, ↓w_or, ↓w_not, ↓w_chain, ↓wB_bl, ↓w_noPart, ↓w_part, ↓w_slice, ↓w_call, ↓wPlc_cons, ↓wOwn_own, ↓w_callIo, ↓isLst_lst, ↓w_meth, ↓w_ext, ↓wExt_ok, ↓ws_next, ↓ws_bk, ↓ws_ct, ↓ws_rt, ↓ws_nx, ↓ws_seq, ↓ws_drop, ↓ws_ret, ↓ws_if, ↓ws_set, ↓wSet_d, ↓wSet_fresh, ↓wSet_plc, ↓ws_asg, ↓wt_name, ↓wt_nil, ↓wt_cons, ↓wt_tup, ↓wt_lst, ↓wPar_two, ↓ws_par, ↓wLstS_own, ↓wInt_int, ↓ws_item, ↓ws_for, ↓w_zip, ↓w_iter, ↓wItems_lst, ↓wItems_tup, ↓w_rng, ↓wRet_d, ↓wRet_fresh, ↓wRet_plc, ↓wRetS_val, ↓wRetS_own, ↓wRetS_ownS, ↓wI_some, ↓wI_none, ↓wI_ite, List.getElem?_cons_zero, List.getElem?_cons_succ, List.set_cons_zero, List.set_cons_succ, fr_ix0, fr_ix1]
  rw [inv_fr h, hA _ (Rat.inv_pos.mpr h) (Nat.le_trans (rb_inv x) hb)]
  simp only [wF0_ok, ↓w_var, ↓wVar_val, ↓wVar_own, ↓w_c, ↓w_nil, ↓w_cons, ↓w_app, ↓wViews_nil, ↓wViews_cons, ↓wView_d, ↓wView_fresh, ↓wView_plc, ↓wSlot_val, ↓wSlot_own, ↓wEsc_d, ↓wEsc_fresh, ↓wEsc_plc, ↓wEscS_val, ↓wEscS_own, ↓wEscs_nil, ↓wEscs_cons, ↓w_frz, ↓w_tup, ↓w_lst, ↓w_bool, ↓w_tru, ↓w_notT, ↓w_andT, ↓w_orT, ↓w_if, ↓w_and, ↓w_or, ↓w_not, ↓w_chain, ↓wB_bl, ↓w_noPart, ↓w_part, ↓w_slice, ↓w_call, ↓wPlc_cons, ↓wOwn_own, ↓w_callIo, ↓isLst_lst, ↓w_meth, ↓w_ext, ↓wExt_ok, ↓ws_next, ↓ws_bk, ↓ws_ct, ↓ws_rt, ↓ws_nx, ↓ws_seq, ↓ws_drop, ↓ws_ret, ↓ws_if, ↓ws_set, ↓wSet_d, ↓wSet_fresh, ↓wSet_plc, ↓ws_asg, ↓wt_name, ↓wt_nil, ↓wt_cons, ↓wt_tup, ↓wt_lst, ↓wPar_two, ↓ws_par, ↓wLstS_own, ↓wInt_int, ↓ws_item, ↓ws_for, ↓w_zip, ↓w_iter, ↓wItems_lst, ↓wItems_tup, ↓w_rng, ↓wRet_d, ↓wRet_fresh, ↓wRet_plc, ↓wRetS_val, ↓wRetS_own, ↓wRetS_ownS, ↓wI_some, ↓wI_none, ↓wI_ite, List.getElem?_cons_zero, List.getElem?_cons_succ, List.set_cons_zero, List.set_cons_succ, o_sub, Int.zero_sub]
  rfl
/-! ### whole numbers' logarithms -/
theorem int_posR {i : Int} (h : 0 < i) : (0 : Rat) < (i : Rat) := by
  rw [Rat.lt_iff]
  simpa using h
theorem flog_int {s : Nat} (h : 0 < s) : flog ((s : Int) : Rat) = nb s - 1 := by
  have hp := int_posR (i := (s : Int)) (by omega)
  have h1 : (2 : Rat) ^ ((nb s : Int) - 1) ≤ ((s : Int) : Rat) := by
    have e : ((nb s : Int) - 1) = ((nb s - 1 : Nat) : Int) := by
      have := nb_pos s
      omega
    rw [e, Rat.zpow_natCast, pow2_cast]
    apply icast_le.mpr
    have := nb_ge h
    have c : ((2 ^ (nb s - 1) : Nat) : Int) = 2 ^ (nb s - 1) := by simp
    omega
  have h2 : ¬ (2 : Rat) ^ (nb s : Int) ≤ ((s : Int) : Rat) := by
    rw [Rat.zpow_natCast, pow2_cast]
    intro z
    have := icast_le.mp z
    have := lt_nb s
    have c : ((2 ^ nb s : Nat) : Int) = 2 ^ nb s := by simp
    omega
  rw [flog_le hp] at h1 h2
  omega
theorem clog_int {s : Nat} (h : 2 ≤ s) : clog ((s : Int) : Rat) = nb (s - 1) := by
  have hp := int_posR (i := (s : Int)) (by omega)
  have h1 : ((s : Int) : Rat) ≤ (2 : Rat) ^ (nb (s - 1) : Int) := by
    rw [Rat.zpow_natCast, pow2_cast]
    apply icast_le.mpr
    have := lt_nb (s - 1)
    have c : ((2 ^ nb (s - 1) : Nat) : Int) = 2 ^ nb (s - 1) := by simp
    omega
  have h2 : ¬ ((s : Int) : Rat) ≤ (2 : Rat) ^ ((nb (s - 1) : Int) - 1) := by
    have e : ((nb (s - 1) : Int) - 1) = ((nb (s - 1) - 1 : Nat) : Int) := by
      have := nb_pos (s - 1)
      omega
    rw [e, Rat.zpow_natCast, pow2_cast]
    intro z
    have := icast_le.mp z
    have := nb_ge (n := s - 1) (by omega)
    have c : ((2 ^ (nb (s - 1) - 1) : Nat) : Int) = 2 ^ (nb (s - 1) - 1) := by simp
    omega
  rw [clog_le hp] at h1 h2
  omega
theorem nbi_nat {s : Nat} (h : 0 < s) : nbi (s : Nat) = nb s := by
  rw [nbi_pos (by omega), Int.natAbs_natCast]
end DL
set_option maxHeartbeats 4000000
/-! DL, part 31: levels: four ups held. -/
namespace DL
open PySem PySem.Spec PyProof.Rows L2
theorem comp_fil {v : Nat} {fi : DEnv → Out (List D)} {ff : DEnv → Out Bool} {fe : Den} {ρ : DEnv} {Q : RV → DEnv → Prop} {E : Exn → DEnv → Prop} (g : D → Bool) (h : D → D)
    (H : wO (fi ρ) (fun ds ρ1 => ds.length ≤ 1000000 ∧ (∀ d ∈ ds, wO (ff (ρ1.set v (.val d))) (fun b ρ2 => b = g d ∧ ρ2 = ρ1.set v (.val d)) fun _ _ => False) ∧
      (∀ d ∈ ds, g d = true → wO (fe (ρ1.set v (.val d))) (fun r ρ3 => wI (esc ρ3 r) fun p => p.1 = h d ∧ p.2.set v .no = ρ1.set v .no) fun _ _ => False) ∧ Q (.fresh (.lst ((ds.filter g).map h))) ρ1) E) : wO (dComp [v] fi (tName v) ff fe ρ) Q E := by
  rw [w_comp]
  refine wO_mono H (fun ds ρ1 ⟨hl, hf, he, hq⟩ => ?_) fun _ _ z => z
  refine comp_inv (ρ := ρ1) (fun rest acc ρ2 => ρ2.set v .no = ρ1.set v .no ∧ ∃ done, ds = done ++ rest ∧ acc = (done.filter g).map h) ⟨rfl, [], rfl, rfl⟩ ?_ ?_
  · rintro d rest acc ρ2 ⟨h2, done, e1, rfl⟩
    show wI (tName v d (wipeD ρ2 [v])) _
    rw [wt_name]
    have e2 : (wipeD ρ2 [v]).set v (.val d) = ρ1.set v (.val d) := set_val_no h2
    rw [e2]
    have hm : d ∈ ds := by rw [e1]; simp
    refine wO_mono (hf d hm) (fun b ρ3 hb => ?_) fun _ _ z => z
    obtain ⟨rfl, rfl⟩ := hb
    cases hg : g d with
    | false =>
      rw [if_neg Bool.false_ne_true]
      refine ⟨by rw [List.set_set], done ++ [d], by rw [e1]; simp, ?_⟩
      rw [List.filter_append, List.filter_cons, hg]
      simp
    | true =>
      rw [if_pos rfl]
      refine wO_mono (he d hm hg) (fun r ρ3 hr => ?_) fun _ _ z => z
      cases q : esc ρ3 r with
      | none => rw [q] at hr; exact hr.elim
      | some p =>
        rw [q] at hr
        obtain ⟨r1, r2⟩ := (hr : p.1 = h d ∧ p.2.set v .no = ρ1.set v .no)
        refine ⟨okLen_of ?_, r2, done ++ [d], by rw [e1]; simp, ?_⟩
        · have := congrArg List.length e1
          rw [List.length_append] at this
          rw [List.length_map]
          have := List.length_filter_le g done
          omega
        · rw [List.filter_append, List.filter_cons, hg, r1]
          simp
  · rintro acc ρ2 ⟨h2, done, e1, rfl⟩
    rw [unw_same h2, show done = ds by rw [e1]; simp]
    exact hq

def fourD (q : Nat → Rat) : D := .tup [fr (q 0), fr (q 1), fr (q 2), fr (q 3)]
theorem four_ix {q : Nat → Rat} {k : Nat} {Q : RV → Prop} (h : k < 4) : wI (oIx [fourD q, .int (k : Nat)]) Q = Q (.d (fr (q k))) := by
  match k, h with
  | 0, _ => exact id rfl
  | 1, _ => exact id rfl
  | 2, _ => exact id rfl
  | 3, _ => exact id rfl
def pl (q : Nat → Rat) : List Nat := (List.range 4).filter fun k => decide (q k ≠ 0)
def natsD (l : List Nat) : List D := l.map fun (k : Nat) => .int (k : Nat)
theorem pl_eq (q : Nat → Rat) (g : D → Bool) (hg : ∀ k : Nat, k < 4 → g (.int (k : Nat)) = decide (q k ≠ 0)) : ((rangeD 0 4).filter g).map id = natsD (pl q) := by
  have e : rangeD 0 4 = [.int (0 : Nat), .int (1 : Nat), .int (2 : Nat), .int (3 : Nat)] := rfl
  have e2 : List.range 4 = [0, 1, 2, 3] := rfl
  have g0 := hg 0 (by omega)
  have g1 := hg 1 (by omega)
  have g2 := hg 2 (by omega)
  have g3 := hg 3 (by omega)
  unfold pl natsD
  rw [e, e2]
  simp only [List.filter_cons, List.filter_nil, g0, g1, g2, g3]
  by_cases h0 : q 0 = 0 <;> by_cases h1 : q 1 = 0 <;> by_cases h2 : q 2 = 0 <;> by_cases h3 : q 3 = 0 <;> simp [h0, h1, h2, h3]
theorem pl_mem {q : Nat → Rat} {k : Nat} (h : k ∈ pl q) : k < 4 ∧ q k ≠ 0 := by
  unfold pl at h
  rw [List.mem_filter, List.mem_range] at h
  exact ⟨h.1, by simpa using h.2⟩
theorem pl_len (q : Nat → Rat) : (pl q).length ≤ 4 := Nat.le_trans (List.length_filter_le _ _) (by simp)
def firstP (q : Nat → Rat) : Option Nat := (pl q).head?
def optN' : Option Nat → D
  | none => .non
  | some k => .int (k : Nat)
theorem sh_nats {l : List Nat} : shP (.lst (natsD l)) = true := by
  refine shP_of (k := 1) ?_ (by omega)
  rw [shN]
  refine shNs_of fun d hd => ?_
  obtain ⟨k, _, rfl⟩ := List.mem_map.mp hd
  rfl
theorem nats_ne {l : List Nat} : eqP (.lst (natsD l)) (.lst []) = l.isEmpty := by
  cases l with
  | nil => rw [eq_ll]; exact eq_00
  | cons k l => rw [eq_ll]; exact eq_c0
noncomputable def firstB : SDen :=
 sSeq (sSet 1 (dComp [2] (dRng [dC (.int 4)]) (tName 2) (dBool (dApp oNe [dApp oIx [dVar 0, dVar 2], dC (.tup [.int 0, .int 1])])) (dVar 2)))
 (sRet (dIf (dBool (dApp oNe [dVar 1, dLst []])) (dApp oIx [dVar 1, dC (.int 0)]) (dC .non)))
abbrev FirstE (A : List D → FRes) : Prop := ∀ q : Nat → Rat, A [fourD q] = .ok (.d (optN' (firstP q))) none
theorem rng4 {Q : List D → Prop} : wI (rngD [4]) Q = Q (rangeD 0 4) := id rfl
theorem intsR1 {i : Int} {Q : List Int → Prop} : wI (intsR [RV.d (.int i)]) Q = Q [i] := id rfl
theorem intsR2 {i j : Int} {Q : List Int → Prop} : wI (intsR [RV.d (.int i), RV.d (.int j)]) Q = Q [i, j] := id rfl
theorem mem_rng4 {d : D} (h : d ∈ rangeD 0 4) : ∃ k : Nat, k < 4 ∧ d = .int (k : Nat) := by
  have e : rangeD 0 4 = [.int (0 : Nat), .int (1 : Nat), .int (2 : Nat), .int (3 : Nat)] := rfl
  rw [e] at h
  simp only [List.mem_cons, List.not_mem_nil, or_false] at h
  rcases h with rfl | rfl | rfl | rfl
  · exact ⟨0, by omega, rfl⟩
  · exact ⟨1, by omega, rfl⟩
  · exact ⟨2, by omega, rfl⟩
  · exact ⟨3, by omega, rfl⟩
def nozD (q : Nat → Rat) : D → Bool
  | .int i => decide (q i.toNat ≠ 0)
  | _ => false
theorem first_e : FirstE (runFn 3 1 false firstB) := by
  intro q
  refine eq_of_w (w_run0 rfl ?_)
  show wS (firstB [Sl.val (fourD q), .no, .no]) _
  unfold firstB
  simp only [↓w_var, ↓wVar_val, ↓wVar_own, ↓w_c, ↓w_nil, ↓w_cons, ↓w_app, ↓wViews_nil, ↓wViews_cons, ↓wView_d, ↓wView_fresh, ↓wView_plc, ↓wSlot_val, ↓wSlot_own, ↓wEsc_d, ↓wEsc_fresh, ↓wEsc_plc, ↓wEscS_val, ↓wEscS_own, ↓wEscs_nil, ↓wEscs_cons, ↓w_frz, ↓w_tup, ↓w_lst, ↓w_bool, ↓w_tru, ↓w_notT, ↓w_andT, ↓w_orT, ↓w_if, ↓w_and, ↓w_or, ↓w_not, ↓w_chain, ↓wB_bl, ↓w_noPart, ↓w_part, ↓w_slice, ↓w_call, ↓wPlc_cons, ↓wOwn_own, ↓w_callIo, ↓isLst_lst, ↓w_meth, ↓w_ext, ↓wExt_ok, ↓ws_next, ↓ws_bk, ↓ws_ct, ↓ws_rt, ↓ws_nx, ↓ws_seq, ↓ws_drop, ↓ws_ret, ↓ws_if, ↓ws_set, ↓wSet_d, ↓wSet_fresh, ↓wSet_plc, ↓ws_asg, ↓wt_name, ↓wt_nil, ↓wt_cons, ↓wt_tup, ↓wt_lst, ↓wPar_two, ↓ws_par, ↓wLstS_own, ↓wInt_int, ↓ws_item, ↓ws_for, ↓w_zip, ↓w_iter, ↓wItems_lst, ↓wItems_tup, ↓w_rng, ↓wRet_d, ↓wRet_fresh, ↓wRet_plc, ↓wRetS_val, ↓wRetS_own, ↓wRetS_ownS, ↓wI_some, ↓wI_none, ↓wI_ite, List.getElem?_cons_zero, List.getElem?_cons_succ, List.set_cons_zero, List.set_cons_succ]
  refine comp_fil (nozD q) id ?_
  simp only [↓w_var, ↓wVar_val, ↓wVar_own, ↓w_c, ↓w_nil, ↓w_cons, ↓w_app, ↓wViews_nil, ↓wViews_cons, ↓wView_d, ↓wView_fresh, ↓wView_plc, ↓wSlot_val, ↓wSlot_own, ↓wEsc_d, ↓wEsc_fresh, ↓wEsc_plc, ↓wEscS_val, ↓wEscS_own, ↓wEscs_nil, ↓wEscs_cons, ↓w_frz, ↓w_tup, ↓w_lst, ↓w_bool, ↓w_tru, ↓w_notT, ↓w_andT, ↓w_orT, ↓w_if, ↓w_and, ↓w_or, ↓w_not, ↓w_chain, ↓wB_bl, ↓w_noPart, ↓w_part, ↓w_slice, ↓w_call, ↓wPlc_cons, ↓wOwn_own, ↓w_callIo, ↓isLst_lst, ↓w_meth, ↓w_ext, ↓wExt_ok, ↓ws_next, ↓ws_bk, ↓ws_ct, ↓ws_rt, ↓ws_nx, ↓ws_seq, ↓ws_drop, ↓ws_ret, ↓ws_if, ↓ws_set, ↓wSet_d, ↓wSet_fresh, ↓wSet_plc, ↓ws_asg, ↓wt_name, ↓wt_nil, ↓wt_cons, ↓wt_tup, ↓wt_lst, ↓wPar_two, ↓ws_par, ↓wLstS_own, ↓wInt_int, ↓ws_item, ↓ws_for, ↓w_zip, ↓w_iter, ↓wItems_lst, ↓wItems_tup, ↓w_rng, ↓wRet_d, ↓wRet_fresh, ↓wRet_plc, ↓wRetS_val, ↓wRetS_own, ↓wRetS_ownS, ↓wI_some, ↓wI_none, ↓wI_ite, List.getElem?_cons_zero, List.getElem?_cons_succ, List.set_cons_zero, List.set_cons_succ, intsR1, rng4]
  refine ⟨by decide, fun d hd => ?_, fun d hd _ => ?_, ?_⟩
  · obtain ⟨k, hk, rfl⟩ := mem_rng4 hd
    simp (disch := assumption) only [↓w_var, ↓wVar_val, ↓wVar_own, ↓w_c, ↓w_nil, ↓w_cons, ↓w_app, ↓wViews_nil, ↓wViews_cons, ↓wView_d, ↓wView_fresh, ↓wView_plc, ↓wSlot_val, ↓wSlot_own, ↓wEsc_d, ↓wEsc_fresh, ↓wEsc_plc, ↓wEscS_val, ↓wEscS_own, ↓wEscs_nil, ↓wEscs_cons, ↓w_frz, ↓w_tup, ↓w_lst, ↓w_bool, ↓w_tru, ↓w_notT, ↓w_andT, ↓w_orT, ↓w_if, ↓w_and, ↓w_or, ↓w_not, ↓w_chain, ↓wB_bl, ↓w_noPart, ↓w_part, ↓w_slice, ↓w_call, ↓wPlc_cons, ↓wOwn_own, ↓w_callIo, ↓isLst_lst, ↓w_meth, ↓w_ext, ↓wExt_ok, ↓ws_next, ↓ws_bk, ↓ws_ct, ↓ws_rt, ↓ws_nx, ↓ws_seq, ↓ws_drop, ↓ws_ret, ↓ws_if, ↓ws_set, ↓wSet_d, ↓wSet_fresh, ↓wSet_plc, ↓ws_asg, ↓wt_name, ↓wt_nil, ↓wt_cons, ↓wt_tup, ↓wt_lst, ↓wPar_two, ↓ws_par, ↓wLstS_own, ↓wInt_int, ↓ws_item, ↓ws_for, ↓w_zip, ↓w_iter, ↓wItems_lst, ↓wItems_tup, ↓w_rng, ↓wRet_d, ↓wRet_fresh, ↓wRet_plc, ↓wRetS_val, ↓wRetS_own, ↓wRetS_ownS, ↓wI_some, ↓wI_none, ↓wI_ite, List.getElem?_cons_zero, List.getElem?_cons_succ, List.set_cons_zero, List.set_cons_succ, four_ix, fr_zero, fr_ne]
    exact ⟨by simp [nozD], trivial⟩
  · try simp only [↓w_var, ↓wVar_val, ↓wVar_own, ↓w_c, ↓w_nil, ↓w_cons, ↓w_app, ↓wViews_nil, ↓wViews_cons, ↓wView_d, ↓wView_fresh, ↓wView_plc, ↓wSlot_val, ↓wSlot_own, ↓wEsc_d, ↓wEsc_fresh, ↓wEsc_plc, ↓wEscS_val, ↓wEscS_own, ↓wEscs_nil, ↓wEscs_cons, ↓w_frz, ↓w_tup, ↓w_lst, ↓w_bool, ↓w_tru, ↓w_notT, ↓w_andT, ↓w_orT, ↓w_if, ↓w_and, ↓w_or, ↓w_not, ↓w_chain, ↓wB_bl, ↓w_noPart, ↓w_part, ↓w_slice, ↓w_call, ↓wPlc_cons, ↓wOwn_own, ↓w_callIo, ↓isLst_lst, ↓w_meth, ↓w_ext, ↓wExt_ok, ↓ws_next, ↓ws_bk, ↓ws_ct, ↓ws_rt, ↓ws_nx, ↓ws_seq, ↓ws_drop, ↓ws_ret, ↓ws_if, ↓ws_set, ↓wSet_d, ↓wSet_fresh, ↓wSet_plc, ↓ws_asg, ↓wt_name, ↓wt_nil, ↓wt_cons, ↓wt_tup, ↓wt_lst, ↓wPar_two, ↓ws_par, ↓wLstS_own, ↓wInt_int, ↓ws_item, ↓ws_for, ↓w_zip, ↓w_iter, ↓wItems_lst, ↓wItems_tup, ↓w_rng, ↓wRet_d, ↓wRet_fresh, ↓wRet_plc, ↓wRetS_val, ↓wRetS_own, ↓wRetS_ownS, ↓wI_some, ↓wI_none, ↓wI_ite, List.getElem?_cons_zero, List.getElem?_cons_succ, List.set_cons_zero, List.set_cons_succ]
    exact ⟨rfl, trivial⟩
  · rw [pl_eq q (nozD q) (fun k _ => by simp [nozD])]
    have n := @nats_ne (pl q)
    simp (disch := first | exact sh_nats | exact sh00) only [↓w_var, ↓wVar_val, ↓wVar_own, ↓w_c, ↓w_nil, ↓w_cons, ↓w_app, ↓wViews_nil, ↓wViews_cons, ↓wView_d, ↓wView_fresh, ↓wView_plc, ↓wSlot_val, ↓wSlot_own, ↓wEsc_d, ↓wEsc_fresh, ↓wEsc_plc, ↓wEscS_val, ↓wEscS_own, ↓wEscs_nil, ↓wEscs_cons, ↓w_frz, ↓w_tup, ↓w_lst, ↓w_bool, ↓w_tru, ↓w_notT, ↓w_andT, ↓w_orT, ↓w_if, ↓w_and, ↓w_or, ↓w_not, ↓w_chain, ↓wB_bl, ↓w_noPart, ↓w_part, ↓w_slice, ↓w_call, ↓wPlc_cons, ↓wOwn_own, ↓w_callIo, ↓isLst_lst, ↓w_meth, ↓w_ext, ↓wExt_ok, ↓ws_next, ↓ws_bk, ↓ws_ct, ↓ws_rt, ↓ws_nx, ↓ws_seq, ↓ws_drop, ↓ws_ret, ↓ws_if, ↓ws_set, ↓wSet_d, ↓wSet_fresh, ↓wSet_plc, ↓ws_asg, ↓wt_name, ↓wt_nil, ↓wt_cons, ↓wt_tup, ↓wt_lst, ↓wPar_two, ↓ws_par, ↓wLstS_own, ↓wInt_int, ↓ws_item, ↓ws_for, ↓w_zip, ↓w_iter, ↓wItems_lst, ↓wItems_tup, ↓w_rng, ↓wRet_d, ↓wRet_fresh, ↓wRet_plc, ↓wRetS_val, ↓wRetS_own, ↓wRetS_ownS, ↓wI_some, ↓wI_none, ↓wI_ite, List.getElem?_cons_zero, List.getElem?_cons_succ, List.set_cons_zero, List.set_cons_succ, o_ne, n]
    unfold firstP
    cases h : pl q with
    | nil => rfl
    | cons k l =>
      simp only [List.isEmpty_cons, Bool.not_false, ↓reduceIte]
      show wI (oIx [.lst (.int (k : Nat) :: natsD l), .int 0]) _
      rw [lst_c0]
      rfl
/-- what the number of a later place is at most -/
def numAt (p s : Nat) : Int := if p = 1 then 2 ^ s else if p = 2 then s else nb (s - 1)
noncomputable def numberAtB (C : List D → FRes) : SDen :=
 sSeq (sIf (dBool (dApp oEq [dVar 0, dC (.int 1)]))
 (sRet (dApp oShl [dC (.int 1), dVar 1]))
 (sNext))
 (sSeq (sIf (dBool (dApp oEq [dVar 0, dC (.int 2)]))
 (sRet (dVar 1))
 (sNext))
 (sRet (dCall C [dTup [dVar 1, dC (.int 1)]])))
abbrev NumberAtE (A : List D → FRes) : Prop := ∀ p s : Nat, 1 ≤ p → p < 4 → 3 ≤ s → s ≤ 200000 → A [.int (p : Nat), .int (s : Nat)] = .ok (.d (.int (numAt p s))) none
theorem sh1N {k : Nat} {Q : RV → Prop} (h : k ≤ 100000000) : wI (oShl [.int 1, .int (k : Nat)]) Q = Q (.d (.int (2 ^ k))) := by
  rw [o_shlN (by omega) (by
    have : nb (1 : Int).natAbs = 1 := by decide
    omega), Int.one_mul, Int.toNat_natCast]
theorem nb_small {n k : Nat} (h : n < 2 ^ k) (hk : 0 < k) : nb n ≤ k := nb_le h hk
theorem rb_nat {s k : Nat} (h : nb s ≤ k) : rb ((s : Int) : Rat) ≤ k := (RB.int (i := (s : Int)) (by rw [Int.natAbs_natCast]; exact h)).le
theorem numberAt_e {C : List D → FRes} (hC : CeilE C) : NumberAtE (runFn 2 2 false (numberAtB C)) := by
  intro p s p1 p4 s3 s1
  refine eq_of_w (w_run0 rfl ?_)
  show wS (numberAtB C [Sl.val (.int (p : Nat)), .val (.int (s : Nat))]) _
  unfold numberAtB
  have hs : rb ((s : Int) : Rat) ≤ 10000000 := Nat.le_trans (rb_nat (nb_small (k := 20) (by omega) (by omega))) (by omega)
  have hc := hC ((s : Int) : Rat) (int_posR (by omega)) hs
  rw [clog_int (by omega)] at hc
  match p, p1, p4 with
  | 1, _, _ =>
    have e : ((1 : Nat) : Int) = 1 := rfl
    simp (disch := omega) only [↓w_var, ↓wVar_val, ↓wVar_own, ↓w_c, ↓w_nil, ↓w_cons, ↓w_app, ↓wViews_nil, ↓wViews_cons, ↓wView_d, ↓wView_fresh, ↓wView_plc, ↓wSlot_val, ↓wSlot_own, ↓wEsc_d, ↓wEsc_fresh, ↓wEsc_plc, ↓wEscS_val, ↓wEscS_own, ↓wEscs_nil, ↓wEscs_cons, ↓w_frz, ↓w_tup, ↓w_lst, ↓w_bool, ↓w_tru, ↓w_notT, ↓w_andT, ↓w_orT, ↓w_if, ↓w_and, ↓w_or, ↓w_not, ↓w_chain, ↓wB_bl, ↓w_noPart, ↓w_part, ↓w_slice, ↓w_call, ↓wPlc_cons, ↓wOwn_own, ↓w_callIo, ↓isLst_lst, ↓w_meth, ↓w_ext, ↓wExt_ok, ↓ws_next, ↓ws_bk, ↓ws_ct, ↓ws_rt, ↓ws_nx, ↓ws_seq, ↓ws_drop, ↓ws_ret, ↓ws_if, ↓ws_set, ↓wSet_d, ↓wSet_fresh, ↓wSet_plc, ↓ws_asg, ↓wt_name, ↓wt_nil, ↓wt_cons, ↓wt_tup, ↓wt_lst, ↓wPar_two, ↓ws_par, ↓wLstS_own, ↓wInt_int, ↓ws_item, ↓ws_for, ↓w_zip, ↓w_iter, ↓wItems_lst, ↓wItems_tup, ↓w_rng, ↓wRet_d, ↓wRet_fresh, ↓wRet_plc, ↓wRetS_val, ↓wRetS_own, ↓wRetS_ownS, ↓wI_some, ↓wI_none, ↓wI_ite, List.getElem?_cons_zero, List.getElem?_cons_succ, List.set_cons_zero, List.set_cons_succ, o_eqI, e, decide_true, ↓reduceIte, sh1N]
    simp [numAt]
  | 2, _, _ =>
    have e : ¬ ((2 : Nat) : Int) = 1 := by omega
    have e2 : ((2 : Nat) : Int) = 2 := by omega
    simp (disch := omega) only [↓w_var, ↓wVar_val, ↓wVar_own, ↓w_c, ↓w_nil, ↓w_cons, ↓w_app, ↓wViews_nil, ↓wViews_cons, ↓wView_d, ↓wView_fresh, ↓wView_plc, ↓wSlot_val, ↓wSlot_own, ↓wEsc_d, ↓wEsc_fresh, ↓wEsc_plc, ↓wEscS_val, ↓wEscS_own, ↓wEscs_nil, ↓wEscs_cons, ↓w_frz, ↓w_tup, ↓w_lst, ↓w_bool, ↓w_tru, ↓w_notT, ↓w_andT, ↓w_orT, ↓w_if, ↓w_and, ↓w_or, ↓w_not, ↓w_chain, ↓wB_bl, ↓w_noPart, ↓w_part, ↓w_slice, ↓w_call, ↓wPlc_cons, ↓wOwn_own, ↓w_callIo, ↓isLst_lst, ↓w_meth, ↓w_ext, ↓wExt_ok, ↓ws_next, ↓ws_bk, ↓ws_ct, ↓ws_rt, ↓ws_nx, ↓ws_seq, ↓ws_drop, ↓ws_ret, ↓ws_if, ↓ws_set, ↓wSet_d, ↓wSet_fresh, ↓wSet_plc, ↓ws_asg, ↓wt_name, ↓wt_nil, ↓wt_cons, ↓wt_tup, ↓wt_lst, ↓wPar_two, ↓ws_par, ↓wLstS_own, ↓wInt_int, ↓ws_item, ↓ws_for, ↓w_zip, ↓w_iter, ↓wItems_lst, ↓wItems_tup, ↓w_rng, ↓wRet_d, ↓wRet_fresh, ↓wRet_plc, ↓wRetS_val, ↓wRetS_own, ↓wRetS_ownS, ↓wI_some, ↓wI_none, ↓wI_ite, List.getElem?_cons_zero, List.getElem?_cons_succ, List.set_cons_zero, List.set_cons_succ, o_eqI, e, e2, decide_false, Bool.false_eq_true, decide_true, ↓reduceIte]
    simp [numAt]
  | 3, _, _ =>
    have e : ¬ ((3 : Nat) : Int) = 1 := by omega
    have e2 : ¬ ((3 : Nat) : Int) = 2 := by omega
    simp (disch := omega) only [↓w_var, ↓wVar_val, ↓wVar_own, ↓w_c, ↓w_nil, ↓w_cons, ↓w_app, ↓wViews_nil, ↓wViews_cons, ↓wView_d, ↓wView_fresh, ↓wView_plc, ↓wSlot_val, ↓wSlot_own, ↓wEsc_d, ↓wEsc_fresh, ↓wEsc_plc, ↓wEscS_val, ↓wEscS_own, ↓wEscs_nil, ↓wEscs_cons, ↓w_frz, ↓w_tup, ↓w_lst, ↓w_bool, ↓w_tru, ↓w_notT, ↓w_andT, ↓w_orT, ↓w_if, ↓w_and, ↓w_or, ↓w_not, ↓w_chain, ↓wB_bl, ↓w_noPart, ↓w_part, ↓w_slice, ↓w_call, ↓wPlc_cons, ↓wOwn_own, ↓w_callIo, ↓isLst_lst, ↓w_meth, ↓w_ext, ↓wExt_ok, ↓ws_next, ↓ws_bk, ↓ws_ct, ↓ws_rt, ↓ws_nx, ↓ws_seq, ↓ws_drop, ↓ws_ret, ↓ws_if, ↓ws_set, ↓wSet_d, ↓wSet_fresh, ↓wSet_plc, ↓ws_asg, ↓wt_name, ↓wt_nil, ↓wt_cons, ↓wt_tup, ↓wt_lst, ↓wPar_two, ↓ws_par, ↓wLstS_own, ↓wInt_int, ↓ws_item, ↓ws_for, ↓w_zip, ↓w_iter, ↓wItems_lst, ↓wItems_tup, ↓w_rng, ↓wRet_d, ↓wRet_fresh, ↓wRet_plc, ↓wRetS_val, ↓wRetS_own, ↓wRetS_ownS, ↓wI_some, ↓wI_none, ↓wI_ite, List.getElem?_cons_zero, List.getElem?_cons_succ, List.set_cons_zero, List.set_cons_succ, o_eqI, e, e2, decide_false, Bool.false_eq_true, ↓reduceIte, fr_int, hc, wF0_ok]
    simp [numAt]
theorem numAt_nn {p s : Nat} : 0 ≤ numAt p s := by
  unfold numAt
  split
  · exact Int.le_of_lt (Int.pow_pos (by omega))
  · split <;> omega
theorem numAt_nb {p s : Nat} (h : s ≤ 200000) : nb (numAt p s).natAbs ≤ 200001 := by
  unfold numAt
  split
  · have e : ((2 : Int) ^ s).natAbs = 2 ^ s := by
      rw [show (2 : Int) ^ s = ((2 ^ s : Nat) : Int) by simp, Int.natAbs_natCast]
    rw [e]
    exact Nat.le_trans (nb_le (k := s + 1) (Nat.pow_lt_pow_right (by omega) (by omega)) (by omega)) (by omega)
  · split
    · exact Nat.le_trans (nb_small (k := 20) (by omega) (by omega)) (by omega)
    · have := nb_small (n := s - 1) (k := 20) (by omega) (by omega)
      exact Nat.le_trans (nb_small (n := nb (s - 1)) (k := 20) (by omega) (by omega)) (by omega)
/-- what the first one has to make up for -/
def stepR (q : Nat → Rat) (s : Nat) (r : Rat) (k : Nat) : Rat := if q k < 0 then r - q k * (numAt k s : Int) else r
def latter (f : Nat) : List Nat := (List.range (3 - f)).map fun i => f + 1 + i
@[irreducible] def restR (q : Nat → Rat) (f : Nat) (need : Int) (s : Nat) : Rat := (latter f).foldl (stepR q s) (((if need < 0 then 0 else need) : Int) : Rat)
structure Sm (q : Nat → Rat) : Prop where
  b : ∀ k, k < 4 → RB (q k) 200 200
theorem stepR_rb {q : Nat → Rat} (hq : Sm q) {s k a d : Nat} {r : Rat} (hk : k < 4) (hs : s ≤ 200000) (h : RB r a d) : RB (stepR q s r k) (a + 200300) (d + 201) := by
  unfold stepR
  split
  · have h1 := hq.b k hk
    have h2 : RB ((numAt k s : Int) : Rat) 200001 1 := .int (numAt_nb hs)
    exact (inferInstance : RB (r - q k * (numAt k s : Int)) _ _).mono (by omega) (by omega)
  · exact h.mono (by omega) (by omega)
theorem stepR_nn {q : Nat → Rat} {s k : Nat} {r : Rat} (h : 0 ≤ r) : 0 ≤ stepR q s r k := by
  unfold stepR
  split
  · rename_i hq
    have h2 : (0 : Rat) ≤ ((numAt k s : Int) : Rat) := by
      have := icast_le.mpr (@numAt_nn k s)
      simpa using this
    have h3 : 0 ≤ (-(q k)) * ((numAt k s : Int) : Rat) := Rat.mul_nonneg (by grind) h2
    grind
  · exact h
theorem fold_rb {q : Nat → Rat} (hq : Sm q) {s : Nat} (hs : s ≤ 200000) : ∀ (l : List Nat) {r : Rat} {a d : Nat}, (∀ k ∈ l, k < 4) → RB r a d → RB (l.foldl (stepR q s) r) (a + 200300 * l.length) (d + 201 * l.length)
  | [], r, a, d, _, h => by simpa using h
  | k :: l, r, a, d, hl, h => by
    have := fold_rb hq hs l (fun x hx => hl x (List.mem_cons_of_mem _ hx)) (stepR_rb hq (hl k List.mem_cons_self) hs h)
    rw [List.foldl_cons, List.length_cons]
    exact this.mono (by omega) (by omega)
theorem fold_nn {q : Nat → Rat} {s : Nat} : ∀ (l : List Nat) {r : Rat}, 0 ≤ r → 0 ≤ l.foldl (stepR q s) r
  | [], r, h => h
  | k :: l, r, h => fold_nn l (stepR_nn h)
theorem latter_lt {f k : Nat} (h : k ∈ latter f) (hf : f < 4) : k < 4 ∧ 1 ≤ k := by
  unfold latter at h
  obtain ⟨i, hi, rfl⟩ := List.mem_map.mp h
  rw [List.mem_range] at hi
  omega
theorem latter_len {f : Nat} : (latter f).length ≤ 3 := by
  unfold latter
  simp
theorem need_rb {need : Int} (h : nb need.natAbs ≤ 100) : RB ((((if need < 0 then 0 else need) : Int)) : Rat) 100 1 := .int (by
  split
  · decide
  · exact h)
theorem restR_rb {q : Nat → Rat} (hq : Sm q) {f s : Nat} {need : Int} (hf : f < 4) (hs : s ≤ 200000) (hn : nb need.natAbs ≤ 100) : RB (restR q f need s) 700000 700 := by
  unfold restR
  have := fold_rb hq hs (latter f) (fun k hk => (latter_lt hk hf).1) (need_rb hn)
  have l := @latter_len f
  exact this.mono (by omega) (by omega)
theorem restR_nn {q : Nat → Rat} {f s : Nat} {need : Int} : 0 ≤ restR q f need s := by
  unfold restR
  exact fold_nn _ (by
  have := icast_le.mpr (show (0 : Int) ≤ (if need < 0 then 0 else need) by split <;> omega)
  simpa using this)
theorem okInt_ok {i : Int} (h1 : -1000000000 ≤ i) (h2 : i ≤ 1000000000) : okInt i = true := Nat.ble_eq_true_of_le (by omega)
theorem rngD2 {i j : Int} {Q : List D → Prop} (h1 : -1000000000 ≤ i) (h2 : i ≤ 1000000000) (h3 : -1000000000 ≤ j) (h4 : j ≤ 1000000000) : wI (rngD [i, j]) Q = Q (rangeD i (j - i).toNat) := by
  have e : rngD [i, j] = some (rangeD i (j - i).toNat) := by
    simp only [rngD, okInt_ok h1 h2, okInt_ok h3 h4, Bool.and_self, ↓reduceIte]
  rw [e]
  rfl
theorem rngD1 {j : Int} {Q : List D → Prop} (h3 : -1000000000 ≤ j) (h4 : j ≤ 1000000000) : wI (rngD [j]) Q = Q (rangeD 0 j.toNat) := by
  have e : rngD [j] = some (rangeD 0 j.toNat) := by
    simp only [rngD, okInt_ok h3 h4, ↓reduceIte]
  rw [e]
  rfl
theorem rng_latter {f : Nat} (hf : f < 4) {Q : List D → Prop} : wI (rngD [((f : Nat) : Int) + 1, 4]) Q = Q (natsD (latter f)) := by
  have e : ∀ {Q : List D → Prop}, wI (rngD [((f : Nat) : Int) + 1, 4]) Q = Q (rangeD (((f : Nat) : Int) + 1) (4 - (((f : Nat) : Int) + 1)).toNat) := fun {Q} => by
    exact rngD2 (by omega) (by omega) (by omega) (by omega)
  rw [e]
  have : rangeD (((f : Nat) : Int) + 1) (4 - (((f : Nat) : Int) + 1)).toNat = natsD (latter f) := by
    unfold rangeD natsD latter
    rw [List.map_map, show (4 - (((f : Nat) : Int) + 1)).toNat = 3 - f by omega]
    apply List.map_congr_left
    intro i _
    simp
  rw [this]
theorem max0 {i : Int} {Q : RV → Prop} : wI (oMax [.int i, .int 0]) Q = Q (.d (.int (if i < 0 then 0 else i))) := id rfl
theorem max0' {i : Int} {Q : RV → Prop} : wI (oMax [.int 0, .int i]) Q = Q (.d (.int (if 0 < i then i else 0))) := id rfl
theorem neg_num {x : Rat} : x.num < 0 ↔ x < 0 := by
  have := Rat.lt_iff x 0
  rw [this]
  simp
noncomputable def restB (T M N : List D → FRes) : SDen :=
 sSeq (sSet 4 (dTup [dApp oMax [dVar 2, dC (.int 0)], dC (.int 1)]))
 (sSeq (sFor (dRng [dApp oAdd [dVar 1, dC (.int 1)], dC (.int 4)]) (tName 5)
 (sIf (dBool (dApp oLtI [dApp oIx [dApp oIx [dVar 0, dVar 5], dC (.int 0)], dC (.int 0)]))
 (sSet 4 (dCall T [dVar 4, dCall M [dApp oIx [dVar 0, dVar 5], dTup [dCall N [dVar 5, dVar 3], dC (.int 1)]]]))
 (sNext)))
 (sRet (dVar 4)))
abbrev RestE (A : List D → FRes) : Prop := ∀ (q : Nat → Rat) (f : Nat) (need : Int) (s : Nat), Sm q → f < 4 → nb need.natAbs ≤ 100 → 3 ≤ s → s ≤ 200000 → A [fourD q, .int (f : Nat), .int need, .int (s : Nat)] = .ok (.d (fr (restR q f need s))) none
theorem rest_e {T M N : List D → FRes} (hT : TakenE T) (hM : MultE M) (hN : NumberAtE N) : RestE (runFn 6 4 false (restB T M N)) := by
  intro q f need s hq hf hn s3 s1
  refine eq_of_w ?_
  refine w_run0 (by rfl) ?_
  show wS (restB T M N [Sl.val (fourD q), .val (.int (f : Nat)), .val (.int need), .val (.int (s : Nat)), .no, .no]) _
  unfold restB
  simp (disch := assumption) only [↓w_var, ↓wVar_val, ↓wVar_own, ↓w_c, ↓w_nil, ↓w_cons, ↓w_app, ↓wViews_nil, ↓wViews_cons, ↓wView_d, ↓wView_fresh, ↓wView_plc, ↓wSlot_val, ↓wSlot_own, ↓wEsc_d, ↓wEsc_fresh, ↓wEsc_plc, ↓wEscS_val, ↓wEscS_own, ↓wEscs_nil, ↓wEscs_cons, ↓w_frz, ↓w_tup, ↓w_lst, ↓w_bool, ↓w_tru, ↓w_notT, ↓w_andT, ↓w_orT, ↓w_if, ↓w_and, ↓w_or, ↓w_not, ↓w_chain, ↓wB_bl, ↓w_noPart, ↓w_part, ↓w_slice, ↓w_call, ↓wPlc_cons, ↓wOwn_own, ↓w_callIo, ↓isLst_lst, ↓w_meth, ↓w_ext, ↓wExt_ok, ↓ws_next, ↓ws_bk, ↓ws_ct, ↓ws_rt, ↓ws_nx, ↓ws_seq, ↓ws_drop, ↓ws_ret, ↓ws_if, ↓ws_set, ↓wSet_d, ↓wSet_fresh, ↓wSet_plc, ↓ws_asg, ↓wt_name, ↓wt_nil, ↓wt_cons, ↓wt_tup, ↓wt_lst, ↓wPar_two, ↓ws_par, ↓wLstS_own, ↓wInt_int, ↓ws_item, ↓ws_for, ↓w_zip, ↓w_iter, ↓wItems_lst, ↓wItems_tup, ↓w_rng, ↓wRet_d, ↓wRet_fresh, ↓wRet_plc, ↓wRetS_val, ↓wRetS_own, ↓wRetS_ownS, ↓wI_some, ↓wI_none, ↓wI_ite, List.getElem?_cons_zero, List.getElem?_cons_succ, List.set_cons_zero, List.set_cons_succ, max0, fr_int, o_add, intsR2, rng_latter]
  refine for_inv (fun ds ρ => ∃ (ks : List Nat) (r : Rat) (z : Sl), ds = natsD ks ∧ ks.length ≤ 3 ∧ (∀ k ∈ ks, k < 4 ∧ 1 ≤ k) ∧ RB r (100 + 200300 * (3 - ks.length)) (1 + 201 * (3 - ks.length)) ∧ ks.foldl (stepR q s) r = restR q f need s ∧ ρ = [Sl.val (fourD q), .val (.int (f : Nat)), .val (.int need), .val (.int (s : Nat)), .val (fr r), z])
    ⟨latter f, _, .no, rfl, latter_len, fun k hk => latter_lt hk hf, (need_rb hn).mono (by omega) (by omega), by unfold restR; rfl, rfl⟩ ?_ ?_
  · rintro d ds ρ ⟨ks, r, z, hd, hl, hk, hr, hfold, rfl⟩
    cases ks with
    | nil => cases hd
    | cons k ks =>
      have hd : d :: ds = .int (k : Nat) :: natsD ks := hd
      cases hd
      rw [List.length_cons] at hl hr
      obtain ⟨k4, k1⟩ := hk k List.mem_cons_self
      have i1 := hq.b k k4
      have i2 : RB ((numAt k s : Int) : Rat) 200001 1 := .int (numAt_nb s1)
      have hnum := hN k s k1 k4 s3 s1
      have rbs := stepR_rb hq k4 s1 hr
      have fin : ∀ r', stepR q s r k = r' → ∃ (ks' : List Nat) (r2 : Rat) (z : Sl), natsD ks = natsD ks' ∧ ks'.length ≤ 3 ∧ (∀ k ∈ ks', k < 4 ∧ 1 ≤ k) ∧ RB r2 (100 + 200300 * (3 - ks'.length)) (1 + 201 * (3 - ks'.length)) ∧ ks'.foldl (stepR q s) r2 = restR q f need s ∧ [Sl.val (fourD q), .val (.int (f : Nat)), .val (.int need), .val (.int (s : Nat)), .val (fr r'), .val (.int (k : Nat))] = [Sl.val (fourD q), .val (.int (f : Nat)), .val (.int need), .val (.int (s : Nat)), .val (fr r2), z] := fun r' e => by
        subst e
        exact ⟨ks, _, _, rfl, by omega, fun x hx => hk x (List.mem_cons_of_mem _ hx), rbs.mono (by omega) (by omega), hfold, rfl⟩
      by_cases hneg : q k < 0
      · have hneg' : (q k).num < 0 := neg_num.mpr hneg
        have ft : Fit r (q k * ((numAt k s : Int) : Rat)) := @rb2 _ _ _ _ _ _ hr inferInstance (by omega)
        simp (disch := first | assumption | exact rb2 | omega) only [↓w_var, ↓wVar_val, ↓wVar_own, ↓w_c, ↓w_nil, ↓w_cons, ↓w_app, ↓wViews_nil, ↓wViews_cons, ↓wView_d, ↓wView_fresh, ↓wView_plc, ↓wSlot_val, ↓wSlot_own, ↓wEsc_d, ↓wEsc_fresh, ↓wEsc_plc, ↓wEscS_val, ↓wEscS_own, ↓wEscs_nil, ↓wEscs_cons, ↓w_frz, ↓w_tup, ↓w_lst, ↓w_bool, ↓w_tru, ↓w_notT, ↓w_andT, ↓w_orT, ↓w_if, ↓w_and, ↓w_or, ↓w_not, ↓w_chain, ↓wB_bl, ↓w_noPart, ↓w_part, ↓w_slice, ↓w_call, ↓wPlc_cons, ↓wOwn_own, ↓w_callIo, ↓isLst_lst, ↓w_meth, ↓w_ext, ↓wExt_ok, ↓ws_next, ↓ws_bk, ↓ws_ct, ↓ws_rt, ↓ws_nx, ↓ws_seq, ↓ws_drop, ↓ws_ret, ↓ws_if, ↓ws_set, ↓wSet_d, ↓wSet_fresh, ↓wSet_plc, ↓ws_asg, ↓wt_name, ↓wt_nil, ↓wt_cons, ↓wt_tup, ↓wt_lst, ↓wPar_two, ↓ws_par, ↓wLstS_own, ↓wInt_int, ↓ws_item, ↓ws_for, ↓w_zip, ↓w_iter, ↓wItems_lst, ↓wItems_tup, ↓w_rng, ↓wRet_d, ↓wRet_fresh, ↓wRet_plc, ↓wRetS_val, ↓wRetS_own, ↓wRetS_ownS, ↓wI_some, ↓wI_none, ↓wI_ite, List.getElem?_cons_zero, List.getElem?_cons_succ, List.set_cons_zero, List.set_cons_succ, four_ix, fr_ix0, o_lt, hneg', decide_true, ↓reduceIte, hnum, wF0_ok, fr_int, hM, hT]
        exact fin _ (by unfold stepR; rw [if_pos hneg])
      · have hneg' : ¬ (q k).num < 0 := fun z => hneg (neg_num.mp z)
        simp (disch := first | assumption | exact rb2 | omega) only [↓w_var, ↓wVar_val, ↓wVar_own, ↓w_c, ↓w_nil, ↓w_cons, ↓w_app, ↓wViews_nil, ↓wViews_cons, ↓wView_d, ↓wView_fresh, ↓wView_plc, ↓wSlot_val, ↓wSlot_own, ↓wEsc_d, ↓wEsc_fresh, ↓wEsc_plc, ↓wEscS_val, ↓wEscS_own, ↓wEscs_nil, ↓wEscs_cons, ↓w_frz, ↓w_tup, ↓w_lst, ↓w_bool, ↓w_tru, ↓w_notT, ↓w_andT, ↓w_orT, ↓w_if, ↓w_and, ↓w_or, ↓w_not, ↓w_chain, ↓wB_bl, ↓w_noPart, ↓w_part, ↓w_slice, ↓w_call, ↓wPlc_cons, ↓wOwn_own, ↓w_callIo, ↓isLst_lst, ↓w_meth, ↓w_ext, ↓wExt_ok, ↓ws_next, ↓ws_bk, ↓ws_ct, ↓ws_rt, ↓ws_nx, ↓ws_seq, ↓ws_drop, ↓ws_ret, ↓ws_if, ↓ws_set, ↓wSet_d, ↓wSet_fresh, ↓wSet_plc, ↓ws_asg, ↓wt_name, ↓wt_nil, ↓wt_cons, ↓wt_tup, ↓wt_lst, ↓wPar_two, ↓ws_par, ↓wLstS_own, ↓wInt_int, ↓ws_item, ↓ws_for, ↓w_zip, ↓w_iter, ↓wItems_lst, ↓wItems_tup, ↓w_rng, ↓wRet_d, ↓wRet_fresh, ↓wRet_plc, ↓wRetS_val, ↓wRetS_own, ↓wRetS_ownS, ↓wI_some, ↓wI_none, ↓wI_ite, List.getElem?_cons_zero, List.getElem?_cons_succ, List.set_cons_zero, List.set_cons_succ, four_ix, fr_ix0, o_lt, hneg', decide_false, Bool.false_eq_true, ↓reduceIte]
        exact fin _ (by unfold stepR; rw [if_neg hneg])
  · rintro ρ ⟨ks, r, z, hd, hl, hk, hr, hfold, rfl⟩
    cases ks with
    | cons k ks => cases hd
    | nil =>
      simp only [↓w_var, ↓wVar_val, ↓wVar_own, ↓w_c, ↓w_nil, ↓w_cons, ↓w_app, ↓wViews_nil, ↓wViews_cons, ↓wView_d, ↓wView_fresh, ↓wView_plc, ↓wSlot_val, ↓wSlot_own, ↓wEsc_d, ↓wEsc_fresh, ↓wEsc_plc, ↓wEscS_val, ↓wEscS_own, ↓wEscs_nil, ↓wEscs_cons, ↓w_frz, ↓w_tup, ↓w_lst, ↓w_bool, ↓w_tru, ↓w_notT, ↓w_andT, ↓w_orT, ↓w_if, ↓w_and, ↓w_or, ↓w_not, ↓w_chain, ↓wB_bl, ↓w_noPart, ↓w_part, ↓w_slice, ↓w_call, ↓wPlc_cons, ↓wOwn_own, ↓w_callIo, ↓isLst_lst, ↓w_meth, ↓w_ext, ↓wExt_ok, ↓ws_next, ↓ws_bk, ↓ws_ct, ↓ws_rt, ↓ws_nx, ↓ws_seq, ↓ws_drop, ↓ws_ret, ↓ws_if, ↓ws_set, ↓wSet_d, ↓wSet_fresh, ↓wSet_plc, ↓ws_asg, ↓wt_name, ↓wt_nil, ↓wt_cons, ↓wt_tup, ↓wt_lst, ↓wPar_two, ↓ws_par, ↓wLstS_own, ↓wInt_int, ↓ws_item, ↓ws_for, ↓w_zip, ↓w_iter, ↓wItems_lst, ↓wItems_tup, ↓w_rng, ↓wRet_d, ↓wRet_fresh, ↓wRet_plc, ↓wRetS_val, ↓wRetS_own, ↓wRetS_ownS, ↓wI_some, ↓wI_none, ↓wI_ite, List.getElem?_cons_zero, List.getElem?_cons_succ, List.set_cons_zero, List.set_cons_succ]
      rw [← hfold]
      rfl
end DL
set_option maxHeartbeats 4000000
/-! DL, part 32: held. -/
namespace DL
open PySem PySem.Spec PyProof.Rows L2
/-- whether a share times its own number makes up for r -/
noncomputable def mkUp (x : Rat) (f : Nat) (r : Rat) (s : Nat) : Bool := open Classical in
  if f = 0 then decide (r = 0 ∨ clog (r / x) ≤ 2 ^ s) else decide (r ≤ x * (((if f < 3 then numAt f s else nb s - 1) : Int) : Rat))
noncomputable def makesUpB (C D' N L M W : List D → FRes) : SDen :=
 sSeq (sIf (dBool (dApp oEq [dVar 1, dC (.int 0)]))
 (sRet (dOr (dApp oEq [dVar 2, dC (.tup [.int 0, .int 1])]) (dApp oGe [dApp oShl [dC (.int 1), dVar 3], dCall C [dCall D' [dVar 2, dVar 0]]])))
 (sNext))
 (sSeq (sSet 4 (dIf (dBool (dApp oLtI [dVar 1, dC (.int 3)])) (dCall N [dVar 1, dVar 3]) (dCall L [dTup [dVar 3, dC (.int 1)]])))
 (sRet (dApp oGe [dCall W [dCall M [dVar 0, dTup [dVar 4, dC (.int 1)]], dVar 2], dC (.int 0)])))
abbrev MakesUpE (A : List D → FRes) : Prop := ∀ (x : Rat) (f : Nat) (r : Rat) (s : Nat), 0 < x → RB x 200 200 → f < 4 → 0 ≤ r → RB r 700000 700 → 3 ≤ s → s ≤ 200000 → A [fr x, .int (f : Nat), fr r, .int (s : Nat)] = .ok (.d (.bl (mkUp x f r s))) none
theorem dv_pos {r x : Rat} (hr : 0 < r) (hx : 0 < x) : 0 < r / x := by
  rw [Rat.div_def]
  exact Rat.mul_pos hr (Rat.inv_pos.mpr hx)
theorem makesUp_e {C D' N L M W : List D → FRes} (hC : CeilE C) (hD : DividedE D') (hN : NumberAtE N) (hL : FloorE L) (hM : MultE M) (hW : WhichE W) : MakesUpE (runFn 5 4 false (makesUpB C D' N L M W)) := by
  intro x f r s hx bx hf hr br s3 s1
  refine eq_of_w (w_run0 rfl ?_)
  show wS (makesUpB C D' N L M W [Sl.val (fr x), .val (.int (f : Nat)), .val (fr r), .val (.int (s : Nat)), .no]) _
  unfold makesUpB
  by_cases f0 : f = 0
  · subst f0
    have e : ((0 : Nat) : Int) = 0 := rfl
    by_cases r0 : r = 0
    · subst r0
      have em : mkUp x 0 0 s = true := by simp [mkUp]
      rw [em]
      simp only [↓w_var, ↓wVar_val, ↓wVar_own, ↓w_c, ↓w_nil, ↓w_cons, ↓w_app, ↓wViews_nil, ↓wViews_cons, ↓wView_d, ↓wView_fresh, ↓wView_plc, ↓wSlot_val, ↓wSlot_own, ↓wEsc_d, ↓wEsc_fresh, ↓wEsc_plc, ↓wEscS_val, ↓wEscS_own, ↓wEscs_nil, ↓wEscs_cons, ↓w_frz, ↓w_tup, ↓w_lst, ↓w_bool, ↓w_tru, ↓w_notT, ↓w_andT, ↓w_orT, ↓w_if, ↓w_and, ↓w_or, ↓w_not, ↓w_chain, ↓wB_bl, ↓w_noPart, ↓w_part, ↓w_slice, ↓w_call, ↓wPlc_cons, ↓wOwn_own, ↓w_callIo, ↓isLst_lst, ↓w_meth, ↓w_ext, ↓wExt_ok, ↓ws_next, ↓ws_bk, ↓ws_ct, ↓ws_rt, ↓ws_nx, ↓ws_seq, ↓ws_drop, ↓ws_ret, ↓ws_if, ↓ws_set, ↓wSet_d, ↓wSet_fresh, ↓wSet_plc, ↓ws_asg, ↓wt_name, ↓wt_nil, ↓wt_cons, ↓wt_tup, ↓wt_lst, ↓wPar_two, ↓ws_par, ↓wLstS_own, ↓wInt_int, ↓ws_item, ↓ws_for, ↓w_zip, ↓w_iter, ↓wItems_lst, ↓wItems_tup, ↓w_rng, ↓wRet_d, ↓wRet_fresh, ↓wRet_plc, ↓wRetS_val, ↓wRetS_own, ↓wRetS_ownS, ↓wI_some, ↓wI_none, ↓wI_ite, List.getElem?_cons_zero, List.getElem?_cons_succ, List.set_cons_zero, List.set_cons_succ, o_eqI, e, decide_true, ↓reduceIte, fr_zero, fr_eq, tru_bl]
    · have rp : 0 < r := by grind
      have hc := hC (r / x) (dv_pos rp hx) rb1
      have hd := hD r x (Rat.ne_of_gt hx) rb2d
      have em : mkUp x 0 r s = decide (clog (r / x) ≤ 2 ^ s) := by simp [mkUp, r0]
      rw [em]
      simp (disch := omega) only [↓w_var, ↓wVar_val, ↓wVar_own, ↓w_c, ↓w_nil, ↓w_cons, ↓w_app, ↓wViews_nil, ↓wViews_cons, ↓wView_d, ↓wView_fresh, ↓wView_plc, ↓wSlot_val, ↓wSlot_own, ↓wEsc_d, ↓wEsc_fresh, ↓wEsc_plc, ↓wEscS_val, ↓wEscS_own, ↓wEscs_nil, ↓wEscs_cons, ↓w_frz, ↓w_tup, ↓w_lst, ↓w_bool, ↓w_tru, ↓w_notT, ↓w_andT, ↓w_orT, ↓w_if, ↓w_and, ↓w_or, ↓w_not, ↓w_chain, ↓wB_bl, ↓w_noPart, ↓w_part, ↓w_slice, ↓w_call, ↓wPlc_cons, ↓wOwn_own, ↓w_callIo, ↓isLst_lst, ↓w_meth, ↓w_ext, ↓wExt_ok, ↓ws_next, ↓ws_bk, ↓ws_ct, ↓ws_rt, ↓ws_nx, ↓ws_seq, ↓ws_drop, ↓ws_ret, ↓ws_if, ↓ws_set, ↓wSet_d, ↓wSet_fresh, ↓wSet_plc, ↓ws_asg, ↓wt_name, ↓wt_nil, ↓wt_cons, ↓wt_tup, ↓wt_lst, ↓wPar_two, ↓ws_par, ↓wLstS_own, ↓wInt_int, ↓ws_item, ↓ws_for, ↓w_zip, ↓w_iter, ↓wItems_lst, ↓wItems_tup, ↓w_rng, ↓wRet_d, ↓wRet_fresh, ↓wRet_plc, ↓wRetS_val, ↓wRetS_own, ↓wRetS_ownS, ↓wI_some, ↓wI_none, ↓wI_ite, List.getElem?_cons_zero, List.getElem?_cons_succ, List.set_cons_zero, List.set_cons_succ, o_eqI, e, decide_true, ↓reduceIte, fr_zero, fr_eq, r0, decide_false, tru_bl, Bool.false_eq_true, sh1N, hd, wF0_ok, hc, o_ge]
  · have f0' : ¬ ((f : Nat) : Int) = 0 := by omega
    have em : mkUp x f r s = decide (r ≤ x * (((if f < 3 then numAt f s else nb s - 1) : Int) : Rat)) := by
      unfold mkUp
      rw [if_neg f0]
    rw [em]
    have fin : ∀ i : Int, RB (i : Rat) 200001 1 → decide (0 ≤ wh (x * (i : Rat)) r) = decide (r ≤ x * (i : Rat)) := fun i hi => by
      apply decide_eq_decide.mpr
      unfold wh
      by_cases h1 : r < x * (i : Rat)
      · rw [if_pos h1]
        constructor
        · intro _; grind
        · intro _; omega
      · rw [if_neg h1]
        by_cases h2 : x * (i : Rat) < r
        · rw [if_pos h2]
          constructor
          · intro z; omega
          · intro z; grind
        · rw [if_neg h2]
          constructor
          · intro _; grind
          · intro _; omega
    by_cases f3 : f < 3
    · have f3' : ((f : Nat) : Int) < 3 := by omega
      rw [if_pos f3]
      have bi : RB ((numAt f s : Int) : Rat) 200001 1 := .int (numAt_nb s1)
      have hn := hN f s (by omega) hf s3 s1
      simp (disch := first | exact rb2 | exact rbw | omega) only [↓w_var, ↓wVar_val, ↓wVar_own, ↓w_c, ↓w_nil, ↓w_cons, ↓w_app, ↓wViews_nil, ↓wViews_cons, ↓wView_d, ↓wView_fresh, ↓wView_plc, ↓wSlot_val, ↓wSlot_own, ↓wEsc_d, ↓wEsc_fresh, ↓wEsc_plc, ↓wEscS_val, ↓wEscS_own, ↓wEscs_nil, ↓wEscs_cons, ↓w_frz, ↓w_tup, ↓w_lst, ↓w_bool, ↓w_tru, ↓w_notT, ↓w_andT, ↓w_orT, ↓w_if, ↓w_and, ↓w_or, ↓w_not, ↓w_chain, ↓wB_bl, ↓w_noPart, ↓w_part, ↓w_slice, ↓w_call, ↓wPlc_cons, ↓wOwn_own, ↓w_callIo, ↓isLst_lst, ↓w_meth, ↓w_ext, ↓wExt_ok, ↓ws_next, ↓ws_bk, ↓ws_ct, ↓ws_rt, ↓ws_nx, ↓ws_seq, ↓ws_drop, ↓ws_ret, ↓ws_if, ↓ws_set, ↓wSet_d, ↓wSet_fresh, ↓wSet_plc, ↓ws_asg, ↓wt_name, ↓wt_nil, ↓wt_cons, ↓wt_tup, ↓wt_lst, ↓wPar_two, ↓ws_par, ↓wLstS_own, ↓wInt_int, ↓ws_item, ↓ws_for, ↓w_zip, ↓w_iter, ↓wItems_lst, ↓wItems_tup, ↓w_rng, ↓wRet_d, ↓wRet_fresh, ↓wRet_plc, ↓wRetS_val, ↓wRetS_own, ↓wRetS_ownS, ↓wI_some, ↓wI_none, ↓wI_ite, List.getElem?_cons_zero, List.getElem?_cons_succ, List.set_cons_zero, List.set_cons_succ, o_eqI, f0', decide_false, Bool.false_eq_true, ↓reduceIte, o_lt, f3', decide_true, hn, wF0_ok, fr_int, hM, hW, o_ge]
      rw [fin _ bi]
    · have f3' : ¬ ((f : Nat) : Int) < 3 := by omega
      rw [if_neg f3]
      have n20 := nb_small (n := s) (k := 20) (by omega) (by omega)
      have hl := hL ((s : Int) : Rat) (int_posR (by omega)) (Nat.le_trans (rb_nat n20) (by omega))
      rw [flog_int (by omega)] at hl
      have np := nb_pos s
      have bi : RB (((nb s : Int) - 1 : Int) : Rat) 200001 1 := .int (Nat.le_trans (nb_small (n := ((nb s : Int) - 1).natAbs) (k := 20) (by omega) (by omega)) (by omega))
      simp (disch := first | exact rb2 | exact rbw | omega) only [↓w_var, ↓wVar_val, ↓wVar_own, ↓w_c, ↓w_nil, ↓w_cons, ↓w_app, ↓wViews_nil, ↓wViews_cons, ↓wView_d, ↓wView_fresh, ↓wView_plc, ↓wSlot_val, ↓wSlot_own, ↓wEsc_d, ↓wEsc_fresh, ↓wEsc_plc, ↓wEscS_val, ↓wEscS_own, ↓wEscs_nil, ↓wEscs_cons, ↓w_frz, ↓w_tup, ↓w_lst, ↓w_bool, ↓w_tru, ↓w_notT, ↓w_andT, ↓w_orT, ↓w_if, ↓w_and, ↓w_or, ↓w_not, ↓w_chain, ↓wB_bl, ↓w_noPart, ↓w_part, ↓w_slice, ↓w_call, ↓wPlc_cons, ↓wOwn_own, ↓w_callIo, ↓isLst_lst, ↓w_meth, ↓w_ext, ↓wExt_ok, ↓ws_next, ↓ws_bk, ↓ws_ct, ↓ws_rt, ↓ws_nx, ↓ws_seq, ↓ws_drop, ↓ws_ret, ↓ws_if, ↓ws_set, ↓wSet_d, ↓wSet_fresh, ↓wSet_plc, ↓ws_asg, ↓wt_name, ↓wt_nil, ↓wt_cons, ↓wt_tup, ↓wt_lst, ↓wPar_two, ↓ws_par, ↓wLstS_own, ↓wInt_int, ↓ws_item, ↓ws_for, ↓w_zip, ↓w_iter, ↓wItems_lst, ↓wItems_tup, ↓w_rng, ↓wRet_d, ↓wRet_fresh, ↓wRet_plc, ↓wRetS_val, ↓wRetS_own, ↓wRetS_ownS, ↓wI_some, ↓wI_none, ↓wI_ite, List.getElem?_cons_zero, List.getElem?_cons_succ, List.set_cons_zero, List.set_cons_succ, o_eqI, f0', decide_false, Bool.false_eq_true, ↓reduceIte, o_lt, f3', fr_int, hl, wF0_ok, hM, hW, o_ge]
      rw [fin _ bi]
/-- held -/
noncomputable def hd4 (q : Nat → Rat) (need : Int) (s : Nat) : Bool := match firstP q with
  | none => false
  | some f => if q f < 0 then false else mkUp (q f) f (restR q f need s) s
theorem firstP_some {q : Nat → Rat} {f : Nat} (h : firstP q = some f) : f < 4 ∧ q f ≠ 0 := pl_mem (List.mem_of_mem_head? h)
noncomputable def heldB (P M R : List D → FRes) : SDen :=
 sSeq (sSet 3 (dCall P [dVar 0]))
 (sSeq (sIf (dOrT (dBool (dApp oIs [dVar 3, dC .non])) (dBool (dApp oLtI [dApp oIx [dApp oIx [dVar 0, dVar 3], dC (.int 0)], dC (.int 0)])))
 (sRet (dC (.bl false)))
 (sNext))
 (sRet (dCall M [dApp oIx [dVar 0, dVar 3], dVar 3, dCall R [dVar 0, dVar 3, dVar 1, dVar 2], dVar 2])))
abbrev HeldE (A : List D → FRes) : Prop := ∀ (q : Nat → Rat) (need : Int) (s : Nat), Sm q → nb need.natAbs ≤ 100 → 3 ≤ s → s ≤ 200000 → A [fourD q, .int need, .int (s : Nat)] = .ok (.d (.bl (hd4 q need s))) none
theorem held_e {P M R : List D → FRes} (hP : FirstE P) (hM : MakesUpE M) (hR : RestE R) : HeldE (runFn 4 3 false (heldB P M R)) := by
  intro q need s hq hn s3 s1
  refine eq_of_w (w_run0 rfl ?_)
  show wS (heldB P M R [Sl.val (fourD q), .val (.int need), .val (.int (s : Nat)), .no]) _
  unfold heldB hd4
  have hp := hP q
  cases hf : firstP q with
  | none =>
    rw [hf] at hp
    simp only [↓w_var, ↓wVar_val, ↓wVar_own, ↓w_c, ↓w_nil, ↓w_cons, ↓w_app, ↓wViews_nil, ↓wViews_cons, ↓wView_d, ↓wView_fresh, ↓wView_plc, ↓wSlot_val, ↓wSlot_own, ↓wEsc_d, ↓wEsc_fresh, ↓wEsc_plc, ↓wEscS_val, ↓wEscS_own, ↓wEscs_nil, ↓wEscs_cons, ↓w_frz, ↓w_tup, ↓w_lst, ↓w_bool, ↓w_tru, ↓w_notT, ↓w_andT, ↓w_orT, ↓w_if, ↓w_and, ↓w_or, ↓w_not, ↓w_chain, ↓wB_bl, ↓w_noPart, ↓w_part, ↓w_slice, ↓w_call, ↓wPlc_cons, ↓wOwn_own, ↓w_callIo, ↓isLst_lst, ↓w_meth, ↓w_ext, ↓wExt_ok, ↓ws_next, ↓ws_bk, ↓ws_ct, ↓ws_rt, ↓ws_nx, ↓ws_seq, ↓ws_drop, ↓ws_ret, ↓ws_if, ↓ws_set, ↓wSet_d, ↓wSet_fresh, ↓wSet_plc, ↓ws_asg, ↓wt_name, ↓wt_nil, ↓wt_cons, ↓wt_tup, ↓wt_lst, ↓wPar_two, ↓ws_par, ↓wLstS_own, ↓wInt_int, ↓ws_item, ↓ws_for, ↓w_zip, ↓w_iter, ↓wItems_lst, ↓wItems_tup, ↓w_rng, ↓wRet_d, ↓wRet_fresh, ↓wRet_plc, ↓wRetS_val, ↓wRetS_own, ↓wRetS_ownS, ↓wI_some, ↓wI_none, ↓wI_ite, List.getElem?_cons_zero, List.getElem?_cons_succ, List.set_cons_zero, List.set_cons_succ, hp, wF0_ok, optN', o_is, DL.isNon, ↓reduceIte]
  | some f =>
    rw [hf] at hp
    obtain ⟨f4, fn⟩ := firstP_some hf
    have bq := hq.b f f4
    by_cases neg : q f < 0
    · have neg' := neg_num.mpr neg
      simp (disch := assumption) only [↓w_var, ↓wVar_val, ↓wVar_own, ↓w_c, ↓w_nil, ↓w_cons, ↓w_app, ↓wViews_nil, ↓wViews_cons, ↓wView_d, ↓wView_fresh, ↓wView_plc, ↓wSlot_val, ↓wSlot_own, ↓wEsc_d, ↓wEsc_fresh, ↓wEsc_plc, ↓wEscS_val, ↓wEscS_own, ↓wEscs_nil, ↓wEscs_cons, ↓w_frz, ↓w_tup, ↓w_lst, ↓w_bool, ↓w_tru, ↓w_notT, ↓w_andT, ↓w_orT, ↓w_if, ↓w_and, ↓w_or, ↓w_not, ↓w_chain, ↓wB_bl, ↓w_noPart, ↓w_part, ↓w_slice, ↓w_call, ↓wPlc_cons, ↓wOwn_own, ↓w_callIo, ↓isLst_lst, ↓w_meth, ↓w_ext, ↓wExt_ok, ↓ws_next, ↓ws_bk, ↓ws_ct, ↓ws_rt, ↓ws_nx, ↓ws_seq, ↓ws_drop, ↓ws_ret, ↓ws_if, ↓ws_set, ↓wSet_d, ↓wSet_fresh, ↓wSet_plc, ↓ws_asg, ↓wt_name, ↓wt_nil, ↓wt_cons, ↓wt_tup, ↓wt_lst, ↓wPar_two, ↓ws_par, ↓wLstS_own, ↓wInt_int, ↓ws_item, ↓ws_for, ↓w_zip, ↓w_iter, ↓wItems_lst, ↓wItems_tup, ↓w_rng, ↓wRet_d, ↓wRet_fresh, ↓wRet_plc, ↓wRetS_val, ↓wRetS_own, ↓wRetS_ownS, ↓wI_some, ↓wI_none, ↓wI_ite, List.getElem?_cons_zero, List.getElem?_cons_succ, List.set_cons_zero, List.set_cons_succ, hp, wF0_ok, optN', o_is, DL.isNon, Bool.false_eq_true, ↓reduceIte, four_ix, fr_ix0, o_lt, neg', decide_true]
      rw [if_pos neg]
    · have neg' : ¬ (q f).num < 0 := fun z => neg (neg_num.mp z)
      have hr := hR q f need s hq f4 hn s3 s1
      have hm := hM (q f) f (restR q f need s) s (by grind) bq f4 restR_nn (restR_rb hq f4 s1 hn) s3 s1
      simp (disch := assumption) only [↓w_var, ↓wVar_val, ↓wVar_own, ↓w_c, ↓w_nil, ↓w_cons, ↓w_app, ↓wViews_nil, ↓wViews_cons, ↓wView_d, ↓wView_fresh, ↓wView_plc, ↓wSlot_val, ↓wSlot_own, ↓wEsc_d, ↓wEsc_fresh, ↓wEsc_plc, ↓wEscS_val, ↓wEscS_own, ↓wEscs_nil, ↓wEscs_cons, ↓w_frz, ↓w_tup, ↓w_lst, ↓w_bool, ↓w_tru, ↓w_notT, ↓w_andT, ↓w_orT, ↓w_if, ↓w_and, ↓w_or, ↓w_not, ↓w_chain, ↓wB_bl, ↓w_noPart, ↓w_part, ↓w_slice, ↓w_call, ↓wPlc_cons, ↓wOwn_own, ↓w_callIo, ↓isLst_lst, ↓w_meth, ↓w_ext, ↓wExt_ok, ↓ws_next, ↓ws_bk, ↓ws_ct, ↓ws_rt, ↓ws_nx, ↓ws_seq, ↓ws_drop, ↓ws_ret, ↓ws_if, ↓ws_set, ↓wSet_d, ↓wSet_fresh, ↓wSet_plc, ↓ws_asg, ↓wt_name, ↓wt_nil, ↓wt_cons, ↓wt_tup, ↓wt_lst, ↓wPar_two, ↓ws_par, ↓wLstS_own, ↓wInt_int, ↓ws_item, ↓ws_for, ↓w_zip, ↓w_iter, ↓wItems_lst, ↓wItems_tup, ↓w_rng, ↓wRet_d, ↓wRet_fresh, ↓wRet_plc, ↓wRetS_val, ↓wRetS_own, ↓wRetS_ownS, ↓wI_some, ↓wI_none, ↓wI_ite, List.getElem?_cons_zero, List.getElem?_cons_succ, List.set_cons_zero, List.set_cons_succ, hp, wF0_ok, optN', o_is, DL.isNon, Bool.false_eq_true, ↓reduceIte, four_ix, fr_ix0, o_lt, neg', decide_false, hr, hm]
      rw [if_neg neg]
end DL
set_option maxHeartbeats 4000000
/-! DL, part 33: the laws' own held; their draws of ups. -/
namespace DL
open PySem PySem.Spec PyProof.Rows L2
noncomputable def lheldB (P M T H B N : List D → FRes) : SDen :=
 sSeq (sSet 3 (dComp [6] (dRng [dC (.int 4)]) (tName 6) (dBool (dApp oNe [dApp oIx [dApp oIx [dVar 0, dVar 6], dC (.int 0)], dC (.int 0)])) (dVar 6)))
 (sSeq (sIf (dOrT (dBool (dApp oEq [dVar 3, dLst []])) (dBool (dApp oLtI [dApp oIx [dApp oIx [dVar 0, dApp oIx [dVar 3, dC (.int 0)]], dC (.int 0)], dC (.int 0)])))
 (sRet (dC (.bl false)))
 (sNext))
 (sSeq (sSet 4 (dApp oIx [dVar 3, dC (.int 0)]))
 (sSeq (sSet 5 (dTup [dApp oMax [dC (.int 0), dVar 1], dC (.int 1)]))
 (sSeq (sFor (dRng [dApp oAdd [dVar 4, dC (.int 1)], dC (.int 4)]) (tName 6)
 (sSeq (sSet 7 (dApp oIx [dLst [dC (.int 0), dApp oShl [dC (.int 1), dVar 2], dVar 2, dApp oBits [dApp oSub [dVar 2, dC (.int 1)]]], dVar 6]))
 (sIf (dBool (dApp oLtI [dApp oIx [dApp oIx [dVar 0, dVar 6], dC (.int 0)], dC (.int 0)]))
 (sSet 5 (dCall P [dVar 5, dCall M [dCall T [dApp oIx [dVar 0, dVar 6]], dTup [dVar 7, dC (.int 1)]]]))
 (sNext))))
 (sSeq (sIf (dAndT (dBool (dApp oEq [dVar 4, dC (.int 0)])) (dBool (dApp oGt [dVar 2, dC (.int 8)])))
 (sRet (dOr (dApp oEq [dApp oIx [dVar 5, dC (.int 0)], dC (.int 0)]) (dApp oGe [dApp oShl [dC (.int 1), dVar 2], dCall H [dCall B [dVar 5, dApp oIx [dVar 0, dC (.int 0)]]]])))
 (sNext))
 (sSeq (sIf (dBool (dApp oEq [dVar 4, dC (.int 0)]))
 (sRet (dCall N [dVar 5, dCall M [dApp oIx [dVar 0, dC (.int 0)], dTup [dApp oShl [dC (.int 1), dApp oShl [dC (.int 1), dVar 2]], dC (.int 1)]]]))
 (sNext))
 (sSeq (sSet 8 (dApp oIx [dLst [dC (.int 0), dApp oShl [dC (.int 1), dVar 2], dVar 2, dApp oSub [dApp oBits [dVar 2], dC (.int 1)]], dVar 4]))
 (sRet (dCall N [dVar 5, dCall M [dApp oIx [dVar 0, dVar 4], dTup [dVar 8, dC (.int 1)]]])))))))))
theorem ix4 {a b c d : D} {k : Nat} {Q : RV → Prop} (h : k < 4) : wI (oIx [.lst [a, b, c, d], .int (k : Nat)]) Q = Q (.d (if k = 0 then a else if k = 1 then b else if k = 2 then c else d)) := by
  match k, h with
  | 0, _ => exact id rfl
  | 1, _ => exact id rfl
  | 2, _ => exact id rfl
  | 3, _ => exact id rfl
theorem nums_at {k s : Nat} (h1 : 1 ≤ k) (h4 : k < 4) (s3 : 3 ≤ s) : (if k = 0 then D.int 0 else if k = 1 then .int (2 ^ s) else if k = 2 then .int (s : Nat) else .int (nbi ((s : Int) - 1))) = .int (numAt k s) := by
  have e : nbi ((s : Int) - 1) = nb (s - 1) := by
    have : (s : Int) - 1 = ((s - 1 : Nat) : Int) := by omega
    rw [this, nbi_nat (by omega)]
  match k, h1, h4 with
  | 1, _, _ => simp [numAt]
  | 2, _, _ => simp [numAt]
  | 3, _, _ => simp [numAt, e]
theorem own_at {k s : Nat} (h1 : 1 ≤ k) (h4 : k < 4) (s3 : 3 ≤ s) : (if k = 0 then D.int 0 else if k = 1 then .int (2 ^ s) else if k = 2 then .int (s : Nat) else .int (nbi (s : Nat) - 1)) = .int (if k < 3 then numAt k s else nb s - 1) := by
  match k, h1, h4 with
  | 1, _, _ => simp [numAt]
  | 2, _, _ => simp [numAt]
  | 3, _, _ => simp [numAt, nbi_nat (s := s) (by omega)]
theorem sh2 {s : Nat} {Q : RV → Prop} (h : s ≤ 20) : wI (oShl [.int 1, .int ((2 : Int) ^ s)]) Q = Q (.d (.int (2 ^ 2 ^ s))) := by
  have e : (2 : Int) ^ s = ((2 ^ s : Nat) : Int) := by simp
  have h1 := Nat.pow_le_pow_right (show 0 < 2 by omega) h
  have h2 : (2 : Nat) ^ 20 = 1048576 := by decide
  rw [e, sh1N (by omega)]
theorem pow_pow_rat {s : Nat} : (((2 : Int) ^ 2 ^ s : Int) : Rat) = (2 : Rat) ^ ((2 : Int) ^ s) := by
  have e : (2 : Int) ^ s = ((2 ^ s : Nat) : Int) := by simp
  rw [e, Rat.zpow_natCast, pow2_cast]
theorem mul_le_iff {r x t : Rat} (hx : 0 < x) : r ≤ x * t ↔ r / x ≤ t := by
  have h := @Rat.lt_div_iff t r x hx
  constructor
  · intro z
    apply Rat.not_lt.mp
    intro y
    have := h.mp y
    grind
  · intro z
    apply Rat.not_lt.mp
    intro y
    have := h.mpr (by grind)
    grind
theorem nb_pow2 (k : Nat) : nb ((2 : Int) ^ k).natAbs ≤ k + 1 := by
  have e : ((2 : Int) ^ k).natAbs = 2 ^ k := by
    rw [show (2 : Int) ^ k = ((2 ^ k : Nat) : Int) by simp, Int.natAbs_natCast]
  rw [e]
  exact nb_le (Nat.pow_lt_pow_right (by omega) (by omega)) (by omega)
theorem lheld_e {P M T H B N : List D → FRes} (hP : AddedE P) (hM : MultE M) (hT : TurnedE T) (hH : CeilE H) (hB : DividedE B) (hN : NotAboveE N) : HeldE (runFn 9 3 false (lheldB P M T H B N)) := by
  intro q need s hq hn s3 s1
  refine eq_of_w (w_run0 rfl ?_)
  show wS (lheldB P M T H B N [Sl.val (fourD q), .val (.int need), .val (.int (s : Nat)), .no, .no, .no, .no, .no, .no]) _
  unfold lheldB
  refine ws_cut (fun ρ => ρ = [Sl.val (fourD q), .val (.int need), .val (.int (s : Nat)), .own (.lst (natsD (pl q))), .no, .no, .no, .no, .no]) ?_ ?_
  · rw [ws_set]
    refine comp_fil (nozD q) id ?_
    simp only [↓w_var, ↓wVar_val, ↓wVar_own, ↓w_c, ↓w_nil, ↓w_cons, ↓w_app, ↓wViews_nil, ↓wViews_cons, ↓wView_d, ↓wView_fresh, ↓wView_plc, ↓wSlot_val, ↓wSlot_own, ↓wEsc_d, ↓wEsc_fresh, ↓wEsc_plc, ↓wEscS_val, ↓wEscS_own, ↓wEscs_nil, ↓wEscs_cons, ↓w_frz, ↓w_tup, ↓w_lst, ↓w_bool, ↓w_tru, ↓w_notT, ↓w_andT, ↓w_orT, ↓w_if, ↓w_and, ↓w_or, ↓w_not, ↓w_chain, ↓wB_bl, ↓w_noPart, ↓w_part, ↓w_slice, ↓w_call, ↓wPlc_cons, ↓wOwn_own, ↓w_callIo, ↓isLst_lst, ↓w_meth, ↓w_ext, ↓wExt_ok, ↓ws_next, ↓ws_bk, ↓ws_ct, ↓ws_rt, ↓ws_nx, ↓ws_seq, ↓ws_drop, ↓ws_ret, ↓ws_if, ↓ws_set, ↓wSet_d, ↓wSet_fresh, ↓wSet_plc, ↓ws_asg, ↓wt_name, ↓wt_nil, ↓wt_cons, ↓wt_tup, ↓wt_lst, ↓wPar_two, ↓ws_par, ↓wLstS_own, ↓wInt_int, ↓ws_item, ↓ws_for, ↓w_zip, ↓w_iter, ↓wItems_lst, ↓wItems_tup, ↓w_rng, ↓wRet_d, ↓wRet_fresh, ↓wRet_plc, ↓wRetS_val, ↓wRetS_own, ↓wRetS_ownS, ↓wI_some, ↓wI_none, ↓wI_ite, List.getElem?_cons_zero, List.getElem?_cons_succ, List.set_cons_zero, List.set_cons_succ, intsR1, rng4]
    refine ⟨by decide, fun d hd => ?_, fun d hd _ => ?_, ?_⟩
    · obtain ⟨k, hk, rfl⟩ := mem_rng4 hd
      simp (disch := assumption) only [↓w_var, ↓wVar_val, ↓wVar_own, ↓w_c, ↓w_nil, ↓w_cons, ↓w_app, ↓wViews_nil, ↓wViews_cons, ↓wView_d, ↓wView_fresh, ↓wView_plc, ↓wSlot_val, ↓wSlot_own, ↓wEsc_d, ↓wEsc_fresh, ↓wEsc_plc, ↓wEscS_val, ↓wEscS_own, ↓wEscs_nil, ↓wEscs_cons, ↓w_frz, ↓w_tup, ↓w_lst, ↓w_bool, ↓w_tru, ↓w_notT, ↓w_andT, ↓w_orT, ↓w_if, ↓w_and, ↓w_or, ↓w_not, ↓w_chain, ↓wB_bl, ↓w_noPart, ↓w_part, ↓w_slice, ↓w_call, ↓wPlc_cons, ↓wOwn_own, ↓w_callIo, ↓isLst_lst, ↓w_meth, ↓w_ext, ↓wExt_ok, ↓ws_next, ↓ws_bk, ↓ws_ct, ↓ws_rt, ↓ws_nx, ↓ws_seq, ↓ws_drop, ↓ws_ret, ↓ws_if, ↓ws_set, ↓wSet_d, ↓wSet_fresh, ↓wSet_plc, ↓ws_asg, ↓wt_name, ↓wt_nil, ↓wt_cons, ↓wt_tup, ↓wt_lst, ↓wPar_two, ↓ws_par, ↓wLstS_own, ↓wInt_int, ↓ws_item, ↓ws_for, ↓w_zip, ↓w_iter, ↓wItems_lst, ↓wItems_tup, ↓w_rng, ↓wRet_d, ↓wRet_fresh, ↓wRet_plc, ↓wRetS_val, ↓wRetS_own, ↓wRetS_ownS, ↓wI_some, ↓wI_none, ↓wI_ite, List.getElem?_cons_zero, List.getElem?_cons_succ, List.set_cons_zero, List.set_cons_succ, four_ix, fr_ix0, o_neI]
      refine ⟨?_, trivial⟩
      show _ = decide (q ((k : Int)).toNat ≠ 0)
      apply decide_eq_decide.mpr
      rw [Int.toNat_natCast, ne_eq, ne_eq, num_eq0]
    · exact ⟨rfl, trivial⟩
    · rw [pl_eq q (nozD q) (fun k _ => by simp [nozD])]
      try simp only [↓w_var, ↓wVar_val, ↓wVar_own, ↓w_c, ↓w_nil, ↓w_cons, ↓w_app, ↓wViews_nil, ↓wViews_cons, ↓wView_d, ↓wView_fresh, ↓wView_plc, ↓wSlot_val, ↓wSlot_own, ↓wEsc_d, ↓wEsc_fresh, ↓wEsc_plc, ↓wEscS_val, ↓wEscS_own, ↓wEscs_nil, ↓wEscs_cons, ↓w_frz, ↓w_tup, ↓w_lst, ↓w_bool, ↓w_tru, ↓w_notT, ↓w_andT, ↓w_orT, ↓w_if, ↓w_and, ↓w_or, ↓w_not, ↓w_chain, ↓wB_bl, ↓w_noPart, ↓w_part, ↓w_slice, ↓w_call, ↓wPlc_cons, ↓wOwn_own, ↓w_callIo, ↓isLst_lst, ↓w_meth, ↓w_ext, ↓wExt_ok, ↓ws_next, ↓ws_bk, ↓ws_ct, ↓ws_rt, ↓ws_nx, ↓ws_seq, ↓ws_drop, ↓ws_ret, ↓ws_if, ↓ws_set, ↓wSet_d, ↓wSet_fresh, ↓wSet_plc, ↓ws_asg, ↓wt_name, ↓wt_nil, ↓wt_cons, ↓wt_tup, ↓wt_lst, ↓wPar_two, ↓ws_par, ↓wLstS_own, ↓wInt_int, ↓ws_item, ↓ws_for, ↓w_zip, ↓w_iter, ↓wItems_lst, ↓wItems_tup, ↓w_rng, ↓wRet_d, ↓wRet_fresh, ↓wRet_plc, ↓wRetS_val, ↓wRetS_own, ↓wRetS_ownS, ↓wI_some, ↓wI_none, ↓wI_ite, List.getElem?_cons_zero, List.getElem?_cons_succ, List.set_cons_zero, List.set_cons_succ]
  rintro _ rfl
  have hnn := @nats_ne (pl q)
  unfold hd4 firstP
  cases hpl : pl q with
  | nil =>
    rw [hpl] at hnn
    simp (disch := first | exact sh_nats | exact sh00) only [↓w_var, ↓wVar_val, ↓wVar_own, ↓w_c, ↓w_nil, ↓w_cons, ↓w_app, ↓wViews_nil, ↓wViews_cons, ↓wView_d, ↓wView_fresh, ↓wView_plc, ↓wSlot_val, ↓wSlot_own, ↓wEsc_d, ↓wEsc_fresh, ↓wEsc_plc, ↓wEscS_val, ↓wEscS_own, ↓wEscs_nil, ↓wEscs_cons, ↓w_frz, ↓w_tup, ↓w_lst, ↓w_bool, ↓w_tru, ↓w_notT, ↓w_andT, ↓w_orT, ↓w_if, ↓w_and, ↓w_or, ↓w_not, ↓w_chain, ↓wB_bl, ↓w_noPart, ↓w_part, ↓w_slice, ↓w_call, ↓wPlc_cons, ↓wOwn_own, ↓w_callIo, ↓isLst_lst, ↓w_meth, ↓w_ext, ↓wExt_ok, ↓ws_next, ↓ws_bk, ↓ws_ct, ↓ws_rt, ↓ws_nx, ↓ws_seq, ↓ws_drop, ↓ws_ret, ↓ws_if, ↓ws_set, ↓wSet_d, ↓wSet_fresh, ↓wSet_plc, ↓ws_asg, ↓wt_name, ↓wt_nil, ↓wt_cons, ↓wt_tup, ↓wt_lst, ↓wPar_two, ↓ws_par, ↓wLstS_own, ↓wInt_int, ↓ws_item, ↓ws_for, ↓w_zip, ↓w_iter, ↓wItems_lst, ↓wItems_tup, ↓w_rng, ↓wRet_d, ↓wRet_fresh, ↓wRet_plc, ↓wRetS_val, ↓wRetS_own, ↓wRetS_ownS, ↓wI_some, ↓wI_none, ↓wI_ite, List.getElem?_cons_zero, List.getElem?_cons_succ, List.set_cons_zero, List.set_cons_succ, o_eq, hnn, List.isEmpty_nil, ↓reduceIte, List.head?_nil]
  | cons f rest =>
    rw [hpl] at hnn
    obtain ⟨f4, fn⟩ := pl_mem (q := q) (k := f) (by rw [hpl]; simp)
    have bq := hq.b f f4
    have p0 : ∀ {Q : RV → Prop}, wI (oIx [.lst (natsD (f :: rest)), .int 0]) Q = Q (.d (.int (f : Nat))) := fun {Q} => lst_c0
    by_cases neg : q f < 0
    · have neg' := neg_num.mpr neg
      simp (disch := first | exact sh_nats | exact sh00 | assumption) only [↓w_var, ↓wVar_val, ↓wVar_own, ↓w_c, ↓w_nil, ↓w_cons, ↓w_app, ↓wViews_nil, ↓wViews_cons, ↓wView_d, ↓wView_fresh, ↓wView_plc, ↓wSlot_val, ↓wSlot_own, ↓wEsc_d, ↓wEsc_fresh, ↓wEsc_plc, ↓wEscS_val, ↓wEscS_own, ↓wEscs_nil, ↓wEscs_cons, ↓w_frz, ↓w_tup, ↓w_lst, ↓w_bool, ↓w_tru, ↓w_notT, ↓w_andT, ↓w_orT, ↓w_if, ↓w_and, ↓w_or, ↓w_not, ↓w_chain, ↓wB_bl, ↓w_noPart, ↓w_part, ↓w_slice, ↓w_call, ↓wPlc_cons, ↓wOwn_own, ↓w_callIo, ↓isLst_lst, ↓w_meth, ↓w_ext, ↓wExt_ok, ↓ws_next, ↓ws_bk, ↓ws_ct, ↓ws_rt, ↓ws_nx, ↓ws_seq, ↓ws_drop, ↓ws_ret, ↓ws_if, ↓ws_set, ↓wSet_d, ↓wSet_fresh, ↓wSet_plc, ↓ws_asg, ↓wt_name, ↓wt_nil, ↓wt_cons, ↓wt_tup, ↓wt_lst, ↓wPar_two, ↓ws_par, ↓wLstS_own, ↓wInt_int, ↓ws_item, ↓ws_for, ↓w_zip, ↓w_iter, ↓wItems_lst, ↓wItems_tup, ↓w_rng, ↓wRet_d, ↓wRet_fresh, ↓wRet_plc, ↓wRetS_val, ↓wRetS_own, ↓wRetS_ownS, ↓wI_some, ↓wI_none, ↓wI_ite, List.getElem?_cons_zero, List.getElem?_cons_succ, List.set_cons_zero, List.set_cons_succ, o_eq, hnn, List.isEmpty_cons, Bool.false_eq_true, ↓reduceIte, p0, four_ix, fr_ix0, o_lt, neg', decide_true, List.head?_cons, neg]
    · have neg' : ¬ (q f).num < 0 := fun z => neg (neg_num.mp z)
      have xp : 0 < q f := by grind
      have e0 : (if (0 : Int) < need then need else 0) = (if need < 0 then 0 else need) := by split <;> split <;> omega
      refine ws_cut (fun ρ => ρ = [Sl.val (fourD q), .val (.int need), .val (.int (s : Nat)), .own (.lst (natsD (f :: rest))), .no, .no, .no, .no, .no]) ?_ ?_
      · simp (disch := first | exact sh_nats | exact sh00 | assumption) only [↓w_var, ↓wVar_val, ↓wVar_own, ↓w_c, ↓w_nil, ↓w_cons, ↓w_app, ↓wViews_nil, ↓wViews_cons, ↓wView_d, ↓wView_fresh, ↓wView_plc, ↓wSlot_val, ↓wSlot_own, ↓wEsc_d, ↓wEsc_fresh, ↓wEsc_plc, ↓wEscS_val, ↓wEscS_own, ↓wEscs_nil, ↓wEscs_cons, ↓w_frz, ↓w_tup, ↓w_lst, ↓w_bool, ↓w_tru, ↓w_notT, ↓w_andT, ↓w_orT, ↓w_if, ↓w_and, ↓w_or, ↓w_not, ↓w_chain, ↓wB_bl, ↓w_noPart, ↓w_part, ↓w_slice, ↓w_call, ↓wPlc_cons, ↓wOwn_own, ↓w_callIo, ↓isLst_lst, ↓w_meth, ↓w_ext, ↓wExt_ok, ↓ws_next, ↓ws_bk, ↓ws_ct, ↓ws_rt, ↓ws_nx, ↓ws_seq, ↓ws_drop, ↓ws_ret, ↓ws_if, ↓ws_set, ↓wSet_d, ↓wSet_fresh, ↓wSet_plc, ↓ws_asg, ↓wt_name, ↓wt_nil, ↓wt_cons, ↓wt_tup, ↓wt_lst, ↓wPar_two, ↓ws_par, ↓wLstS_own, ↓wInt_int, ↓ws_item, ↓ws_for, ↓w_zip, ↓w_iter, ↓wItems_lst, ↓wItems_tup, ↓w_rng, ↓wRet_d, ↓wRet_fresh, ↓wRet_plc, ↓wRetS_val, ↓wRetS_own, ↓wRetS_ownS, ↓wI_some, ↓wI_none, ↓wI_ite, List.getElem?_cons_zero, List.getElem?_cons_succ, List.set_cons_zero, List.set_cons_succ, o_eq, hnn, List.isEmpty_cons, Bool.false_eq_true, ↓reduceIte, p0, four_ix, fr_ix0, o_lt, neg', decide_false]
      rintro _ rfl
      simp only [List.head?_cons, neg, ↓reduceIte]
      have hr := restR_rb (need := need) hq f4 s1 hn
      have rn := @restR_nn q f s need
      rw [ws_seq]
      simp only [↓w_var, ↓wVar_val, ↓wVar_own, ↓w_c, ↓w_nil, ↓w_cons, ↓w_app, ↓wViews_nil, ↓wViews_cons, ↓wView_d, ↓wView_fresh, ↓wView_plc, ↓wSlot_val, ↓wSlot_own, ↓wEsc_d, ↓wEsc_fresh, ↓wEsc_plc, ↓wEscS_val, ↓wEscS_own, ↓wEscs_nil, ↓wEscs_cons, ↓w_frz, ↓w_tup, ↓w_lst, ↓w_bool, ↓w_tru, ↓w_notT, ↓w_andT, ↓w_orT, ↓w_if, ↓w_and, ↓w_or, ↓w_not, ↓w_chain, ↓wB_bl, ↓w_noPart, ↓w_part, ↓w_slice, ↓w_call, ↓wPlc_cons, ↓wOwn_own, ↓w_callIo, ↓isLst_lst, ↓w_meth, ↓w_ext, ↓wExt_ok, ↓ws_next, ↓ws_bk, ↓ws_ct, ↓ws_rt, ↓ws_nx, ↓ws_seq, ↓ws_drop, ↓ws_ret, ↓ws_if, ↓ws_set, ↓wSet_d, ↓wSet_fresh, ↓wSet_plc, ↓ws_asg, ↓wt_name, ↓wt_nil, ↓wt_cons, ↓wt_tup, ↓wt_lst, ↓wPar_two, ↓ws_par, ↓wLstS_own, ↓wInt_int, ↓ws_item, ↓ws_for, ↓w_zip, ↓w_iter, ↓wItems_lst, ↓wItems_tup, ↓w_rng, ↓wRet_d, ↓wRet_fresh, ↓wRet_plc, ↓wRetS_val, ↓wRetS_own, ↓wRetS_ownS, ↓wI_some, ↓wI_none, ↓wI_ite, List.getElem?_cons_zero, List.getElem?_cons_succ, List.set_cons_zero, List.set_cons_succ, p0]
      rw [max0', e0]
      simp only [↓w_var, ↓wVar_val, ↓wVar_own, ↓w_c, ↓w_nil, ↓w_cons, ↓w_app, ↓wViews_nil, ↓wViews_cons, ↓wView_d, ↓wView_fresh, ↓wView_plc, ↓wSlot_val, ↓wSlot_own, ↓wEsc_d, ↓wEsc_fresh, ↓wEsc_plc, ↓wEscS_val, ↓wEscS_own, ↓wEscs_nil, ↓wEscs_cons, ↓w_frz, ↓w_tup, ↓w_lst, ↓w_bool, ↓w_tru, ↓w_notT, ↓w_andT, ↓w_orT, ↓w_if, ↓w_and, ↓w_or, ↓w_not, ↓w_chain, ↓wB_bl, ↓w_noPart, ↓w_part, ↓w_slice, ↓w_call, ↓wPlc_cons, ↓wOwn_own, ↓w_callIo, ↓isLst_lst, ↓w_meth, ↓w_ext, ↓wExt_ok, ↓ws_next, ↓ws_bk, ↓ws_ct, ↓ws_rt, ↓ws_nx, ↓ws_seq, ↓ws_drop, ↓ws_ret, ↓ws_if, ↓ws_set, ↓wSet_d, ↓wSet_fresh, ↓wSet_plc, ↓ws_asg, ↓wt_name, ↓wt_nil, ↓wt_cons, ↓wt_tup, ↓wt_lst, ↓wPar_two, ↓ws_par, ↓wLstS_own, ↓wInt_int, ↓ws_item, ↓ws_for, ↓w_zip, ↓w_iter, ↓wItems_lst, ↓wItems_tup, ↓w_rng, ↓wRet_d, ↓wRet_fresh, ↓wRet_plc, ↓wRetS_val, ↓wRetS_own, ↓wRetS_ownS, ↓wI_some, ↓wI_none, ↓wI_ite, List.getElem?_cons_zero, List.getElem?_cons_succ, List.set_cons_zero, List.set_cons_succ, fr_int]
      simp (disch := assumption) only [↓w_var, ↓wVar_val, ↓wVar_own, ↓w_c, ↓w_nil, ↓w_cons, ↓w_app, ↓wViews_nil, ↓wViews_cons, ↓wView_d, ↓wView_fresh, ↓wView_plc, ↓wSlot_val, ↓wSlot_own, ↓wEsc_d, ↓wEsc_fresh, ↓wEsc_plc, ↓wEscS_val, ↓wEscS_own, ↓wEscs_nil, ↓wEscs_cons, ↓w_frz, ↓w_tup, ↓w_lst, ↓w_bool, ↓w_tru, ↓w_notT, ↓w_andT, ↓w_orT, ↓w_if, ↓w_and, ↓w_or, ↓w_not, ↓w_chain, ↓wB_bl, ↓w_noPart, ↓w_part, ↓w_slice, ↓w_call, ↓wPlc_cons, ↓wOwn_own, ↓w_callIo, ↓isLst_lst, ↓w_meth, ↓w_ext, ↓wExt_ok, ↓ws_next, ↓ws_bk, ↓ws_ct, ↓ws_rt, ↓ws_nx, ↓ws_seq, ↓ws_drop, ↓ws_ret, ↓ws_if, ↓ws_set, ↓wSet_d, ↓wSet_fresh, ↓wSet_plc, ↓ws_asg, ↓wt_name, ↓wt_nil, ↓wt_cons, ↓wt_tup, ↓wt_lst, ↓wPar_two, ↓ws_par, ↓wLstS_own, ↓wInt_int, ↓ws_item, ↓ws_for, ↓w_zip, ↓w_iter, ↓wItems_lst, ↓wItems_tup, ↓w_rng, ↓wRet_d, ↓wRet_fresh, ↓wRet_plc, ↓wRetS_val, ↓wRetS_own, ↓wRetS_ownS, ↓wI_some, ↓wI_none, ↓wI_ite, List.getElem?_cons_zero, List.getElem?_cons_succ, List.set_cons_zero, List.set_cons_succ, o_add, intsR2, rng_latter]
      refine for_inv (fun ds ρ => ∃ (ks : List Nat) (r : Rat) (z w : Sl), ds = natsD ks ∧ ks.length ≤ 3 ∧ (∀ k ∈ ks, k < 4 ∧ 1 ≤ k) ∧ RB r (100 + 200300 * (3 - ks.length)) (1 + 201 * (3 - ks.length)) ∧ ks.foldl (stepR q s) r = restR q f need s ∧ ρ = [Sl.val (fourD q), .val (.int need), .val (.int (s : Nat)), .own (.lst (natsD (f :: rest))), .val (.int (f : Nat)), .val (fr r), z, w, .no])
        ⟨latter f, _, .no, .no, rfl, latter_len, fun k hk => latter_lt hk f4, (need_rb hn).mono (by omega) (by omega), by unfold restR; rfl, rfl⟩ ?_ ?_
      · rintro d ds ρ ⟨ks, r, z, w, hd, hl, hk, hrb, hfold, rfl⟩
        cases ks with
        | nil => cases hd
        | cons k ks =>
          have hd : d :: ds = .int (k : Nat) :: natsD ks := hd
          cases hd
          rw [List.length_cons] at hl hrb
          obtain ⟨k4, k1⟩ := hk k List.mem_cons_self
          have i1 := hq.b k k4
          have i2 : RB ((numAt k s : Int) : Rat) 200001 1 := .int (numAt_nb s1)
          have rbs := stepR_rb hq k4 s1 hrb
          have hnum := nums_at k1 k4 s3
          have fin : ∀ r' w, stepR q s r k = r' → ∃ (ks' : List Nat) (r2 : Rat) (z w2 : Sl), natsD ks = natsD ks' ∧ ks'.length ≤ 3 ∧ (∀ k ∈ ks', k < 4 ∧ 1 ≤ k) ∧ RB r2 (100 + 200300 * (3 - ks'.length)) (1 + 201 * (3 - ks'.length)) ∧ ks'.foldl (stepR q s) r2 = restR q f need s ∧ [Sl.val (fourD q), .val (.int need), .val (.int (s : Nat)), .own (.lst (natsD (f :: rest))), .val (.int (f : Nat)), .val (fr r'), .val (.int (k : Nat)), w, .no] = [Sl.val (fourD q), .val (.int need), .val (.int (s : Nat)), .own (.lst (natsD (f :: rest))), .val (.int (f : Nat)), .val (fr r2), z, w2, .no] := fun r' w e => by
            subst e
            exact ⟨ks, _, _, _, rfl, by omega, fun x hx => hk x (List.mem_cons_of_mem _ hx), rbs.mono (by omega) (by omega), hfold, rfl⟩
          by_cases hneg : q k < 0
          · have hneg' : (q k).num < 0 := neg_num.mpr hneg
            have ft : Fit r (-(q k) * ((numAt k s : Int) : Rat)) := @rb2 _ _ _ _ _ _ hrb inferInstance (by omega)
            simp (disch := first | assumption | exact rb2 | omega) only [↓w_var, ↓wVar_val, ↓wVar_own, ↓w_c, ↓w_nil, ↓w_cons, ↓w_app, ↓wViews_nil, ↓wViews_cons, ↓wView_d, ↓wView_fresh, ↓wView_plc, ↓wSlot_val, ↓wSlot_own, ↓wEsc_d, ↓wEsc_fresh, ↓wEsc_plc, ↓wEscS_val, ↓wEscS_own, ↓wEscs_nil, ↓wEscs_cons, ↓w_frz, ↓w_tup, ↓w_lst, ↓w_bool, ↓w_tru, ↓w_notT, ↓w_andT, ↓w_orT, ↓w_if, ↓w_and, ↓w_or, ↓w_not, ↓w_chain, ↓wB_bl, ↓w_noPart, ↓w_part, ↓w_slice, ↓w_call, ↓wPlc_cons, ↓wOwn_own, ↓w_callIo, ↓isLst_lst, ↓w_meth, ↓w_ext, ↓wExt_ok, ↓ws_next, ↓ws_bk, ↓ws_ct, ↓ws_rt, ↓ws_nx, ↓ws_seq, ↓ws_drop, ↓ws_ret, ↓ws_if, ↓ws_set, ↓wSet_d, ↓wSet_fresh, ↓wSet_plc, ↓ws_asg, ↓wt_name, ↓wt_nil, ↓wt_cons, ↓wt_tup, ↓wt_lst, ↓wPar_two, ↓ws_par, ↓wLstS_own, ↓wInt_int, ↓ws_item, ↓ws_for, ↓w_zip, ↓w_iter, ↓wItems_lst, ↓wItems_tup, ↓w_rng, ↓wRet_d, ↓wRet_fresh, ↓wRet_plc, ↓wRetS_val, ↓wRetS_own, ↓wRetS_ownS, ↓wI_some, ↓wI_none, ↓wI_ite, List.getElem?_cons_zero, List.getElem?_cons_succ, List.set_cons_zero, List.set_cons_succ, sh1N, o_sub, o_bitsN, ix4, hnum, four_ix, fr_ix0, o_lt, hneg', decide_true, ↓reduceIte, hT, wF0_ok, fr_int, hM, hP]
            exact fin _ _ (by unfold stepR; rw [if_pos hneg]; grind)
          · have hneg' : ¬ (q k).num < 0 := fun z => hneg (neg_num.mp z)
            simp (disch := first | assumption | exact rb2 | omega) only [↓w_var, ↓wVar_val, ↓wVar_own, ↓w_c, ↓w_nil, ↓w_cons, ↓w_app, ↓wViews_nil, ↓wViews_cons, ↓wView_d, ↓wView_fresh, ↓wView_plc, ↓wSlot_val, ↓wSlot_own, ↓wEsc_d, ↓wEsc_fresh, ↓wEsc_plc, ↓wEscS_val, ↓wEscS_own, ↓wEscs_nil, ↓wEscs_cons, ↓w_frz, ↓w_tup, ↓w_lst, ↓w_bool, ↓w_tru, ↓w_notT, ↓w_andT, ↓w_orT, ↓w_if, ↓w_and, ↓w_or, ↓w_not, ↓w_chain, ↓wB_bl, ↓w_noPart, ↓w_part, ↓w_slice, ↓w_call, ↓wPlc_cons, ↓wOwn_own, ↓w_callIo, ↓isLst_lst, ↓w_meth, ↓w_ext, ↓wExt_ok, ↓ws_next, ↓ws_bk, ↓ws_ct, ↓ws_rt, ↓ws_nx, ↓ws_seq, ↓ws_drop, ↓ws_ret, ↓ws_if, ↓ws_set, ↓wSet_d, ↓wSet_fresh, ↓wSet_plc, ↓ws_asg, ↓wt_name, ↓wt_nil, ↓wt_cons, ↓wt_tup, ↓wt_lst, ↓wPar_two, ↓ws_par, ↓wLstS_own, ↓wInt_int, ↓ws_item, ↓ws_for, ↓w_zip, ↓w_iter, ↓wItems_lst, ↓wItems_tup, ↓w_rng, ↓wRet_d, ↓wRet_fresh, ↓wRet_plc, ↓wRetS_val, ↓wRetS_own, ↓wRetS_ownS, ↓wI_some, ↓wI_none, ↓wI_ite, List.getElem?_cons_zero, List.getElem?_cons_succ, List.set_cons_zero, List.set_cons_succ, sh1N, o_sub, o_bitsN, ix4, hnum, four_ix, fr_ix0, o_lt, hneg', decide_false, Bool.false_eq_true, ↓reduceIte]
            exact fin _ _ (by unfold stepR; rw [if_neg hneg])
      · rintro ρ ⟨ks, r, z, w, hd, hl, hk, hrb, hfold, rfl⟩
        cases ks with
        | cons k ks => cases hd
        | nil =>
          have er : r = restR q f need s := hfold
          subst er
          by_cases f0 : f = 0
          · subst f0
            have ef : ((0 : Nat) : Int) = 0 := rfl
            have i0 : ∀ {Q : RV → Prop}, wI (oIx [fourD q, .int 0]) Q = Q (.d (fr (q 0))) := fun {Q} => four_ix (k := 0) (by omega)
            have em : mkUp (q 0) 0 (restR q 0 need s) s = decide (restR q 0 need s = 0 ∨ clog (restR q 0 need s / q 0) ≤ 2 ^ s) := by simp [mkUp]
            rw [em]
            by_cases s8 : 8 < s
            · have s8' : (8 : Int) < (s : Nat) := by omega
              by_cases r0 : restR q 0 need s = 0
              · have r0' := num_eq0.mpr r0
                simp only [↓w_var, ↓wVar_val, ↓wVar_own, ↓w_c, ↓w_nil, ↓w_cons, ↓w_app, ↓wViews_nil, ↓wViews_cons, ↓wView_d, ↓wView_fresh, ↓wView_plc, ↓wSlot_val, ↓wSlot_own, ↓wEsc_d, ↓wEsc_fresh, ↓wEsc_plc, ↓wEscS_val, ↓wEscS_own, ↓wEscs_nil, ↓wEscs_cons, ↓w_frz, ↓w_tup, ↓w_lst, ↓w_bool, ↓w_tru, ↓w_notT, ↓w_andT, ↓w_orT, ↓w_if, ↓w_and, ↓w_or, ↓w_not, ↓w_chain, ↓wB_bl, ↓w_noPart, ↓w_part, ↓w_slice, ↓w_call, ↓wPlc_cons, ↓wOwn_own, ↓w_callIo, ↓isLst_lst, ↓w_meth, ↓w_ext, ↓wExt_ok, ↓ws_next, ↓ws_bk, ↓ws_ct, ↓ws_rt, ↓ws_nx, ↓ws_seq, ↓ws_drop, ↓ws_ret, ↓ws_if, ↓ws_set, ↓wSet_d, ↓wSet_fresh, ↓wSet_plc, ↓ws_asg, ↓wt_name, ↓wt_nil, ↓wt_cons, ↓wt_tup, ↓wt_lst, ↓wPar_two, ↓ws_par, ↓wLstS_own, ↓wInt_int, ↓ws_item, ↓ws_for, ↓w_zip, ↓w_iter, ↓wItems_lst, ↓wItems_tup, ↓w_rng, ↓wRet_d, ↓wRet_fresh, ↓wRet_plc, ↓wRetS_val, ↓wRetS_own, ↓wRetS_ownS, ↓wI_some, ↓wI_none, ↓wI_ite, List.getElem?_cons_zero, List.getElem?_cons_succ, List.set_cons_zero, List.set_cons_succ, o_eqI, ef, decide_true, ↓reduceIte, o_gt, s8', fr_ix0, r0', tru_bl]
                simp [r0, neg]
              · have r0' : ¬ (restR q 0 need s).num = 0 := fun z => r0 (num_eq0.mp z)
                have rp : 0 < restR q 0 need s := by grind
                have hc := hH (restR q 0 need s / q 0) (dv_pos rp xp) rb1
                have hd := hB (restR q 0 need s) (q 0) (Rat.ne_of_gt xp) rb2d
                simp (disch := omega) only [↓w_var, ↓wVar_val, ↓wVar_own, ↓w_c, ↓w_nil, ↓w_cons, ↓w_app, ↓wViews_nil, ↓wViews_cons, ↓wView_d, ↓wView_fresh, ↓wView_plc, ↓wSlot_val, ↓wSlot_own, ↓wEsc_d, ↓wEsc_fresh, ↓wEsc_plc, ↓wEscS_val, ↓wEscS_own, ↓wEscs_nil, ↓wEscs_cons, ↓w_frz, ↓w_tup, ↓w_lst, ↓w_bool, ↓w_tru, ↓w_notT, ↓w_andT, ↓w_orT, ↓w_if, ↓w_and, ↓w_or, ↓w_not, ↓w_chain, ↓wB_bl, ↓w_noPart, ↓w_part, ↓w_slice, ↓w_call, ↓wPlc_cons, ↓wOwn_own, ↓w_callIo, ↓isLst_lst, ↓w_meth, ↓w_ext, ↓wExt_ok, ↓ws_next, ↓ws_bk, ↓ws_ct, ↓ws_rt, ↓ws_nx, ↓ws_seq, ↓ws_drop, ↓ws_ret, ↓ws_if, ↓ws_set, ↓wSet_d, ↓wSet_fresh, ↓wSet_plc, ↓ws_asg, ↓wt_name, ↓wt_nil, ↓wt_cons, ↓wt_tup, ↓wt_lst, ↓wPar_two, ↓ws_par, ↓wLstS_own, ↓wInt_int, ↓ws_item, ↓ws_for, ↓w_zip, ↓w_iter, ↓wItems_lst, ↓wItems_tup, ↓w_rng, ↓wRet_d, ↓wRet_fresh, ↓wRet_plc, ↓wRetS_val, ↓wRetS_own, ↓wRetS_ownS, ↓wI_some, ↓wI_none, ↓wI_ite, List.getElem?_cons_zero, List.getElem?_cons_succ, List.set_cons_zero, List.set_cons_succ, o_eqI, ef, decide_true, ↓reduceIte, o_gt, s8', fr_ix0, r0', decide_false, Bool.false_eq_true, tru_bl, sh1N, i0, hd, wF0_ok, hc, o_ge]
                simp [r0, neg]
            · have s8' : ¬ (8 : Int) < (s : Nat) := by omega
              have bi : RB (((2 : Int) ^ 2 ^ s : Int) : Rat) 300 1 := .int (by
                have h1 := nb_pow2 (2 ^ s)
                have h2 := Nat.pow_le_pow_right (show 0 < 2 by omega) (show s ≤ 8 by omega)
                omega)
              have e2 : decide (restR q 0 need s ≤ q 0 * (((2 : Int) ^ 2 ^ s : Int) : Rat)) = decide (restR q 0 need s = 0 ∨ clog (restR q 0 need s / q 0) ≤ 2 ^ s) := by
                apply decide_eq_decide.mpr
                rw [pow_pow_rat]
                by_cases r0 : restR q 0 need s = 0
                · have h1 := Rat.mul_nonneg (Rat.le_of_lt xp) (Rat.le_of_lt (zpow2_pos ((2 : Int) ^ s)))
                  simp only [r0, true_or, iff_true]
                  exact h1
                · have rp : 0 < restR q 0 need s := by grind
                  rw [mul_le_iff xp, clog_le (dv_pos rp xp)]
                  simp [r0]
              simp (disch := first | exact rb2 | exact rbw | omega) only [↓w_var, ↓wVar_val, ↓wVar_own, ↓w_c, ↓w_nil, ↓w_cons, ↓w_app, ↓wViews_nil, ↓wViews_cons, ↓wView_d, ↓wView_fresh, ↓wView_plc, ↓wSlot_val, ↓wSlot_own, ↓wEsc_d, ↓wEsc_fresh, ↓wEsc_plc, ↓wEscS_val, ↓wEscS_own, ↓wEscs_nil, ↓wEscs_cons, ↓w_frz, ↓w_tup, ↓w_lst, ↓w_bool, ↓w_tru, ↓w_notT, ↓w_andT, ↓w_orT, ↓w_if, ↓w_and, ↓w_or, ↓w_not, ↓w_chain, ↓wB_bl, ↓w_noPart, ↓w_part, ↓w_slice, ↓w_call, ↓wPlc_cons, ↓wOwn_own, ↓w_callIo, ↓isLst_lst, ↓w_meth, ↓w_ext, ↓wExt_ok, ↓ws_next, ↓ws_bk, ↓ws_ct, ↓ws_rt, ↓ws_nx, ↓ws_seq, ↓ws_drop, ↓ws_ret, ↓ws_if, ↓ws_set, ↓wSet_d, ↓wSet_fresh, ↓wSet_plc, ↓ws_asg, ↓wt_name, ↓wt_nil, ↓wt_cons, ↓wt_tup, ↓wt_lst, ↓wPar_two, ↓ws_par, ↓wLstS_own, ↓wInt_int, ↓ws_item, ↓ws_for, ↓w_zip, ↓w_iter, ↓wItems_lst, ↓wItems_tup, ↓w_rng, ↓wRet_d, ↓wRet_fresh, ↓wRet_plc, ↓wRetS_val, ↓wRetS_own, ↓wRetS_ownS, ↓wI_some, ↓wI_none, ↓wI_ite, List.getElem?_cons_zero, List.getElem?_cons_succ, List.set_cons_zero, List.set_cons_succ, o_eqI, ef, decide_true, ↓reduceIte, o_gt, s8', decide_false, Bool.false_eq_true, i0, sh1N, sh2, fr_int, hM, wF0_ok, hN, e2]
              rw [if_neg neg]
          · have f0' : ¬ ((f : Nat) : Int) = 0 := by omega
            have bi : RB (((if f < 3 then numAt f s else nb s - 1) : Int) : Rat) 200001 1 := .int (by
              split
              · exact numAt_nb s1
              · have n20 := nb_small (n := s) (k := 20) (by omega) (by omega)
                exact Nat.le_trans (nb_small (n := ((nb s : Int) - 1).natAbs) (k := 20) (by have := nb_pos s; omega) (by omega)) (by omega))
            have hown := own_at (k := f) (s := s) (by omega) f4 s3
            simp (disch := first | assumption | exact rb2 | exact rbw | omega) only [↓w_var, ↓wVar_val, ↓wVar_own, ↓w_c, ↓w_nil, ↓w_cons, ↓w_app, ↓wViews_nil, ↓wViews_cons, ↓wView_d, ↓wView_fresh, ↓wView_plc, ↓wSlot_val, ↓wSlot_own, ↓wEsc_d, ↓wEsc_fresh, ↓wEsc_plc, ↓wEscS_val, ↓wEscS_own, ↓wEscs_nil, ↓wEscs_cons, ↓w_frz, ↓w_tup, ↓w_lst, ↓w_bool, ↓w_tru, ↓w_notT, ↓w_andT, ↓w_orT, ↓w_if, ↓w_and, ↓w_or, ↓w_not, ↓w_chain, ↓wB_bl, ↓w_noPart, ↓w_part, ↓w_slice, ↓w_call, ↓wPlc_cons, ↓wOwn_own, ↓w_callIo, ↓isLst_lst, ↓w_meth, ↓w_ext, ↓wExt_ok, ↓ws_next, ↓ws_bk, ↓ws_ct, ↓ws_rt, ↓ws_nx, ↓ws_seq, ↓ws_drop, ↓ws_ret, ↓ws_if, ↓ws_set, ↓wSet_d, ↓wSet_fresh, ↓wSet_plc, ↓ws_asg, ↓wt_name, ↓wt_nil, ↓wt_cons, ↓wt_tup, ↓wt_lst, ↓wPar_two, ↓ws_par, ↓wLstS_own, ↓wInt_int, ↓ws_item, ↓ws_for, ↓w_zip, ↓w_iter, ↓wItems_lst, ↓wItems_tup, ↓w_rng, ↓wRet_d, ↓wRet_fresh, ↓wRet_plc, ↓wRetS_val, ↓wRetS_own, ↓wRetS_ownS, ↓wI_some, ↓wI_none, ↓wI_ite, List.getElem?_cons_zero, List.getElem?_cons_succ, List.set_cons_zero, List.set_cons_succ, o_eqI, f0', decide_false, Bool.false_eq_true, ↓reduceIte, sh1N, o_sub, o_bitsN, ix4, hown, four_ix, fr_int, hM, wF0_ok, hN]
            unfold mkUp
            rw [if_neg f0, if_neg neg]
end DL
set_option maxHeartbeats 4000000
/-! DL, part 34: draws of ups, of wide numbers, of four fractions. -/
namespace DL
open PySem PySem.Spec PyProof.Rows L2
noncomputable def upB (N : List D → FRes) : SDen :=
 sSeq (sSet 1 (dLst [dTup [dC (.int 0), dC (.int 1)], dTup [dC (.int 0), dC (.int 1)], dTup [dC (.int 0), dC (.int 1)], dTup [dC (.int 1), dC (.int 1)], dTup [dApp oNeg [dC (.int 1)], dC (.int 1)], dTup [dC (.int 1), dC (.int 2)], dTup [dC (.int 2), dC (.int 1)], dTup [dApp oNeg [dC (.int 3)], dC (.int 2)], dTup [dC (.int 1), dC (.int 3)], dTup [dC (.int 3), dC (.int 1)], dTup [dApp oNeg [dC (.int 2)], dC (.int 1)], dTup [dC (.int 5), dC (.int 4)]]))
 (sRet (dApp oIx [dVar 1, dCallIo N [dVar 0, dC (.int 12)]]))
/-- a fraction out of a menu -/
def UpS (c : List D → FRes) : Prop := ∀ (b : Nat) (f : D) (Q : RV → D → Prop) (E : Exn → D → Prop), Fd b f → b ≤ 100000000000 → (∀ x f', Fd (b + 1) f' → rb x ≤ 8 → Q (.d (fr x)) f') → wF1 (c [f]) Q E
theorem up_s {N : List D → FRes} (hN : NextS N) : UpS (runFn 2 1 true (upB N)) := by
  intro b f Q E hf hb h
  refine w_run1 rfl ?_
  show wS (upB _ [Sl.own f, .no]) _
  unfold upB
  simp only [↓w_var, ↓wVar_val, ↓wVar_own, ↓w_c, ↓w_nil, ↓w_cons, ↓w_app, ↓wViews_nil, ↓wViews_cons, ↓wView_d, ↓wView_fresh, ↓wView_plc, ↓wSlot_val, ↓wSlot_own, ↓wEsc_d, ↓wEsc_fresh, ↓wEsc_plc, ↓wEscS_val, ↓wEscS_own, ↓wEscs_nil, ↓wEscs_cons, ↓w_frz, ↓w_tup, ↓w_lst, ↓w_bool, ↓w_tru, ↓w_notT, ↓w_andT, ↓w_orT, ↓w_if, ↓w_and, ↓w_or, ↓w_not, ↓w_chain, ↓wB_bl, ↓w_noPart, ↓w_part, ↓w_slice, ↓w_call, ↓wPlc_cons, ↓wOwn_own, ↓w_callIo, ↓isLst_lst, ↓w_meth, ↓w_ext, ↓wExt_ok, ↓ws_next, ↓ws_bk, ↓ws_ct, ↓ws_rt, ↓ws_nx, ↓ws_seq, ↓ws_drop, ↓ws_ret, ↓ws_if, ↓ws_set, ↓wSet_d, ↓wSet_fresh, ↓wSet_plc, ↓ws_asg, ↓wt_name, ↓wt_nil, ↓wt_cons, ↓wt_tup, ↓wt_lst, ↓wPar_two, ↓ws_par, ↓wLstS_own, ↓wInt_int, ↓ws_item, ↓ws_for, ↓w_zip, ↓w_iter, ↓wItems_lst, ↓wItems_tup, ↓w_rng, ↓wRet_d, ↓wRet_fresh, ↓wRet_plc, ↓wRetS_val, ↓wRetS_own, ↓wRetS_ownS, ↓wI_some, ↓wI_none, ↓wI_ite, List.getElem?_cons_zero, List.getElem?_cons_succ, List.set_cons_zero, List.set_cons_succ, o_neg]
  refine hN _ _ _ _ _ hf (by omega) (by omega) (by omega) fun r f1 hf1 r0 r1 => ?_
  simp (disch := first | assumption | (simp <;> omega) | omega) only [↓w_var, ↓wVar_val, ↓wVar_own, ↓w_c, ↓w_nil, ↓w_cons, ↓w_app, ↓wViews_nil, ↓wViews_cons, ↓wView_d, ↓wView_fresh, ↓wView_plc, ↓wSlot_val, ↓wSlot_own, ↓wEsc_d, ↓wEsc_fresh, ↓wEsc_plc, ↓wEscS_val, ↓wEscS_own, ↓wEscs_nil, ↓wEscs_cons, ↓w_frz, ↓w_tup, ↓w_lst, ↓w_bool, ↓w_tru, ↓w_notT, ↓w_andT, ↓w_orT, ↓w_if, ↓w_and, ↓w_or, ↓w_not, ↓w_chain, ↓wB_bl, ↓w_noPart, ↓w_part, ↓w_slice, ↓w_call, ↓wPlc_cons, ↓wOwn_own, ↓w_callIo, ↓isLst_lst, ↓w_meth, ↓w_ext, ↓wExt_ok, ↓ws_next, ↓ws_bk, ↓ws_ct, ↓ws_rt, ↓ws_nx, ↓ws_seq, ↓ws_drop, ↓ws_ret, ↓ws_if, ↓ws_set, ↓wSet_d, ↓wSet_fresh, ↓wSet_plc, ↓ws_asg, ↓wt_name, ↓wt_nil, ↓wt_cons, ↓wt_tup, ↓wt_lst, ↓wPar_two, ↓ws_par, ↓wLstS_own, ↓wInt_int, ↓ws_item, ↓ws_for, ↓w_zip, ↓w_iter, ↓wItems_lst, ↓wItems_tup, ↓w_rng, ↓wRet_d, ↓wRet_fresh, ↓wRet_plc, ↓wRetS_val, ↓wRetS_own, ↓wRetS_ownS, ↓wI_some, ↓wI_none, ↓wI_ite, List.getElem?_cons_zero, List.getElem?_cons_succ, List.set_cons_zero, List.set_cons_succ, o_ixL]
  intro x hx
  obtain ⟨y, rfl, hy⟩ := frLits_ok (k := 8) (by kernel_rfl) hx
  try simp only [↓w_var, ↓wVar_val, ↓wVar_own, ↓w_c, ↓w_nil, ↓w_cons, ↓w_app, ↓wViews_nil, ↓wViews_cons, ↓wView_d, ↓wView_fresh, ↓wView_plc, ↓wSlot_val, ↓wSlot_own, ↓wEsc_d, ↓wEsc_fresh, ↓wEsc_plc, ↓wEscS_val, ↓wEscS_own, ↓wEscs_nil, ↓wEscs_cons, ↓w_frz, ↓w_tup, ↓w_lst, ↓w_bool, ↓w_tru, ↓w_notT, ↓w_andT, ↓w_orT, ↓w_if, ↓w_and, ↓w_or, ↓w_not, ↓w_chain, ↓wB_bl, ↓w_noPart, ↓w_part, ↓w_slice, ↓w_call, ↓wPlc_cons, ↓wOwn_own, ↓w_callIo, ↓isLst_lst, ↓w_meth, ↓w_ext, ↓wExt_ok, ↓ws_next, ↓ws_bk, ↓ws_ct, ↓ws_rt, ↓ws_nx, ↓ws_seq, ↓ws_drop, ↓ws_ret, ↓ws_if, ↓ws_set, ↓wSet_d, ↓wSet_fresh, ↓wSet_plc, ↓ws_asg, ↓wt_name, ↓wt_nil, ↓wt_cons, ↓wt_tup, ↓wt_lst, ↓wPar_two, ↓ws_par, ↓wLstS_own, ↓wInt_int, ↓ws_item, ↓ws_for, ↓w_zip, ↓w_iter, ↓wItems_lst, ↓wItems_tup, ↓w_rng, ↓wRet_d, ↓wRet_fresh, ↓wRet_plc, ↓wRetS_val, ↓wRetS_own, ↓wRetS_ownS, ↓wI_some, ↓wI_none, ↓wI_ite, List.getElem?_cons_zero, List.getElem?_cons_succ, List.set_cons_zero, List.set_cons_succ]
  exact h y f1 hf1 hy
noncomputable def wideB (N : List D → FRes) : SDen :=
 sSeq (sSet 2 (dC (.int 0)))
 (sSeq (sFor (dRng [dApp oAdd [dC (.int 1), dCallIo N [dVar 0, dVar 1]]]) (tName 3)
 (sSet 2 (dApp oAdd [dApp oMul [dVar 2, dApp oPow [dC (.int 10), dC (.int 6)]], dCallIo N [dVar 0, dApp oPow [dC (.int 10), dC (.int 6)]]])))
 (sRet (dVar 2)))
theorem pow6 {Q : RV → Prop} : wI (oPow [.int 10, .int 6]) Q = Q (.d (.int 1000000)) := id rfl
/-- a number of at most so many pieces of six figures -/
def WideS (c : List D → FRes) : Prop := ∀ (b : Nat) (f : D) (m : Nat) (Q : RV → D → Prop) (E : Exn → D → Prop), Fd b f → b ≤ 100000000000 → 1 ≤ m → m ≤ 100 → (∀ (r : Int) f', Fd (b + 200) f' → 0 ≤ r → nb r.natAbs ≤ 20 * m → Q (.d (.int r)) f') → wF1 (c [f, .int (m : Nat)]) Q E
theorem wide_step {r t : Int} {i : Nat} (h0 : 0 ≤ r) (h : r < 2 ^ (20 * i)) (t0 : 0 ≤ t) (t1 : t < 1000000) : 0 ≤ r * 1000000 + t ∧ r * 1000000 + t < 2 ^ (20 * (i + 1)) := by
  have e : (2 : Int) ^ (20 * (i + 1)) = 2 ^ (20 * i) * 1048576 := by
    rw [Nat.mul_add, Int.pow_add]
    rfl
  rw [e]
  omega
theorem wide_s {N : List D → FRes} (hN : NextS N) : WideS (runFn 4 2 true (wideB N)) := by
  intro b f m Q E hf hb m1 m2 h
  refine w_run1 rfl ?_
  show wS (wideB _ [Sl.own f, .val (.int (m : Nat)), .no, .no]) _
  unfold wideB
  simp only [↓w_var, ↓wVar_val, ↓wVar_own, ↓w_c, ↓w_nil, ↓w_cons, ↓w_app, ↓wViews_nil, ↓wViews_cons, ↓wView_d, ↓wView_fresh, ↓wView_plc, ↓wSlot_val, ↓wSlot_own, ↓wEsc_d, ↓wEsc_fresh, ↓wEsc_plc, ↓wEscS_val, ↓wEscS_own, ↓wEscs_nil, ↓wEscs_cons, ↓w_frz, ↓w_tup, ↓w_lst, ↓w_bool, ↓w_tru, ↓w_notT, ↓w_andT, ↓w_orT, ↓w_if, ↓w_and, ↓w_or, ↓w_not, ↓w_chain, ↓wB_bl, ↓w_noPart, ↓w_part, ↓w_slice, ↓w_call, ↓wPlc_cons, ↓wOwn_own, ↓w_callIo, ↓isLst_lst, ↓w_meth, ↓w_ext, ↓wExt_ok, ↓ws_next, ↓ws_bk, ↓ws_ct, ↓ws_rt, ↓ws_nx, ↓ws_seq, ↓ws_drop, ↓ws_ret, ↓ws_if, ↓ws_set, ↓wSet_d, ↓wSet_fresh, ↓wSet_plc, ↓ws_asg, ↓wt_name, ↓wt_nil, ↓wt_cons, ↓wt_tup, ↓wt_lst, ↓wPar_two, ↓ws_par, ↓wLstS_own, ↓wInt_int, ↓ws_item, ↓ws_for, ↓w_zip, ↓w_iter, ↓wItems_lst, ↓wItems_tup, ↓w_rng, ↓wRet_d, ↓wRet_fresh, ↓wRet_plc, ↓wRetS_val, ↓wRetS_own, ↓wRetS_ownS, ↓wI_some, ↓wI_none, ↓wI_ite, List.getElem?_cons_zero, List.getElem?_cons_succ, List.set_cons_zero, List.set_cons_succ]
  refine hN _ _ _ _ _ hf (by omega) (by omega) (by omega) fun r f1 hf1 r0 r1 => ?_
  simp (disch := omega) only [↓w_var, ↓wVar_val, ↓wVar_own, ↓w_c, ↓w_nil, ↓w_cons, ↓w_app, ↓wViews_nil, ↓wViews_cons, ↓wView_d, ↓wView_fresh, ↓wView_plc, ↓wSlot_val, ↓wSlot_own, ↓wEsc_d, ↓wEsc_fresh, ↓wEsc_plc, ↓wEscS_val, ↓wEscS_own, ↓wEscs_nil, ↓wEscs_cons, ↓w_frz, ↓w_tup, ↓w_lst, ↓w_bool, ↓w_tru, ↓w_notT, ↓w_andT, ↓w_orT, ↓w_if, ↓w_and, ↓w_or, ↓w_not, ↓w_chain, ↓wB_bl, ↓w_noPart, ↓w_part, ↓w_slice, ↓w_call, ↓wPlc_cons, ↓wOwn_own, ↓w_callIo, ↓isLst_lst, ↓w_meth, ↓w_ext, ↓wExt_ok, ↓ws_next, ↓ws_bk, ↓ws_ct, ↓ws_rt, ↓ws_nx, ↓ws_seq, ↓ws_drop, ↓ws_ret, ↓ws_if, ↓ws_set, ↓wSet_d, ↓wSet_fresh, ↓wSet_plc, ↓ws_asg, ↓wt_name, ↓wt_nil, ↓wt_cons, ↓wt_tup, ↓wt_lst, ↓wPar_two, ↓ws_par, ↓wLstS_own, ↓wInt_int, ↓ws_item, ↓ws_for, ↓w_zip, ↓w_iter, ↓wItems_lst, ↓wItems_tup, ↓w_rng, ↓wRet_d, ↓wRet_fresh, ↓wRet_plc, ↓wRetS_val, ↓wRetS_own, ↓wRetS_ownS, ↓wI_some, ↓wI_none, ↓wI_ite, List.getElem?_cons_zero, List.getElem?_cons_succ, List.set_cons_zero, List.set_cons_succ, o_add, intsR1, rngD1]
  refine for_inv (fun ds ρ => ds.length ≤ m ∧ ∃ (x : Int) (f : D) (z : Sl), Fd (b + 1 + (m - ds.length)) f ∧ 0 ≤ x ∧ x < 2 ^ (20 * (m - ds.length)) ∧ ρ = [Sl.own f, .val (.int (m : Nat)), .val (.int x), z]) ⟨by simp [rangeD]; omega, 0, f1, .no, hf1.mono (by omega), by omega, Int.pow_pos (by omega), rfl⟩ ?_ ?_
  · rintro d ds ρ ⟨hl, x, f, z, hf, x0, x1, rfl⟩
    rw [List.length_cons] at hl hf x1
    have nx : nb x.natAbs ≤ 2001 := Nat.le_trans (nb_of (i := x) (k := 20 * (m - (ds.length + 1)) + 1) (by omega) (by
      have : (0 : Int) < 2 ^ (20 * (m - (ds.length + 1)) + 1) := Int.pow_pos (by omega)
      omega) (by
      rw [Int.pow_succ]
      omega)) (by omega)
    have n6 : nb (1000000 : Int).natAbs ≤ 20 := by decide
    simp (disch := omega) only [↓w_var, ↓wVar_val, ↓wVar_own, ↓w_c, ↓w_nil, ↓w_cons, ↓w_app, ↓wViews_nil, ↓wViews_cons, ↓wView_d, ↓wView_fresh, ↓wView_plc, ↓wSlot_val, ↓wSlot_own, ↓wEsc_d, ↓wEsc_fresh, ↓wEsc_plc, ↓wEscS_val, ↓wEscS_own, ↓wEscs_nil, ↓wEscs_cons, ↓w_frz, ↓w_tup, ↓w_lst, ↓w_bool, ↓w_tru, ↓w_notT, ↓w_andT, ↓w_orT, ↓w_if, ↓w_and, ↓w_or, ↓w_not, ↓w_chain, ↓wB_bl, ↓w_noPart, ↓w_part, ↓w_slice, ↓w_call, ↓wPlc_cons, ↓wOwn_own, ↓w_callIo, ↓isLst_lst, ↓w_meth, ↓w_ext, ↓wExt_ok, ↓ws_next, ↓ws_bk, ↓ws_ct, ↓ws_rt, ↓ws_nx, ↓ws_seq, ↓ws_drop, ↓ws_ret, ↓ws_if, ↓ws_set, ↓wSet_d, ↓wSet_fresh, ↓wSet_plc, ↓ws_asg, ↓wt_name, ↓wt_nil, ↓wt_cons, ↓wt_tup, ↓wt_lst, ↓wPar_two, ↓ws_par, ↓wLstS_own, ↓wInt_int, ↓ws_item, ↓ws_for, ↓w_zip, ↓w_iter, ↓wItems_lst, ↓wItems_tup, ↓w_rng, ↓wRet_d, ↓wRet_fresh, ↓wRet_plc, ↓wRetS_val, ↓wRetS_own, ↓wRetS_ownS, ↓wI_some, ↓wI_none, ↓wI_ite, List.getElem?_cons_zero, List.getElem?_cons_succ, List.set_cons_zero, List.set_cons_succ, pow6, o_mulN]
    refine hN _ _ _ _ _ hf (by omega) (by omega) (by omega) fun t f2 hf2 t0 t1 => ?_
    have ws := wide_step x0 x1 t0 t1
    simp only [↓w_var, ↓wVar_val, ↓wVar_own, ↓w_c, ↓w_nil, ↓w_cons, ↓w_app, ↓wViews_nil, ↓wViews_cons, ↓wView_d, ↓wView_fresh, ↓wView_plc, ↓wSlot_val, ↓wSlot_own, ↓wEsc_d, ↓wEsc_fresh, ↓wEsc_plc, ↓wEscS_val, ↓wEscS_own, ↓wEscs_nil, ↓wEscs_cons, ↓w_frz, ↓w_tup, ↓w_lst, ↓w_bool, ↓w_tru, ↓w_notT, ↓w_andT, ↓w_orT, ↓w_if, ↓w_and, ↓w_or, ↓w_not, ↓w_chain, ↓wB_bl, ↓w_noPart, ↓w_part, ↓w_slice, ↓w_call, ↓wPlc_cons, ↓wOwn_own, ↓w_callIo, ↓isLst_lst, ↓w_meth, ↓w_ext, ↓wExt_ok, ↓ws_next, ↓ws_bk, ↓ws_ct, ↓ws_rt, ↓ws_nx, ↓ws_seq, ↓ws_drop, ↓ws_ret, ↓ws_if, ↓ws_set, ↓wSet_d, ↓wSet_fresh, ↓wSet_plc, ↓ws_asg, ↓wt_name, ↓wt_nil, ↓wt_cons, ↓wt_tup, ↓wt_lst, ↓wPar_two, ↓ws_par, ↓wLstS_own, ↓wInt_int, ↓ws_item, ↓ws_for, ↓w_zip, ↓w_iter, ↓wItems_lst, ↓wItems_tup, ↓w_rng, ↓wRet_d, ↓wRet_fresh, ↓wRet_plc, ↓wRetS_val, ↓wRetS_own, ↓wRetS_ownS, ↓wI_some, ↓wI_none, ↓wI_ite, List.getElem?_cons_zero, List.getElem?_cons_succ, List.set_cons_zero, List.set_cons_succ, o_add]
    refine ⟨by omega, _, f2, _, hf2.mono (by omega), ws.1, ?_, rfl⟩
    rw [show m - ds.length = m - (ds.length + 1) + 1 by omega]
    exact ws.2
  · rintro ρ ⟨hl, x, f, z, hf, x0, x1, rfl⟩
    simp only [↓w_var, ↓wVar_val, ↓wVar_own, ↓w_c, ↓w_nil, ↓w_cons, ↓w_app, ↓wViews_nil, ↓wViews_cons, ↓wView_d, ↓wView_fresh, ↓wView_plc, ↓wSlot_val, ↓wSlot_own, ↓wEsc_d, ↓wEsc_fresh, ↓wEsc_plc, ↓wEscS_val, ↓wEscS_own, ↓wEscs_nil, ↓wEscs_cons, ↓w_frz, ↓w_tup, ↓w_lst, ↓w_bool, ↓w_tru, ↓w_notT, ↓w_andT, ↓w_orT, ↓w_if, ↓w_and, ↓w_or, ↓w_not, ↓w_chain, ↓wB_bl, ↓w_noPart, ↓w_part, ↓w_slice, ↓w_call, ↓wPlc_cons, ↓wOwn_own, ↓w_callIo, ↓isLst_lst, ↓w_meth, ↓w_ext, ↓wExt_ok, ↓ws_next, ↓ws_bk, ↓ws_ct, ↓ws_rt, ↓ws_nx, ↓ws_seq, ↓ws_drop, ↓ws_ret, ↓ws_if, ↓ws_set, ↓wSet_d, ↓wSet_fresh, ↓wSet_plc, ↓ws_asg, ↓wt_name, ↓wt_nil, ↓wt_cons, ↓wt_tup, ↓wt_lst, ↓wPar_two, ↓ws_par, ↓wLstS_own, ↓wInt_int, ↓ws_item, ↓ws_for, ↓w_zip, ↓w_iter, ↓wItems_lst, ↓wItems_tup, ↓w_rng, ↓wRet_d, ↓wRet_fresh, ↓wRet_plc, ↓wRetS_val, ↓wRetS_own, ↓wRetS_ownS, ↓wI_some, ↓wI_none, ↓wI_ite, List.getElem?_cons_zero, List.getElem?_cons_succ, List.set_cons_zero, List.set_cons_succ]
    refine h x f (hf.mono (by omega)) x0 (nb_of (by omega) ?_ x1)
    have : (0 : Int) < 2 ^ (20 * m) := Int.pow_pos (by omega)
    omega
noncomputable def fourB (U N P W : List D → FRes) : SDen :=
 sSeq (sSet 1 (dLst []))
 (sSeq (sFor (dRng [dC (.int 4)]) (tName 2)
 (sSeq (sSet 3 (dCallIo U [dVar 0]))
 (sSeq (sIf (dBool (dApp oEq [dCallIo N [dVar 0, dC (.int 6)], dC (.int 0)]))
 (sSet 3 (dCall P [dApp oMul [dApp oIx [dLst [dC (.int 1), dApp oNeg [dC (.int 1)]], dCallIo N [dVar 0, dC (.int 2)]], dCallIo W [dVar 0, dC (.int 6)]], dApp oAdd [dC (.int 1), dCallIo W [dVar 0, dC (.int 6)]]]))
 (sNext))
 (sSeq (sIf (dAndT (dBool (dApp oLtI [dVar 2, dC (.int 3)])) (dBool (dApp oEq [dCallIo N [dVar 0, dC (.int 3)], dC (.int 0)])))
 (sSet 3 (dTup [dC (.int 0), dC (.int 1)]))
 (sNext))
 (sDrop (dMeth 1 mAppend [dVar 3]))))))
 (sRet (dApp oTuple [dVar 1])))
def FourS (c : List D → FRes) : Prop := ∀ (b : Nat) (f : D) (Q : RV → D → Prop) (E : Exn → D → Prop), Fd b f → b ≤ 10000000000 → (∀ (q : Nat → Rat) f', Fd (b + 5000) f' → Sm q → Q (.d (fourD q)) f') → wF1 (c [f]) Q E
theorem tup_of {l : List D} {Q : RV → Prop} : wI (oTuple [.lst l]) Q = Q (.d (.tup l)) := id rfl
theorem four_of {l : List D} (hl : l.length = 4) (h : ∀ d ∈ l, ∃ x, d = fr x ∧ rb x ≤ 200) : ∃ q, D.tup l = fourD q ∧ Sm q := by
  match l, hl with
  | [a, b, c, d], _ =>
    obtain ⟨x0, rfl, h0⟩ := h a (by simp)
    obtain ⟨x1, rfl, h1⟩ := h b (by simp)
    obtain ⟨x2, rfl, h2⟩ := h c (by simp)
    obtain ⟨x3, rfl, h3⟩ := h d (by simp)
    refine ⟨fun k => match k with | 0 => x0 | 1 => x1 | 2 => x2 | _ => x3, rfl, ⟨fun k hk => ?_⟩⟩
    match k, hk with
    | 0, _ => exact .of h0
    | 1, _ => exact .of h1
    | 2, _ => exact .of h2
    | 3, _ => exact .of h3
theorem four_s {U N P W : List D → FRes} (hU : UpS U) (hN : NextS N) (hP : FractionE P) (hW : WideS W) : FourS (runFn 4 1 true (fourB U N P W)) := by
  intro b f Q E hf hb h
  refine w_run1 rfl ?_
  show wS (fourB _ _ _ _ [Sl.own f, .no, .no, .no]) _
  unfold fourB
  simp only [↓w_var, ↓wVar_val, ↓wVar_own, ↓w_c, ↓w_nil, ↓w_cons, ↓w_app, ↓wViews_nil, ↓wViews_cons, ↓wView_d, ↓wView_fresh, ↓wView_plc, ↓wSlot_val, ↓wSlot_own, ↓wEsc_d, ↓wEsc_fresh, ↓wEsc_plc, ↓wEscS_val, ↓wEscS_own, ↓wEscs_nil, ↓wEscs_cons, ↓w_frz, ↓w_tup, ↓w_lst, ↓w_bool, ↓w_tru, ↓w_notT, ↓w_andT, ↓w_orT, ↓w_if, ↓w_and, ↓w_or, ↓w_not, ↓w_chain, ↓wB_bl, ↓w_noPart, ↓w_part, ↓w_slice, ↓w_call, ↓wPlc_cons, ↓wOwn_own, ↓w_callIo, ↓isLst_lst, ↓w_meth, ↓w_ext, ↓wExt_ok, ↓ws_next, ↓ws_bk, ↓ws_ct, ↓ws_rt, ↓ws_nx, ↓ws_seq, ↓ws_drop, ↓ws_ret, ↓ws_if, ↓ws_set, ↓wSet_d, ↓wSet_fresh, ↓wSet_plc, ↓ws_asg, ↓wt_name, ↓wt_nil, ↓wt_cons, ↓wt_tup, ↓wt_lst, ↓wPar_two, ↓ws_par, ↓wLstS_own, ↓wInt_int, ↓ws_item, ↓ws_for, ↓w_zip, ↓w_iter, ↓wItems_lst, ↓wItems_tup, ↓w_rng, ↓wRet_d, ↓wRet_fresh, ↓wRet_plc, ↓wRetS_val, ↓wRetS_own, ↓wRetS_ownS, ↓wI_some, ↓wI_none, ↓wI_ite, List.getElem?_cons_zero, List.getElem?_cons_succ, List.set_cons_zero, List.set_cons_succ, intsR1, rng4]
  refine for_inv (fun ds ρ => ds.length ≤ 4 ∧ ∃ (l : List D) (f : D) (z w : Sl), Fd (b + 1000 * (4 - ds.length)) f ∧ l.length = 4 - ds.length ∧ (∀ d ∈ l, ∃ x, d = fr x ∧ rb x ≤ 200) ∧ (∀ d ∈ ds, ∃ k : Nat, d = .int (k : Nat)) ∧ ρ = [Sl.own f, .own (.lst l), z, w])
    ⟨by decide, [], f, .no, .no, hf.mono (by omega), rfl, by simp, fun d hd => by obtain ⟨k, _, rfl⟩ := mem_rng4 hd; exact ⟨k, rfl⟩, rfl⟩ ?_ ?_
  · rintro d ds ρ ⟨hn, l, f, z, w, hf, hl, hP1, hds, rfl⟩
    rw [List.length_cons] at hn hf hl
    obtain ⟨k, rfl⟩ := hds d List.mem_cons_self
    simp only [↓wt_name, List.set_cons_succ, List.set_cons_zero]
    refine ws_cut (fun ρ => ∃ x f2, Fd (b + 1000 * (4 - (ds.length + 1)) + 1) f2 ∧ rb x ≤ 200 ∧ ρ = [Sl.own f2, .own (.lst l), .val (.int (k : Nat)), .val (fr x)]) ?_ ?_
    · simp only [↓w_var, ↓wVar_val, ↓wVar_own, ↓w_c, ↓w_nil, ↓w_cons, ↓w_app, ↓wViews_nil, ↓wViews_cons, ↓wView_d, ↓wView_fresh, ↓wView_plc, ↓wSlot_val, ↓wSlot_own, ↓wEsc_d, ↓wEsc_fresh, ↓wEsc_plc, ↓wEscS_val, ↓wEscS_own, ↓wEscs_nil, ↓wEscs_cons, ↓w_frz, ↓w_tup, ↓w_lst, ↓w_bool, ↓w_tru, ↓w_notT, ↓w_andT, ↓w_orT, ↓w_if, ↓w_and, ↓w_or, ↓w_not, ↓w_chain, ↓wB_bl, ↓w_noPart, ↓w_part, ↓w_slice, ↓w_call, ↓wPlc_cons, ↓wOwn_own, ↓w_callIo, ↓isLst_lst, ↓w_meth, ↓w_ext, ↓wExt_ok, ↓ws_next, ↓ws_bk, ↓ws_ct, ↓ws_rt, ↓ws_nx, ↓ws_seq, ↓ws_drop, ↓ws_ret, ↓ws_if, ↓ws_set, ↓wSet_d, ↓wSet_fresh, ↓wSet_plc, ↓ws_asg, ↓wt_name, ↓wt_nil, ↓wt_cons, ↓wt_tup, ↓wt_lst, ↓wPar_two, ↓ws_par, ↓wLstS_own, ↓wInt_int, ↓ws_item, ↓ws_for, ↓w_zip, ↓w_iter, ↓wItems_lst, ↓wItems_tup, ↓w_rng, ↓wRet_d, ↓wRet_fresh, ↓wRet_plc, ↓wRetS_val, ↓wRetS_own, ↓wRetS_ownS, ↓wI_some, ↓wI_none, ↓wI_ite, List.getElem?_cons_zero, List.getElem?_cons_succ, List.set_cons_zero, List.set_cons_succ]
      refine hU _ _ _ _ hf (by omega) fun x f2 hf2 hx => ?_
      simp only [↓w_var, ↓wVar_val, ↓wVar_own, ↓w_c, ↓w_nil, ↓w_cons, ↓w_app, ↓wViews_nil, ↓wViews_cons, ↓wView_d, ↓wView_fresh, ↓wView_plc, ↓wSlot_val, ↓wSlot_own, ↓wEsc_d, ↓wEsc_fresh, ↓wEsc_plc, ↓wEscS_val, ↓wEscS_own, ↓wEscs_nil, ↓wEscs_cons, ↓w_frz, ↓w_tup, ↓w_lst, ↓w_bool, ↓w_tru, ↓w_notT, ↓w_andT, ↓w_orT, ↓w_if, ↓w_and, ↓w_or, ↓w_not, ↓w_chain, ↓wB_bl, ↓w_noPart, ↓w_part, ↓w_slice, ↓w_call, ↓wPlc_cons, ↓wOwn_own, ↓w_callIo, ↓isLst_lst, ↓w_meth, ↓w_ext, ↓wExt_ok, ↓ws_next, ↓ws_bk, ↓ws_ct, ↓ws_rt, ↓ws_nx, ↓ws_seq, ↓ws_drop, ↓ws_ret, ↓ws_if, ↓ws_set, ↓wSet_d, ↓wSet_fresh, ↓wSet_plc, ↓ws_asg, ↓wt_name, ↓wt_nil, ↓wt_cons, ↓wt_tup, ↓wt_lst, ↓wPar_two, ↓ws_par, ↓wLstS_own, ↓wInt_int, ↓ws_item, ↓ws_for, ↓w_zip, ↓w_iter, ↓wItems_lst, ↓wItems_tup, ↓w_rng, ↓wRet_d, ↓wRet_fresh, ↓wRet_plc, ↓wRetS_val, ↓wRetS_own, ↓wRetS_ownS, ↓wI_some, ↓wI_none, ↓wI_ite, List.getElem?_cons_zero, List.getElem?_cons_succ, List.set_cons_zero, List.set_cons_succ]
      exact ⟨x, f2, hf2, by omega, rfl⟩
    rintro _ ⟨x, f2, hf2, hx, rfl⟩
    refine ws_cut (fun ρ => ∃ x f2, Fd (b + 1000 * (4 - (ds.length + 1)) + 500) f2 ∧ rb x ≤ 200 ∧ ρ = [Sl.own f2, .own (.lst l), .val (.int (k : Nat)), .val (fr x)]) ?_ ?_
    · simp only [↓w_var, ↓wVar_val, ↓wVar_own, ↓w_c, ↓w_nil, ↓w_cons, ↓w_app, ↓wViews_nil, ↓wViews_cons, ↓wView_d, ↓wView_fresh, ↓wView_plc, ↓wSlot_val, ↓wSlot_own, ↓wEsc_d, ↓wEsc_fresh, ↓wEsc_plc, ↓wEscS_val, ↓wEscS_own, ↓wEscs_nil, ↓wEscs_cons, ↓w_frz, ↓w_tup, ↓w_lst, ↓w_bool, ↓w_tru, ↓w_notT, ↓w_andT, ↓w_orT, ↓w_if, ↓w_and, ↓w_or, ↓w_not, ↓w_chain, ↓wB_bl, ↓w_noPart, ↓w_part, ↓w_slice, ↓w_call, ↓wPlc_cons, ↓wOwn_own, ↓w_callIo, ↓isLst_lst, ↓w_meth, ↓w_ext, ↓wExt_ok, ↓ws_next, ↓ws_bk, ↓ws_ct, ↓ws_rt, ↓ws_nx, ↓ws_seq, ↓ws_drop, ↓ws_ret, ↓ws_if, ↓ws_set, ↓wSet_d, ↓wSet_fresh, ↓wSet_plc, ↓ws_asg, ↓wt_name, ↓wt_nil, ↓wt_cons, ↓wt_tup, ↓wt_lst, ↓wPar_two, ↓ws_par, ↓wLstS_own, ↓wInt_int, ↓ws_item, ↓ws_for, ↓w_zip, ↓w_iter, ↓wItems_lst, ↓wItems_tup, ↓w_rng, ↓wRet_d, ↓wRet_fresh, ↓wRet_plc, ↓wRetS_val, ↓wRetS_own, ↓wRetS_ownS, ↓wI_some, ↓wI_none, ↓wI_ite, List.getElem?_cons_zero, List.getElem?_cons_succ, List.set_cons_zero, List.set_cons_succ]
      refine hN _ _ _ _ _ hf2 (by omega) (by omega) (by omega) fun r f3 hf3 r0 r1 => ?_
      simp only [↓w_var, ↓wVar_val, ↓wVar_own, ↓w_c, ↓w_nil, ↓w_cons, ↓w_app, ↓wViews_nil, ↓wViews_cons, ↓wView_d, ↓wView_fresh, ↓wView_plc, ↓wSlot_val, ↓wSlot_own, ↓wEsc_d, ↓wEsc_fresh, ↓wEsc_plc, ↓wEscS_val, ↓wEscS_own, ↓wEscs_nil, ↓wEscs_cons, ↓w_frz, ↓w_tup, ↓w_lst, ↓w_bool, ↓w_tru, ↓w_notT, ↓w_andT, ↓w_orT, ↓w_if, ↓w_and, ↓w_or, ↓w_not, ↓w_chain, ↓wB_bl, ↓w_noPart, ↓w_part, ↓w_slice, ↓w_call, ↓wPlc_cons, ↓wOwn_own, ↓w_callIo, ↓isLst_lst, ↓w_meth, ↓w_ext, ↓wExt_ok, ↓ws_next, ↓ws_bk, ↓ws_ct, ↓ws_rt, ↓ws_nx, ↓ws_seq, ↓ws_drop, ↓ws_ret, ↓ws_if, ↓ws_set, ↓wSet_d, ↓wSet_fresh, ↓wSet_plc, ↓ws_asg, ↓wt_name, ↓wt_nil, ↓wt_cons, ↓wt_tup, ↓wt_lst, ↓wPar_two, ↓ws_par, ↓wLstS_own, ↓wInt_int, ↓ws_item, ↓ws_for, ↓w_zip, ↓w_iter, ↓wItems_lst, ↓wItems_tup, ↓w_rng, ↓wRet_d, ↓wRet_fresh, ↓wRet_plc, ↓wRetS_val, ↓wRetS_own, ↓wRetS_ownS, ↓wI_some, ↓wI_none, ↓wI_ite, List.getElem?_cons_zero, List.getElem?_cons_succ, List.set_cons_zero, List.set_cons_succ, o_eqI, decide_eq_true_eq]
      split
      · simp only [↓w_var, ↓wVar_val, ↓wVar_own, ↓w_c, ↓w_nil, ↓w_cons, ↓w_app, ↓wViews_nil, ↓wViews_cons, ↓wView_d, ↓wView_fresh, ↓wView_plc, ↓wSlot_val, ↓wSlot_own, ↓wEsc_d, ↓wEsc_fresh, ↓wEsc_plc, ↓wEscS_val, ↓wEscS_own, ↓wEscs_nil, ↓wEscs_cons, ↓w_frz, ↓w_tup, ↓w_lst, ↓w_bool, ↓w_tru, ↓w_notT, ↓w_andT, ↓w_orT, ↓w_if, ↓w_and, ↓w_or, ↓w_not, ↓w_chain, ↓wB_bl, ↓w_noPart, ↓w_part, ↓w_slice, ↓w_call, ↓wPlc_cons, ↓wOwn_own, ↓w_callIo, ↓isLst_lst, ↓w_meth, ↓w_ext, ↓wExt_ok, ↓ws_next, ↓ws_bk, ↓ws_ct, ↓ws_rt, ↓ws_nx, ↓ws_seq, ↓ws_drop, ↓ws_ret, ↓ws_if, ↓ws_set, ↓wSet_d, ↓wSet_fresh, ↓wSet_plc, ↓ws_asg, ↓wt_name, ↓wt_nil, ↓wt_cons, ↓wt_tup, ↓wt_lst, ↓wPar_two, ↓ws_par, ↓wLstS_own, ↓wInt_int, ↓ws_item, ↓ws_for, ↓w_zip, ↓w_iter, ↓wItems_lst, ↓wItems_tup, ↓w_rng, ↓wRet_d, ↓wRet_fresh, ↓wRet_plc, ↓wRetS_val, ↓wRetS_own, ↓wRetS_ownS, ↓wI_some, ↓wI_none, ↓wI_ite, List.getElem?_cons_zero, List.getElem?_cons_succ, List.set_cons_zero, List.set_cons_succ, o_neg]
        refine hN _ _ _ _ _ hf3 (by omega) (by omega) (by omega) fun t f4 hf4 t0 t1 => ?_
        simp (disch := first | assumption | (simp <;> omega) | omega) only [↓w_var, ↓wVar_val, ↓wVar_own, ↓w_c, ↓w_nil, ↓w_cons, ↓w_app, ↓wViews_nil, ↓wViews_cons, ↓wView_d, ↓wView_fresh, ↓wView_plc, ↓wSlot_val, ↓wSlot_own, ↓wEsc_d, ↓wEsc_fresh, ↓wEsc_plc, ↓wEscS_val, ↓wEscS_own, ↓wEscs_nil, ↓wEscs_cons, ↓w_frz, ↓w_tup, ↓w_lst, ↓w_bool, ↓w_tru, ↓w_notT, ↓w_andT, ↓w_orT, ↓w_if, ↓w_and, ↓w_or, ↓w_not, ↓w_chain, ↓wB_bl, ↓w_noPart, ↓w_part, ↓w_slice, ↓w_call, ↓wPlc_cons, ↓wOwn_own, ↓w_callIo, ↓isLst_lst, ↓w_meth, ↓w_ext, ↓wExt_ok, ↓ws_next, ↓ws_bk, ↓ws_ct, ↓ws_rt, ↓ws_nx, ↓ws_seq, ↓ws_drop, ↓ws_ret, ↓ws_if, ↓ws_set, ↓wSet_d, ↓wSet_fresh, ↓wSet_plc, ↓ws_asg, ↓wt_name, ↓wt_nil, ↓wt_cons, ↓wt_tup, ↓wt_lst, ↓wPar_two, ↓ws_par, ↓wLstS_own, ↓wInt_int, ↓ws_item, ↓ws_for, ↓w_zip, ↓w_iter, ↓wItems_lst, ↓wItems_tup, ↓w_rng, ↓wRet_d, ↓wRet_fresh, ↓wRet_plc, ↓wRetS_val, ↓wRetS_own, ↓wRetS_ownS, ↓wI_some, ↓wI_none, ↓wI_ite, List.getElem?_cons_zero, List.getElem?_cons_succ, List.set_cons_zero, List.set_cons_succ, o_ixL]
        intro y hy
        have hy2 : ∃ i : Int, y = .int i ∧ nb i.natAbs ≤ 1 := by
          have := List.mem_of_getElem? hy
          simp only [List.mem_cons, List.not_mem_nil, or_false] at this
          rcases this with rfl | rfl
          · exact ⟨_, rfl, by decide⟩
          · exact ⟨_, rfl, by decide⟩
        obtain ⟨i, rfl, hi⟩ := hy2
        try simp only [↓w_var, ↓wVar_val, ↓wVar_own, ↓w_c, ↓w_nil, ↓w_cons, ↓w_app, ↓wViews_nil, ↓wViews_cons, ↓wView_d, ↓wView_fresh, ↓wView_plc, ↓wSlot_val, ↓wSlot_own, ↓wEsc_d, ↓wEsc_fresh, ↓wEsc_plc, ↓wEscS_val, ↓wEscS_own, ↓wEscs_nil, ↓wEscs_cons, ↓w_frz, ↓w_tup, ↓w_lst, ↓w_bool, ↓w_tru, ↓w_notT, ↓w_andT, ↓w_orT, ↓w_if, ↓w_and, ↓w_or, ↓w_not, ↓w_chain, ↓wB_bl, ↓w_noPart, ↓w_part, ↓w_slice, ↓w_call, ↓wPlc_cons, ↓wOwn_own, ↓w_callIo, ↓isLst_lst, ↓w_meth, ↓w_ext, ↓wExt_ok, ↓ws_next, ↓ws_bk, ↓ws_ct, ↓ws_rt, ↓ws_nx, ↓ws_seq, ↓ws_drop, ↓ws_ret, ↓ws_if, ↓ws_set, ↓wSet_d, ↓wSet_fresh, ↓wSet_plc, ↓ws_asg, ↓wt_name, ↓wt_nil, ↓wt_cons, ↓wt_tup, ↓wt_lst, ↓wPar_two, ↓ws_par, ↓wLstS_own, ↓wInt_int, ↓ws_item, ↓ws_for, ↓w_zip, ↓w_iter, ↓wItems_lst, ↓wItems_tup, ↓w_rng, ↓wRet_d, ↓wRet_fresh, ↓wRet_plc, ↓wRetS_val, ↓wRetS_own, ↓wRetS_ownS, ↓wI_some, ↓wI_none, ↓wI_ite, List.getElem?_cons_zero, List.getElem?_cons_succ, List.set_cons_zero, List.set_cons_succ]
        refine hW _ _ 6 _ _ hf4 (by omega) (by omega) (by omega) fun p f5 hf5 p0 hp => ?_
        simp (disch := omega) only [↓w_var, ↓wVar_val, ↓wVar_own, ↓w_c, ↓w_nil, ↓w_cons, ↓w_app, ↓wViews_nil, ↓wViews_cons, ↓wView_d, ↓wView_fresh, ↓wView_plc, ↓wSlot_val, ↓wSlot_own, ↓wEsc_d, ↓wEsc_fresh, ↓wEsc_plc, ↓wEscS_val, ↓wEscS_own, ↓wEscs_nil, ↓wEscs_cons, ↓w_frz, ↓w_tup, ↓w_lst, ↓w_bool, ↓w_tru, ↓w_notT, ↓w_andT, ↓w_orT, ↓w_if, ↓w_and, ↓w_or, ↓w_not, ↓w_chain, ↓wB_bl, ↓w_noPart, ↓w_part, ↓w_slice, ↓w_call, ↓wPlc_cons, ↓wOwn_own, ↓w_callIo, ↓isLst_lst, ↓w_meth, ↓w_ext, ↓wExt_ok, ↓ws_next, ↓ws_bk, ↓ws_ct, ↓ws_rt, ↓ws_nx, ↓ws_seq, ↓ws_drop, ↓ws_ret, ↓ws_if, ↓ws_set, ↓wSet_d, ↓wSet_fresh, ↓wSet_plc, ↓ws_asg, ↓wt_name, ↓wt_nil, ↓wt_cons, ↓wt_tup, ↓wt_lst, ↓wPar_two, ↓ws_par, ↓wLstS_own, ↓wInt_int, ↓ws_item, ↓ws_for, ↓w_zip, ↓w_iter, ↓wItems_lst, ↓wItems_tup, ↓w_rng, ↓wRet_d, ↓wRet_fresh, ↓wRet_plc, ↓wRetS_val, ↓wRetS_own, ↓wRetS_ownS, ↓wI_some, ↓wI_none, ↓wI_ite, List.getElem?_cons_zero, List.getElem?_cons_succ, List.set_cons_zero, List.set_cons_succ, o_mulN]
        refine hW _ _ 6 _ _ hf5 (by omega) (by omega) (by omega) fun q f6 hf6 q0 hq => ?_
        have b1 := nb_imul i p
        have b2 := nb_iadd 1 q
        have n1 : nb (1 : Int).natAbs = 1 := by decide
        simp only [↓w_var, ↓wVar_val, ↓wVar_own, ↓w_c, ↓w_nil, ↓w_cons, ↓w_app, ↓wViews_nil, ↓wViews_cons, ↓wView_d, ↓wView_fresh, ↓wView_plc, ↓wSlot_val, ↓wSlot_own, ↓wEsc_d, ↓wEsc_fresh, ↓wEsc_plc, ↓wEscS_val, ↓wEscS_own, ↓wEscs_nil, ↓wEscs_cons, ↓w_frz, ↓w_tup, ↓w_lst, ↓w_bool, ↓w_tru, ↓w_notT, ↓w_andT, ↓w_orT, ↓w_if, ↓w_and, ↓w_or, ↓w_not, ↓w_chain, ↓wB_bl, ↓w_noPart, ↓w_part, ↓w_slice, ↓w_call, ↓wPlc_cons, ↓wOwn_own, ↓w_callIo, ↓isLst_lst, ↓w_meth, ↓w_ext, ↓wExt_ok, ↓ws_next, ↓ws_bk, ↓ws_ct, ↓ws_rt, ↓ws_nx, ↓ws_seq, ↓ws_drop, ↓ws_ret, ↓ws_if, ↓ws_set, ↓wSet_d, ↓wSet_fresh, ↓wSet_plc, ↓ws_asg, ↓wt_name, ↓wt_nil, ↓wt_cons, ↓wt_tup, ↓wt_lst, ↓wPar_two, ↓ws_par, ↓wLstS_own, ↓wInt_int, ↓ws_item, ↓ws_for, ↓w_zip, ↓w_iter, ↓wItems_lst, ↓wItems_tup, ↓w_rng, ↓wRet_d, ↓wRet_fresh, ↓wRet_plc, ↓wRetS_val, ↓wRetS_own, ↓wRetS_ownS, ↓wI_some, ↓wI_none, ↓wI_ite, List.getElem?_cons_zero, List.getElem?_cons_succ, List.set_cons_zero, List.set_cons_succ, o_add]
        rw [hP _ _ (by omega) (by omega)]
        simp only [wF0_ok, ↓w_var, ↓wVar_val, ↓wVar_own, ↓w_c, ↓w_nil, ↓w_cons, ↓w_app, ↓wViews_nil, ↓wViews_cons, ↓wView_d, ↓wView_fresh, ↓wView_plc, ↓wSlot_val, ↓wSlot_own, ↓wEsc_d, ↓wEsc_fresh, ↓wEsc_plc, ↓wEscS_val, ↓wEscS_own, ↓wEscs_nil, ↓wEscs_cons, ↓w_frz, ↓w_tup, ↓w_lst, ↓w_bool, ↓w_tru, ↓w_notT, ↓w_andT, ↓w_orT, ↓w_if, ↓w_and, ↓w_or, ↓w_not, ↓w_chain, ↓wB_bl, ↓w_noPart, ↓w_part, ↓w_slice, ↓w_call, ↓wPlc_cons, ↓wOwn_own, ↓w_callIo, ↓isLst_lst, ↓w_meth, ↓w_ext, ↓wExt_ok, ↓ws_next, ↓ws_bk, ↓ws_ct, ↓ws_rt, ↓ws_nx, ↓ws_seq, ↓ws_drop, ↓ws_ret, ↓ws_if, ↓ws_set, ↓wSet_d, ↓wSet_fresh, ↓wSet_plc, ↓ws_asg, ↓wt_name, ↓wt_nil, ↓wt_cons, ↓wt_tup, ↓wt_lst, ↓wPar_two, ↓ws_par, ↓wLstS_own, ↓wInt_int, ↓ws_item, ↓ws_for, ↓w_zip, ↓w_iter, ↓wItems_lst, ↓wItems_tup, ↓w_rng, ↓wRet_d, ↓wRet_fresh, ↓wRet_plc, ↓wRetS_val, ↓wRetS_own, ↓wRetS_ownS, ↓wI_some, ↓wI_none, ↓wI_ite, List.getElem?_cons_zero, List.getElem?_cons_succ, List.set_cons_zero, List.set_cons_succ]
        exact ⟨_, f6, hf6.mono (by omega), rb_divInt (by omega) (by omega), rfl⟩
      · exact ⟨x, f3, hf3.mono (by omega), hx, rfl⟩
    rintro _ ⟨x, f3, hf3, hx, rfl⟩
    refine ws_cut (fun ρ => ∃ x f2, Fd (b + 1000 * (4 - (ds.length + 1)) + 600) f2 ∧ rb x ≤ 200 ∧ ρ = [Sl.own f2, .own (.lst l), .val (.int (k : Nat)), .val (fr x)]) ?_ ?_
    · simp only [↓w_var, ↓wVar_val, ↓wVar_own, ↓w_c, ↓w_nil, ↓w_cons, ↓w_app, ↓wViews_nil, ↓wViews_cons, ↓wView_d, ↓wView_fresh, ↓wView_plc, ↓wSlot_val, ↓wSlot_own, ↓wEsc_d, ↓wEsc_fresh, ↓wEsc_plc, ↓wEscS_val, ↓wEscS_own, ↓wEscs_nil, ↓wEscs_cons, ↓w_frz, ↓w_tup, ↓w_lst, ↓w_bool, ↓w_tru, ↓w_notT, ↓w_andT, ↓w_orT, ↓w_if, ↓w_and, ↓w_or, ↓w_not, ↓w_chain, ↓wB_bl, ↓w_noPart, ↓w_part, ↓w_slice, ↓w_call, ↓wPlc_cons, ↓wOwn_own, ↓w_callIo, ↓isLst_lst, ↓w_meth, ↓w_ext, ↓wExt_ok, ↓ws_next, ↓ws_bk, ↓ws_ct, ↓ws_rt, ↓ws_nx, ↓ws_seq, ↓ws_drop, ↓ws_ret, ↓ws_if, ↓ws_set, ↓wSet_d, ↓wSet_fresh, ↓wSet_plc, ↓ws_asg, ↓wt_name, ↓wt_nil, ↓wt_cons, ↓wt_tup, ↓wt_lst, ↓wPar_two, ↓ws_par, ↓wLstS_own, ↓wInt_int, ↓ws_item, ↓ws_for, ↓w_zip, ↓w_iter, ↓wItems_lst, ↓wItems_tup, ↓w_rng, ↓wRet_d, ↓wRet_fresh, ↓wRet_plc, ↓wRetS_val, ↓wRetS_own, ↓wRetS_ownS, ↓wI_some, ↓wI_none, ↓wI_ite, List.getElem?_cons_zero, List.getElem?_cons_succ, List.set_cons_zero, List.set_cons_succ, o_lt, decide_eq_true_eq]
      split
      · try simp only [↓w_var, ↓wVar_val, ↓wVar_own, ↓w_c, ↓w_nil, ↓w_cons, ↓w_app, ↓wViews_nil, ↓wViews_cons, ↓wView_d, ↓wView_fresh, ↓wView_plc, ↓wSlot_val, ↓wSlot_own, ↓wEsc_d, ↓wEsc_fresh, ↓wEsc_plc, ↓wEscS_val, ↓wEscS_own, ↓wEscs_nil, ↓wEscs_cons, ↓w_frz, ↓w_tup, ↓w_lst, ↓w_bool, ↓w_tru, ↓w_notT, ↓w_andT, ↓w_orT, ↓w_if, ↓w_and, ↓w_or, ↓w_not, ↓w_chain, ↓wB_bl, ↓w_noPart, ↓w_part, ↓w_slice, ↓w_call, ↓wPlc_cons, ↓wOwn_own, ↓w_callIo, ↓isLst_lst, ↓w_meth, ↓w_ext, ↓wExt_ok, ↓ws_next, ↓ws_bk, ↓ws_ct, ↓ws_rt, ↓ws_nx, ↓ws_seq, ↓ws_drop, ↓ws_ret, ↓ws_if, ↓ws_set, ↓wSet_d, ↓wSet_fresh, ↓wSet_plc, ↓ws_asg, ↓wt_name, ↓wt_nil, ↓wt_cons, ↓wt_tup, ↓wt_lst, ↓wPar_two, ↓ws_par, ↓wLstS_own, ↓wInt_int, ↓ws_item, ↓ws_for, ↓w_zip, ↓w_iter, ↓wItems_lst, ↓wItems_tup, ↓w_rng, ↓wRet_d, ↓wRet_fresh, ↓wRet_plc, ↓wRetS_val, ↓wRetS_own, ↓wRetS_ownS, ↓wI_some, ↓wI_none, ↓wI_ite, List.getElem?_cons_zero, List.getElem?_cons_succ, List.set_cons_zero, List.set_cons_succ]
        refine hN _ _ _ _ _ hf3 (by omega) (by omega) (by omega) fun r f4 hf4 r0 r1 => ?_
        simp only [↓w_var, ↓wVar_val, ↓wVar_own, ↓w_c, ↓w_nil, ↓w_cons, ↓w_app, ↓wViews_nil, ↓wViews_cons, ↓wView_d, ↓wView_fresh, ↓wView_plc, ↓wSlot_val, ↓wSlot_own, ↓wEsc_d, ↓wEsc_fresh, ↓wEsc_plc, ↓wEscS_val, ↓wEscS_own, ↓wEscs_nil, ↓wEscs_cons, ↓w_frz, ↓w_tup, ↓w_lst, ↓w_bool, ↓w_tru, ↓w_notT, ↓w_andT, ↓w_orT, ↓w_if, ↓w_and, ↓w_or, ↓w_not, ↓w_chain, ↓wB_bl, ↓w_noPart, ↓w_part, ↓w_slice, ↓w_call, ↓wPlc_cons, ↓wOwn_own, ↓w_callIo, ↓isLst_lst, ↓w_meth, ↓w_ext, ↓wExt_ok, ↓ws_next, ↓ws_bk, ↓ws_ct, ↓ws_rt, ↓ws_nx, ↓ws_seq, ↓ws_drop, ↓ws_ret, ↓ws_if, ↓ws_set, ↓wSet_d, ↓wSet_fresh, ↓wSet_plc, ↓ws_asg, ↓wt_name, ↓wt_nil, ↓wt_cons, ↓wt_tup, ↓wt_lst, ↓wPar_two, ↓ws_par, ↓wLstS_own, ↓wInt_int, ↓ws_item, ↓ws_for, ↓w_zip, ↓w_iter, ↓wItems_lst, ↓wItems_tup, ↓w_rng, ↓wRet_d, ↓wRet_fresh, ↓wRet_plc, ↓wRetS_val, ↓wRetS_own, ↓wRetS_ownS, ↓wI_some, ↓wI_none, ↓wI_ite, List.getElem?_cons_zero, List.getElem?_cons_succ, List.set_cons_zero, List.set_cons_succ, o_eqI, decide_eq_true_eq]
        split
        · simp only [↓w_var, ↓wVar_val, ↓wVar_own, ↓w_c, ↓w_nil, ↓w_cons, ↓w_app, ↓wViews_nil, ↓wViews_cons, ↓wView_d, ↓wView_fresh, ↓wView_plc, ↓wSlot_val, ↓wSlot_own, ↓wEsc_d, ↓wEsc_fresh, ↓wEsc_plc, ↓wEscS_val, ↓wEscS_own, ↓wEscs_nil, ↓wEscs_cons, ↓w_frz, ↓w_tup, ↓w_lst, ↓w_bool, ↓w_tru, ↓w_notT, ↓w_andT, ↓w_orT, ↓w_if, ↓w_and, ↓w_or, ↓w_not, ↓w_chain, ↓wB_bl, ↓w_noPart, ↓w_part, ↓w_slice, ↓w_call, ↓wPlc_cons, ↓wOwn_own, ↓w_callIo, ↓isLst_lst, ↓w_meth, ↓w_ext, ↓wExt_ok, ↓ws_next, ↓ws_bk, ↓ws_ct, ↓ws_rt, ↓ws_nx, ↓ws_seq, ↓ws_drop, ↓ws_ret, ↓ws_if, ↓ws_set, ↓wSet_d, ↓wSet_fresh, ↓wSet_plc, ↓ws_asg, ↓wt_name, ↓wt_nil, ↓wt_cons, ↓wt_tup, ↓wt_lst, ↓wPar_two, ↓ws_par, ↓wLstS_own, ↓wInt_int, ↓ws_item, ↓ws_for, ↓w_zip, ↓w_iter, ↓wItems_lst, ↓wItems_tup, ↓w_rng, ↓wRet_d, ↓wRet_fresh, ↓wRet_plc, ↓wRetS_val, ↓wRetS_own, ↓wRetS_ownS, ↓wI_some, ↓wI_none, ↓wI_ite, List.getElem?_cons_zero, List.getElem?_cons_succ, List.set_cons_zero, List.set_cons_succ, fr_zero]
          exact ⟨0, f4, hf4.mono (by omega), by decide, rfl⟩
        · exact ⟨x, f4, hf4.mono (by omega), hx, rfl⟩
      · simp only [Bool.false_eq_true, ↓reduceIte]
        exact ⟨x, f3, hf3.mono (by omega), hx, rfl⟩
    rintro _ ⟨x, f4, hf4, hx, rfl⟩
    simp (disch := omega) only [↓w_var, ↓wVar_val, ↓wVar_own, ↓w_c, ↓w_nil, ↓w_cons, ↓w_app, ↓wViews_nil, ↓wViews_cons, ↓wView_d, ↓wView_fresh, ↓wView_plc, ↓wSlot_val, ↓wSlot_own, ↓wEsc_d, ↓wEsc_fresh, ↓wEsc_plc, ↓wEscS_val, ↓wEscS_own, ↓wEscs_nil, ↓wEscs_cons, ↓w_frz, ↓w_tup, ↓w_lst, ↓w_bool, ↓w_tru, ↓w_notT, ↓w_andT, ↓w_orT, ↓w_if, ↓w_and, ↓w_or, ↓w_not, ↓w_chain, ↓wB_bl, ↓w_noPart, ↓w_part, ↓w_slice, ↓w_call, ↓wPlc_cons, ↓wOwn_own, ↓w_callIo, ↓isLst_lst, ↓w_meth, ↓w_ext, ↓wExt_ok, ↓ws_next, ↓ws_bk, ↓ws_ct, ↓ws_rt, ↓ws_nx, ↓ws_seq, ↓ws_drop, ↓ws_ret, ↓ws_if, ↓ws_set, ↓wSet_d, ↓wSet_fresh, ↓wSet_plc, ↓ws_asg, ↓wt_name, ↓wt_nil, ↓wt_cons, ↓wt_tup, ↓wt_lst, ↓wPar_two, ↓ws_par, ↓wLstS_own, ↓wInt_int, ↓ws_item, ↓ws_for, ↓w_zip, ↓w_iter, ↓wItems_lst, ↓wItems_tup, ↓w_rng, ↓wRet_d, ↓wRet_fresh, ↓wRet_plc, ↓wRetS_val, ↓wRetS_own, ↓wRetS_ownS, ↓wI_some, ↓wI_none, ↓wI_ite, List.getElem?_cons_zero, List.getElem?_cons_succ, List.set_cons_zero, List.set_cons_succ, isLst_lst, m_append]
    refine ⟨by omega, _, f4, _, _, hf4.mono (by omega), by simp; omega, fun y hy => ?_, fun y hy => hds y (List.mem_cons_of_mem _ hy), rfl⟩
    rcases List.mem_append.mp hy with hy | hy
    · exact hP1 y hy
    · rw [List.mem_singleton.mp hy]; exact ⟨x, rfl, hx⟩
  · rintro ρ ⟨hn, l, f, z, w, hf, hl, hP1, hds, rfl⟩
    obtain ⟨q, eq, hq⟩ := four_of (by simpa using hl) hP1
    simp only [↓w_var, ↓wVar_val, ↓wVar_own, ↓w_c, ↓w_nil, ↓w_cons, ↓w_app, ↓wViews_nil, ↓wViews_cons, ↓wView_d, ↓wView_fresh, ↓wView_plc, ↓wSlot_val, ↓wSlot_own, ↓wEsc_d, ↓wEsc_fresh, ↓wEsc_plc, ↓wEscS_val, ↓wEscS_own, ↓wEscs_nil, ↓wEscs_cons, ↓w_frz, ↓w_tup, ↓w_lst, ↓w_bool, ↓w_tru, ↓w_notT, ↓w_andT, ↓w_orT, ↓w_if, ↓w_and, ↓w_or, ↓w_not, ↓w_chain, ↓wB_bl, ↓w_noPart, ↓w_part, ↓w_slice, ↓w_call, ↓wPlc_cons, ↓wOwn_own, ↓w_callIo, ↓isLst_lst, ↓w_meth, ↓w_ext, ↓wExt_ok, ↓ws_next, ↓ws_bk, ↓ws_ct, ↓ws_rt, ↓ws_nx, ↓ws_seq, ↓ws_drop, ↓ws_ret, ↓ws_if, ↓ws_set, ↓wSet_d, ↓wSet_fresh, ↓wSet_plc, ↓ws_asg, ↓wt_name, ↓wt_nil, ↓wt_cons, ↓wt_tup, ↓wt_lst, ↓wPar_two, ↓ws_par, ↓wLstS_own, ↓wInt_int, ↓ws_item, ↓ws_for, ↓w_zip, ↓w_iter, ↓wItems_lst, ↓wItems_tup, ↓w_rng, ↓wRet_d, ↓wRet_fresh, ↓wRet_plc, ↓wRetS_val, ↓wRetS_own, ↓wRetS_ownS, ↓wI_some, ↓wI_none, ↓wI_ite, List.getElem?_cons_zero, List.getElem?_cons_succ, List.set_cons_zero, List.set_cons_succ, tup_of, eq]
    exact h q f (hf.mono (by simp <;> omega)) hq
end DL
set_option maxHeartbeats 4000000
/-! DL, part 35: least levels. -/
namespace DL
open PySem PySem.Spec PyProof.Rows L2
/-- the least from k on -/
def IsLf (P : Nat → Prop) (k s : Nat) : Prop := k ≤ s ∧ P s ∧ ∀ t, k ≤ t → t < s → ¬ P t
theorem lf_find {P : Nat → Prop} {k : Nat} : ∀ n, P (k + n) → ∃ s, IsLf P k s ∧ s ≤ k + n := by
  intro n
  induction n using Nat.strongRecOn with
  | _ n ih =>
    intro hp
    by_cases h : ∃ m, m < n ∧ P (k + m)
    · obtain ⟨m, hm, q⟩ := h
      obtain ⟨s, hs, hl⟩ := ih m hm q
      exact ⟨s, hs, by omega⟩
    · exact ⟨k + n, ⟨by omega, hp, fun t t1 t2 z => h ⟨t - k, by omega, by rw [show k + (t - k) = t by omega]; exact z⟩⟩, by omega⟩
/-- the least level of those that hold, if any to 100,000 -/
def Lst (q : Nat → Rat) (need : Int) : Option Nat → Prop
  | some s => s ≤ 100000 ∧ IsLf (fun s => hd4 q need s = true) 3 s
  | none => ∀ s, 3 ≤ s → s ≤ 100000 → hd4 q need s = false
/-! ### bounds -/
theorem two_le {a b : Nat} (h : a ≤ b) : (2 : Int) ^ a ≤ 2 ^ b := by
  have := Nat.pow_le_pow_right (show 0 < 2 by omega) h
  have e : ∀ k : Nat, (2 : Int) ^ k = ((2 ^ k : Nat) : Int) := fun k => by simp
  rw [e, e]
  omega
theorem rat_le_pow {x : Rat} {k : Nat} (h : nb x.num.natAbs ≤ k) : x ≤ (2 : Rat) ^ k ∧ -x ≤ (2 : Rat) ^ k := by
  have b := lt_of_nb h
  have key : ∀ y : Rat, y.num < 2 ^ k → y ≤ (2 : Rat) ^ k := fun y hy => by
    rw [pow2_cast]
    apply Rat.not_lt.mp
    intro z
    have z2 := (Rat.lt_iff _ _).mp z
    rw [Rat.num_intCast, Rat.den_intCast] at z2
    have dp := den_pos y
    have p : (0 : Int) < 2 ^ k := Int.pow_pos (by omega)
    have : (2 : Int) ^ k * 1 ≤ 2 ^ k * y.den := Int.mul_le_mul_of_nonneg_left (by omega) (by omega)
    simp at z2
    omega
  exact ⟨key x b.2, key (-x) (by rw [Rat.neg_num]; omega)⟩
theorem rat_ge_pow {x : Rat} {k : Nat} (h : 0 < x) (hd : nb x.den ≤ k) : 1 ≤ x * (2 : Rat) ^ k := by
  have hn := num_pos h
  have b := Nat.lt_of_lt_of_le (lt_nb x.den) (Nat.pow_le_pow_right (show 0 < 2 by omega) hd)
  rw [pow2_cast]
  have e := mul_den x
  have dp := den_posR x
  have h1 : (x.den : Rat) * 1 ≤ (x.den : Rat) * (x * ((2 ^ k : Int) : Rat)) := by
    rw [← Rat.mul_assoc, e, Rat.mul_one, ← Rat.intCast_mul]
    have : ((x.den : Int)) ≤ x.num * 2 ^ k := by
      have p : (0 : Int) < 2 ^ k := Int.pow_pos (by omega)
      have : 1 * (2 : Int) ^ k ≤ x.num * 2 ^ k := Int.mul_le_mul_of_nonneg_right (by omega) (by omega)
      have c : ((2 ^ k : Nat) : Int) = 2 ^ k := by simp
      omega
    exact icast_le.mpr this
  exact Rat.le_of_mul_le_mul_left h1 dp
theorem stepR_le {q : Nat → Rat} (hq : Sm q) {s k : Nat} {r : Rat} {M : Int} (hk : k < 4) (hM : numAt k s ≤ M) : stepR q s r k ≤ r + (2 : Rat) ^ 200 * (M : Rat) := by
  have hb := (rat_le_pow (x := q k) (k := 200) (Nat.le_trans (rb_num _) (hq.b k hk).le)).2
  have n0 : (0 : Rat) ≤ ((numAt k s : Int) : Rat) := by
    have := icast_le.mpr (@numAt_nn k s)
    simpa using this
  have n1 : ((numAt k s : Int) : Rat) ≤ (M : Rat) := icast_le.mpr hM
  have p := Rat.le_of_lt (pow2_pos 200)
  have h1 := Rat.mul_le_mul_of_nonneg_left hb n0
  have h2 := Rat.mul_le_mul_of_nonneg_left n1 p
  have h3 : (0 : Rat) ≤ (2 : Rat) ^ 200 * (M : Rat) := by
    have := Rat.mul_nonneg p (Rat.le_trans n0 n1)
    exact this
  unfold stepR
  split
  · grind
  · grind
theorem fold_le {q : Nat → Rat} (hq : Sm q) {s : Nat} {M : Int} : ∀ (l : List Nat) {r : Rat}, (∀ k ∈ l, k < 4 ∧ numAt k s ≤ M) → l.foldl (stepR q s) r ≤ r + (l.length : Int) * ((2 : Rat) ^ 200 * (M : Rat))
  | [], r, _ => by
    show r ≤ r + ((0 : Int) : Rat) * _
    grind
  | k :: l, r, h => by
    have h1 := stepR_le (r := r) hq (h k List.mem_cons_self).1 (h k List.mem_cons_self).2
    have h2 := fold_le hq l (r := stepR q s r k) fun x hx => h x (List.mem_cons_of_mem _ hx)
    rw [List.foldl_cons, List.length_cons]
    have e : (((l.length + 1 : Nat) : Int) : Rat) = ((l.length : Int) : Rat) + 1 := by
      rw [Int.natCast_succ, Rat.intCast_add]
      rfl
    rw [e]
    grind
theorem rest_le {q : Nat → Rat} (hq : Sm q) {f s : Nat} {need M : Int} (hf : f < 4) (hn : nb need.natAbs ≤ 100) (hM : ∀ k, 1 ≤ k → k < 4 → f < k → numAt k s ≤ M) (h0 : 0 ≤ M) : restR q f need s ≤ (2 : Rat) ^ 100 + 3 * ((2 : Rat) ^ 200 * (M : Rat)) := by
  unfold restR
  have h1 := fold_le (q := q) (s := s) (M := M) hq (latter f) (r := (((if need < 0 then 0 else need) : Int) : Rat)) (fun k hk => by
    have := latter_lt hk hf
    refine ⟨this.1, hM k this.2 this.1 ?_⟩
    unfold latter at hk
    obtain ⟨i, _, rfl⟩ := List.mem_map.mp hk
    omega)
  have h2 : (((if need < 0 then 0 else need) : Int) : Rat) ≤ (2 : Rat) ^ 100 := by
    rw [pow2_cast]
    apply icast_le.mpr
    have := lt_of_nb hn
    have p : (0 : Int) < 2 ^ 100 := Int.pow_pos (by omega)
    split <;> omega
  have h3 : ((((latter f).length : Int)) : Rat) ≤ 3 := by
    have l := @latter_len f
    have : (((latter f).length : Int) : Rat) ≤ ((3 : Int) : Rat) := icast_le.mpr (by omega)
    simpa using this
  have p0 : (0 : Rat) ≤ (M : Rat) := by
    have := icast_le.mpr h0
    simpa using this
  have p := Rat.mul_nonneg (Rat.le_of_lt (pow2_pos 200)) p0
  have h4 := Rat.mul_le_mul_of_nonneg_left h3 p
  grind
theorem numAt_le {k s : Nat} (h1 : 2 ≤ k) (h4 : k < 4) : numAt k s ≤ s + 1 := by
  unfold numAt
  rw [if_neg (by omega)]
  split
  · omega
  · have : nb (s - 1) ≤ s + 1 := by
      refine nb_le ?_ (by omega)
      have := @Nat.lt_two_pow_self (s + 1)
      omega
    omega
/-- a level that holds soon, where the first one is the first or the second -/
theorem soon {q : Nat → Rat} (hq : Sm q) {f : Nat} {need : Int} (hf : firstP q = some f) (f1 : f ≤ 1) (hp : 0 < q f) (hn : nb need.natAbs ≤ 100) : hd4 q need 600 = true := by
  have f4 : f < 4 := by omega
  have bq := hq.b f f4
  have hx := rat_ge_pow hp (Nat.le_trans bq.dn (Nat.le_refl _))
  unfold hd4
  rw [hf]
  show (if q f < 0 then false else mkUp (q f) f (restR q f need 600) 600) = true
  rw [if_neg (by grind)]
  have p200 := pow2_pos 200
  have e : ∀ a b : Nat, (2 : Rat) ^ a * (2 : Rat) ^ b = (2 : Rat) ^ (a + b) := fun a b => by
    rw [pow2_cast, pow2_cast, pow2_cast, ← Rat.intCast_mul, ← Int.pow_add]
  have big : (((2 : Int) ^ 600 : Int) : Rat) = (2 : Rat) ^ 600 := (pow2_cast 600).symm
  unfold mkUp
  by_cases f0 : f = 0
  · rw [if_pos f0]
    subst f0
    apply decide_eq_true
    by_cases r0 : restR q 0 need 600 = 0
    · exact .inl r0
    · right
      have rp : 0 < restR q 0 need 600 := by
        have := @restR_nn q 0 600 need
        grind
      have hr := rest_le (q := q) (s := 600) (M := 2 ^ 600) hq (f := 0) (by omega) hn (fun k k1 k4 _ => by
        by_cases e1 : k = 1
        · subst e1
          simp [numAt]
        · have := @numAt_le k 600 (by omega) k4
          have : (1000 : Int) ≤ 2 ^ 600 := Int.le_trans (show (1000 : Int) ≤ 2 ^ 10 by decide) (two_le (by omega))
          omega) (Int.le_of_lt (Int.pow_pos (by omega)))
      rw [← clog_le (dv_pos rp hp)]
      have h1 : restR q 0 need 600 / q 0 ≤ (2 : Rat) ^ (2000 : Nat) := by
        rw [← mul_le_iff hp]
        have e1 := e 200 1800
        have h2 : (2 : Rat) ^ 1800 * 1 ≤ (2 : Rat) ^ 1800 * (q 0 * (2 : Rat) ^ 200) := Rat.mul_le_mul_of_nonneg_left hx (Rat.le_of_lt (pow2_pos _))
        have e2 := e 200 600
        have h3 : (2 : Rat) ^ 100 + 3 * (2 : Rat) ^ 800 ≤ (2 : Rat) ^ 1800 := by
          rw [pow2_cast, pow2_cast, pow2_cast]
          have : (2 : Int) ^ 100 + 3 * 2 ^ 800 ≤ 2 ^ 1800 := by decide
          have := icast_le.mpr this
          rw [Rat.intCast_add, Rat.intCast_mul] at this
          exact this
        rw [big, e2] at hr
        have e3 := e 1800 200
        grind
      have h2 : (2 : Rat) ^ (2000 : Nat) ≤ (2 : Rat) ^ ((2 : Int) ^ 600) := by
        have : ((2000 : Nat) : Int) ≤ (2 : Int) ^ 600 := Int.le_trans (show ((2000 : Nat) : Int) ≤ 2 ^ 11 by decide) (two_le (by omega))
        have := zpow2_mono this
        rw [Rat.zpow_natCast] at this
        exact this
      exact Rat.le_trans h1 h2
  · rw [if_neg f0]
    have ef : f = 1 := by omega
    subst ef
    apply decide_eq_true
    have hr := rest_le (q := q) (s := 600) (M := 601) hq (f := 1) (by omega) hn (fun k k1 k4 fk => by
      have := @numAt_le k 600 (by omega) k4
      omega) (by omega)
    have en : (((if (1 : Nat) < 3 then numAt 1 600 else nb 600 - 1 : Int)) : Rat) = (2 : Rat) ^ 600 := by
      rw [if_pos (by omega), ← big]
      rfl
    rw [en]
    have h2 : (2 : Rat) ^ 400 * 1 ≤ (2 : Rat) ^ 400 * (q 1 * (2 : Rat) ^ 200) := Rat.mul_le_mul_of_nonneg_left hx (Rat.le_of_lt (pow2_pos _))
    have e3 := e 400 200
    have h3 : (2 : Rat) ^ 100 + 3 * ((2 : Rat) ^ 200 * ((601 : Int) : Rat)) ≤ (2 : Rat) ^ 400 := by
      rw [pow2_cast, pow2_cast, pow2_cast]
      have : (2 : Int) ^ 100 + 3 * (2 ^ 200 * 601) ≤ 2 ^ 400 := by decide
      have := icast_le.mpr this
      rw [Rat.intCast_add, Rat.intCast_mul, Rat.intCast_mul] at this
      exact this
    grind
/-- the least whole number that is at least x -/
def cei (x : Rat) : Int := 0 - (0 - x.num) / x.den
theorem cei_le {x : Rat} {n : Int} : x ≤ (n : Rat) ↔ cei x ≤ n := by
  have dp := den_pos x
  have h1 := Rat.le_iff x (n : Rat)
  rw [Rat.num_intCast, Rat.den_intCast] at h1
  rw [h1]
  unfold cei
  rw [Int.zero_sub, Int.zero_sub]
  have e1 := Int.ediv_mul_le (-x.num) (show (x.den : Int) ≠ 0 by omega)
  have e2 := Int.lt_ediv_add_one_mul_self (-x.num) dp
  generalize -x.num / (x.den : Int) = t at *
  have c1 : ((1 : Nat) : Int) = 1 := rfl
  rw [c1, Int.mul_one]
  constructor
  · intro z
    apply Int.not_lt.mp
    intro y
    have : (t + 1) * (x.den : Int) ≤ (-n) * x.den := Int.mul_le_mul_of_nonneg_right (by omega) (by omega)
    rw [Int.neg_mul] at this
    omega
  · intro z
    have : (-n) * (x.den : Int) ≤ t * x.den := Int.mul_le_mul_of_nonneg_right (by omega) (by omega)
    rw [Int.neg_mul] at this
    omega
noncomputable def ceilingB : SDen :=
 sRet (dApp oSub [dC (.int 0), dApp oDiv [dApp oSub [dC (.int 0), dApp oIx [dVar 0, dC (.int 0)]], dApp oIx [dVar 0, dC (.int 1)]]])
abbrev CeilingE (A : List D → FRes) : Prop := ∀ x : Rat, nb x.den ≤ 9000 → A [fr x] = .ok (.d (.int (cei x))) none
theorem ceiling_e : CeilingE (runFn 1 1 false ceilingB) := by
  intro x hx
  refine eq_of_w (w_run0 rfl ?_)
  show wS (ceilingB [Sl.val (fr x)]) _
  unfold ceilingB
  have dp := den_pos x
  simp (disch := first | exact dp | (simp only [Int.natAbs_natCast]; exact hx)) only [↓w_var, ↓wVar_val, ↓wVar_own, ↓w_c, ↓w_nil, ↓w_cons, ↓w_app, ↓wViews_nil, ↓wViews_cons, ↓wView_d, ↓wView_fresh, ↓wView_plc, ↓wSlot_val, ↓wSlot_own, ↓wEsc_d, ↓wEsc_fresh, ↓wEsc_plc, ↓wEscS_val, ↓wEscS_own, ↓wEscs_nil, ↓wEscs_cons, ↓w_frz, ↓w_tup, ↓w_lst, ↓w_bool, ↓w_tru, ↓w_notT, ↓w_andT, ↓w_orT, ↓w_if, ↓w_and, ↓w_or, ↓w_not, ↓w_chain, ↓wB_bl, ↓w_noPart, ↓w_part, ↓w_slice, ↓w_call, ↓wPlc_cons, ↓wOwn_own, ↓w_callIo, ↓isLst_lst, ↓w_meth, ↓w_ext, ↓wExt_ok, ↓ws_next, ↓ws_bk, ↓ws_ct, ↓ws_rt, ↓ws_nx, ↓ws_seq, ↓ws_drop, ↓ws_ret, ↓ws_if, ↓ws_set, ↓wSet_d, ↓wSet_fresh, ↓wSet_plc, ↓ws_asg, ↓wt_name, ↓wt_nil, ↓wt_cons, ↓wt_tup, ↓wt_lst, ↓wPar_two, ↓ws_par, ↓wLstS_own, ↓wInt_int, ↓ws_item, ↓ws_for, ↓w_zip, ↓w_iter, ↓wItems_lst, ↓wItems_tup, ↓w_rng, ↓wRet_d, ↓wRet_fresh, ↓wRet_plc, ↓wRetS_val, ↓wRetS_own, ↓wRetS_ownS, ↓wI_some, ↓wI_none, ↓wI_ite, List.getElem?_cons_zero, List.getElem?_cons_succ, List.set_cons_zero, List.set_cons_succ, fr_ix0, fr_ix1, o_sub, o_divN]
  rfl
/-! ### the third one first: block by block -/
theorem hd_third {q : Nat → Rat} {need : Int} {s : Nat} (hf : firstP q = some 2) (hp : 0 < q 2) : hd4 q need s = true ↔ restR q 2 need s ≤ q 2 * ((s : Int) : Rat) := by
  unfold hd4
  rw [hf]
  show (if q 2 < 0 then false else mkUp (q 2) 2 (restR q 2 need s) s) = true ↔ _
  rw [if_neg (by grind)]
  unfold mkUp
  rw [if_neg (by omega)]
  have e : (if (2 : Nat) < 3 then numAt 2 s else nb s - 1 : Int) = s := by
    rw [if_pos (by omega)]
    rfl
  rw [e]
  simp
/-- within a block the rest is one -/
theorem rest_block {q : Nat → Rat} {need : Int} {s t : Nat} (h : nb (s - 1) = nb (t - 1)) : restR q 2 need s = restR q 2 need t := by
  unfold restR
  have e : latter 2 = [3] := rfl
  rw [e]
  show stepR q s _ 3 = stepR q t _ 3
  unfold stepR
  have e3 : numAt 3 s = numAt 3 t := by
    unfold numAt
    rw [if_neg (by omega), if_neg (by omega), if_neg (by omega), if_neg (by omega), h]
  rw [e3]
theorem nb_block {b s : Nat} (h1 : 2 ^ (b - 1) < s) (h2 : s ≤ 2 ^ b) (hb : 2 ≤ b) : nb (s - 1) = b := by
  have l : nb (s - 1) ≤ b := nb_le (by
    have := Nat.two_pow_pos b
    omega) (by omega)
  have g : ¬ nb (s - 1) ≤ b - 1 := fun z => by
    have := Nat.lt_of_lt_of_le (lt_nb (s - 1)) (Nat.pow_le_pow_right (show 0 < 2 by omega) z)
    omega
  omega
def topOf (b : Nat) : Nat := min (2 ^ b) 100000
noncomputable def lowOf (q : Nat → Rat) (need : Int) (b : Nat) : Int := max3I 3 (2 ^ (b - 1) + 1) (cei (restR q 2 need (topOf b) / q 2))
theorem third_block {q : Nat → Rat} {need : Int} {b s : Nat} (hf : firstP q = some 2) (hp : 0 < q 2) (hb : 2 ≤ b) (hb2 : b ≤ 17) (h1 : 2 ^ (b - 1) < s) (h2 : s ≤ topOf b) (h3 : 3 ≤ s) : hd4 q need s = true ↔ lowOf q need b ≤ s := by
  have h2' : s ≤ 2 ^ b ∧ s ≤ 100000 := by unfold topOf at h2; omega
  have ht : 2 ^ (b - 1) < topOf b ∧ topOf b ≤ 2 ^ b := by
    have := Nat.pow_le_pow_right (show 0 < 2 by omega) (show b - 1 ≤ 16 by omega)
    have e : 2 ^ b = 2 ^ (b - 1) * 2 := by
      rw [show 2 ^ (b - 1) * 2 = 2 ^ (b - 1) * 2 ^ 1 from rfl, ← Nat.pow_add]
      congr 1
      omega
    have := Nat.two_pow_pos (b - 1)
    unfold topOf
    omega
  rw [hd_third hf hp, rest_block (t := topOf b) ((nb_block h1 h2'.1 hb).trans (nb_block ht.1 ht.2 hb).symm), mul_le_iff hp, cei_le]
  unfold lowOf max3I
  have e : ((2 ^ (b - 1) : Nat) : Int) = 2 ^ (b - 1) := by simp
  constructor
  · intro z
    split <;> split at * <;> omega
  · intro z
    split at z <;> split at * <;> omega
end DL
set_option maxHeartbeats 4000000
/-! DL, part 36: least levels walked. -/
namespace DL
open PySem PySem.Spec PyProof.Rows L2
noncomputable def thirdB (C D' R : List D → FRes) : SDen :=
 sSeq (sFor (dRng [dC (.int 2), dApp oAdd [dC (.int 17), dC (.int 1)]]) (tName 2)
 (sSeq (sSet 3 (dApp oMin [dApp oShl [dC (.int 1), dVar 2], dC (.int 100000)]))
 (sSeq (sSet 4 (dApp oMax [dC (.int 3), dApp oAdd [dApp oShl [dC (.int 1), dApp oSub [dVar 2, dC (.int 1)]], dC (.int 1)], dCall C [dCall D' [dCall R [dVar 0, dC (.int 2), dVar 1, dVar 3], dApp oIx [dVar 0, dC (.int 2)]]]]))
 (sIf (dBool (dApp oLe [dVar 4, dVar 3]))
 (sRet (dVar 4))
 (sNext)))))
 (sRet (dC .non))
def ThirdE (A : List D → FRes) : Prop := ∀ (q : Nat → Rat) (need : Int), Sm q → nb need.natAbs ≤ 100 → firstP q = some 2 → 0 < q 2 → ∃ o, A [fourD q, .int need] = .ok (.d (optN' o)) none ∧ Lst q need o
theorem max3_r {i j k : Int} {Q : RV → Prop} : wI (oMax [.int i, .int j, .int k]) Q = Q (.d (.int (max3I i j k))) := id rfl
theorem min_r {i j : Int} {Q : RV → Prop} : wI (oMin [.int i, .int j]) Q = Q (.d (.int (if j < i then j else i))) := id rfl
theorem max_r {i j : Int} {Q : RV → Prop} : wI (oMax [.int i, .int j]) Q = Q (.d (.int (if i < j then j else i))) := id rfl
theorem ex_of_w {o : FRes} {P : RV → Prop} (h : wF0 o P fun _ => False) : ∃ x, o = .ok x none ∧ P x := by
  unfold wF0 at h
  split at h
  · exact ⟨_, rfl, h⟩
  · exact h.elim
  · exact h.elim
theorem third_e {C D' R : List D → FRes} (hC : CeilingE C) (hD : DividedE D') (hR : RestE R) : ThirdE (runFn 5 2 false (thirdB C D' R)) := by
  intro q need hq hn hf hp
  have key : wF0 (runFn 5 2 false (thirdB C D' R) [fourD q, .int need]) (fun r => ∃ o, r = .d (optN' o) ∧ Lst q need o) fun _ => False := by
    refine w_run0 rfl ?_
    show wS (thirdB C D' R [Sl.val (fourD q), .val (.int need), .no, .no, .no]) _
    unfold thirdB
    have bq := hq.b 2 (by omega)
    simp (disch := omega) only [↓w_var, ↓wVar_val, ↓wVar_own, ↓w_c, ↓w_nil, ↓w_cons, ↓w_app, ↓wViews_nil, ↓wViews_cons, ↓wView_d, ↓wView_fresh, ↓wView_plc, ↓wSlot_val, ↓wSlot_own, ↓wEsc_d, ↓wEsc_fresh, ↓wEsc_plc, ↓wEscS_val, ↓wEscS_own, ↓wEscs_nil, ↓wEscs_cons, ↓w_frz, ↓w_tup, ↓w_lst, ↓w_bool, ↓w_tru, ↓w_notT, ↓w_andT, ↓w_orT, ↓w_if, ↓w_and, ↓w_or, ↓w_not, ↓w_chain, ↓wB_bl, ↓w_noPart, ↓w_part, ↓w_slice, ↓w_call, ↓wPlc_cons, ↓wOwn_own, ↓w_callIo, ↓isLst_lst, ↓w_meth, ↓w_ext, ↓wExt_ok, ↓ws_next, ↓ws_bk, ↓ws_ct, ↓ws_rt, ↓ws_nx, ↓ws_seq, ↓ws_drop, ↓ws_ret, ↓ws_if, ↓ws_set, ↓wSet_d, ↓wSet_fresh, ↓wSet_plc, ↓ws_asg, ↓wt_name, ↓wt_nil, ↓wt_cons, ↓wt_tup, ↓wt_lst, ↓wPar_two, ↓ws_par, ↓wLstS_own, ↓wInt_int, ↓ws_item, ↓ws_for, ↓w_zip, ↓w_iter, ↓wItems_lst, ↓wItems_tup, ↓w_rng, ↓wRet_d, ↓wRet_fresh, ↓wRet_plc, ↓wRetS_val, ↓wRetS_own, ↓wRetS_ownS, ↓wI_some, ↓wI_none, ↓wI_ite, List.getElem?_cons_zero, List.getElem?_cons_succ, List.set_cons_zero, List.set_cons_succ, o_add, intsR2, rngD2, Int.reduceAdd, Int.reduceSub, Int.reduceToNat]
    refine for_inv (fun ds ρ => ∃ (b : Nat) (z2 z3 z4 : Sl), 2 ≤ b ∧ b ≤ 18 ∧ ds = natsD ((List.range (18 - b)).map (b + ·)) ∧ (∀ s, 3 ≤ s → s ≤ 2 ^ (b - 1) → s ≤ 100000 → hd4 q need s = false) ∧ ρ = [Sl.val (fourD q), .val (.int need), z2, z3, z4])
      ⟨2, .no, .no, .no, by omega, by omega, rfl, fun s h3 h2 _ => absurd h2 (by show ¬ s ≤ 2; omega), rfl⟩ ?_ ?_
    · rintro d ds ρ ⟨b, z2, z3, z4, b2, b18, hds, hno, rfl⟩
      by_cases hb : b = 18
      · subst hb
        cases hds
      · have e1 : natsD ((List.range (18 - b)).map (b + ·)) = .int (b : Nat) :: natsD ((List.range (18 - (b + 1))).map (b + 1 + ·)) := by
          rw [show 18 - b = 18 - (b + 1) + 1 by omega, List.range_succ_eq_map, List.map_cons, List.map_map]
          unfold natsD
          rw [List.map_cons]
          congr 2
          apply List.map_congr_left
          intro i _
          show b + (i + 1) = b + 1 + i
          omega
        rw [e1] at hds
        cases hds
        have hpw := Nat.pow_le_pow_right (show 0 < 2 by omega) (show b ≤ 17 by omega)
        have hpw2 := Nat.pow_le_pow_right (show 0 < 2 by omega) b2
        have e17 : (2 : Nat) ^ 17 = 131072 := by decide
        have ec : ((2 ^ b : Nat) : Int) = 2 ^ b := by simp
        have etop : (if (100000 : Int) < 2 ^ b then 100000 else 2 ^ b) = ((topOf b : Nat) : Int) := by
          unfold topOf
          split <;> omega
        have t4 : 4 ≤ topOf b ∧ topOf b ≤ 100000 := by
          unfold topOf
          omega
        have hr := hR q 2 need (topOf b) hq (by omega) hn (by omega) (by omega)
        have br := restR_rb (need := need) (f := 2) (s := topOf b) hq (by omega) (by omega) hn
        have hd := hD (restR q 2 need (topOf b)) (q 2) (Rat.ne_of_gt hp) rb2d
        have bd : RB (restR q 2 need (topOf b) / q 2) 700200 900 := inferInstance
        have hc := hC (restR q 2 need (topOf b) / q 2) (Nat.le_trans bd.dn (by omega))
        have i2 : ∀ {Q : RV → Prop}, wI (oIx [fourD q, .int 2]) Q = Q (.d (fr (q 2))) := fun {Q} => four_ix (k := 2) (by omega)
        have eb1 : ((b : Nat) : Int) - 1 = ((b - 1 : Nat) : Int) := by omega
        have c2 : ((2 : Nat) : Int) = 2 := rfl
        rw [c2] at hr
        simp (disch := omega) only [↓w_var, ↓wVar_val, ↓wVar_own, ↓w_c, ↓w_nil, ↓w_cons, ↓w_app, ↓wViews_nil, ↓wViews_cons, ↓wView_d, ↓wView_fresh, ↓wView_plc, ↓wSlot_val, ↓wSlot_own, ↓wEsc_d, ↓wEsc_fresh, ↓wEsc_plc, ↓wEscS_val, ↓wEscS_own, ↓wEscs_nil, ↓wEscs_cons, ↓w_frz, ↓w_tup, ↓w_lst, ↓w_bool, ↓w_tru, ↓w_notT, ↓w_andT, ↓w_orT, ↓w_if, ↓w_and, ↓w_or, ↓w_not, ↓w_chain, ↓wB_bl, ↓w_noPart, ↓w_part, ↓w_slice, ↓w_call, ↓wPlc_cons, ↓wOwn_own, ↓w_callIo, ↓isLst_lst, ↓w_meth, ↓w_ext, ↓wExt_ok, ↓ws_next, ↓ws_bk, ↓ws_ct, ↓ws_rt, ↓ws_nx, ↓ws_seq, ↓ws_drop, ↓ws_ret, ↓ws_if, ↓ws_set, ↓wSet_d, ↓wSet_fresh, ↓wSet_plc, ↓ws_asg, ↓wt_name, ↓wt_nil, ↓wt_cons, ↓wt_tup, ↓wt_lst, ↓wPar_two, ↓ws_par, ↓wLstS_own, ↓wInt_int, ↓ws_item, ↓ws_for, ↓w_zip, ↓w_iter, ↓wItems_lst, ↓wItems_tup, ↓w_rng, ↓wRet_d, ↓wRet_fresh, ↓wRet_plc, ↓wRetS_val, ↓wRetS_own, ↓wRetS_ownS, ↓wI_some, ↓wI_none, ↓wI_ite, List.getElem?_cons_zero, List.getElem?_cons_succ, List.set_cons_zero, List.set_cons_succ, sh1N, min_r, etop, o_sub, eb1, o_add, hr, wF0_ok, i2, hd, hc, max3_r]
        have elow : max3I 3 (2 ^ (b - 1) + 1) (cei (restR q 2 need (topOf b) / q 2)) = lowOf q need b := rfl
        rw [elow]
        simp only [↓w_var, ↓wVar_val, ↓wVar_own, ↓w_c, ↓w_nil, ↓w_cons, ↓w_app, ↓wViews_nil, ↓wViews_cons, ↓wView_d, ↓wView_fresh, ↓wView_plc, ↓wSlot_val, ↓wSlot_own, ↓wEsc_d, ↓wEsc_fresh, ↓wEsc_plc, ↓wEscS_val, ↓wEscS_own, ↓wEscs_nil, ↓wEscs_cons, ↓w_frz, ↓w_tup, ↓w_lst, ↓w_bool, ↓w_tru, ↓w_notT, ↓w_andT, ↓w_orT, ↓w_if, ↓w_and, ↓w_or, ↓w_not, ↓w_chain, ↓wB_bl, ↓w_noPart, ↓w_part, ↓w_slice, ↓w_call, ↓wPlc_cons, ↓wOwn_own, ↓w_callIo, ↓isLst_lst, ↓w_meth, ↓w_ext, ↓wExt_ok, ↓ws_next, ↓ws_bk, ↓ws_ct, ↓ws_rt, ↓ws_nx, ↓ws_seq, ↓ws_drop, ↓ws_ret, ↓ws_if, ↓ws_set, ↓wSet_d, ↓wSet_fresh, ↓wSet_plc, ↓ws_asg, ↓wt_name, ↓wt_nil, ↓wt_cons, ↓wt_tup, ↓wt_lst, ↓wPar_two, ↓ws_par, ↓wLstS_own, ↓wInt_int, ↓ws_item, ↓ws_for, ↓w_zip, ↓w_iter, ↓wItems_lst, ↓wItems_tup, ↓w_rng, ↓wRet_d, ↓wRet_fresh, ↓wRet_plc, ↓wRetS_val, ↓wRetS_own, ↓wRetS_ownS, ↓wI_some, ↓wI_none, ↓wI_ite, List.getElem?_cons_zero, List.getElem?_cons_succ, List.set_cons_zero, List.set_cons_succ, o_le, decide_eq_true_eq]
        have l3 : 3 ≤ lowOf q need b ∧ 2 ^ (b - 1) + 1 ≤ lowOf q need b := by
          unfold lowOf max3I
          constructor
          · split <;> split at * <;> omega
          · split <;> split at * <;> omega
        have ec1 : ((2 ^ (b - 1) : Nat) : Int) = 2 ^ (b - 1) := by simp
        split
        · rename_i hle
          obtain ⟨s, hs⟩ := Int.eq_ofNat_of_zero_le (show 0 ≤ lowOf q need b by omega)
          have blk := fun t (h1 : 2 ^ (b - 1) < t) (h2 : t ≤ topOf b) (h3 : 3 ≤ t) => third_block hf hp b2 (by omega) h1 h2 h3 (need := need)
          refine ⟨some s, by rw [hs]; rfl, by omega, by omega, (blk s (by omega) (by omega) (by omega)).mpr (by omega), fun t t3 ts z => ?_⟩
          by_cases tb : t ≤ 2 ^ (b - 1)
          · have z : hd4 q need t = true := z
            rw [hno t t3 tb (by omega)] at z
            cases z
          · have := (blk t (by omega) (by omega) t3).mp z
            omega
        · rename_i hle
          refine ⟨b + 1, _, _, _, by omega, by omega, rfl, fun s s3 sb s1 => ?_, rfl⟩
          by_cases tb : s ≤ 2 ^ (b - 1)
          · exact hno s s3 tb s1
          · have sb' : s ≤ 2 ^ b := sb
            have st : s ≤ topOf b := by unfold topOf; omega
            have blk := third_block hf hp b2 (by omega) (show 2 ^ (b - 1) < s by omega) st s3 (need := need)
            cases hh : hd4 q need s with
            | false => rfl
            | true =>
              have := blk.mp hh
              omega
    · rintro ρ ⟨b, z2, z3, z4, b2, b18, hds, hno, rfl⟩
      have hb : b = 18 := by
        have := congrArg List.length hds
        simp [natsD] at this
        omega
      subst hb
      simp only [↓w_var, ↓wVar_val, ↓wVar_own, ↓w_c, ↓w_nil, ↓w_cons, ↓w_app, ↓wViews_nil, ↓wViews_cons, ↓wView_d, ↓wView_fresh, ↓wView_plc, ↓wSlot_val, ↓wSlot_own, ↓wEsc_d, ↓wEsc_fresh, ↓wEsc_plc, ↓wEscS_val, ↓wEscS_own, ↓wEscs_nil, ↓wEscs_cons, ↓w_frz, ↓w_tup, ↓w_lst, ↓w_bool, ↓w_tru, ↓w_notT, ↓w_andT, ↓w_orT, ↓w_if, ↓w_and, ↓w_or, ↓w_not, ↓w_chain, ↓wB_bl, ↓w_noPart, ↓w_part, ↓w_slice, ↓w_call, ↓wPlc_cons, ↓wOwn_own, ↓w_callIo, ↓isLst_lst, ↓w_meth, ↓w_ext, ↓wExt_ok, ↓ws_next, ↓ws_bk, ↓ws_ct, ↓ws_rt, ↓ws_nx, ↓ws_seq, ↓ws_drop, ↓ws_ret, ↓ws_if, ↓ws_set, ↓wSet_d, ↓wSet_fresh, ↓wSet_plc, ↓ws_asg, ↓wt_name, ↓wt_nil, ↓wt_cons, ↓wt_tup, ↓wt_lst, ↓wPar_two, ↓ws_par, ↓wLstS_own, ↓wInt_int, ↓ws_item, ↓ws_for, ↓w_zip, ↓w_iter, ↓wItems_lst, ↓wItems_tup, ↓w_rng, ↓wRet_d, ↓wRet_fresh, ↓wRet_plc, ↓wRetS_val, ↓wRetS_own, ↓wRetS_ownS, ↓wI_some, ↓wI_none, ↓wI_ite, List.getElem?_cons_zero, List.getElem?_cons_succ, List.set_cons_zero, List.set_cons_succ]
      have e17 : (2 : Nat) ^ (18 - 1) = 131072 := by decide
      exact ⟨none, rfl, fun s s3 s1 => hno s s3 (by omega) s1⟩
  obtain ⟨x, e, o, rfl, ho⟩ := ex_of_w key
  exact ⟨o, e, ho⟩
noncomputable def fourthB (C D' : List D → FRes) : SDen :=
 sSeq (sSet 2 (dCall C [dCall D' [dTup [dApp oMax [dVar 1, dC (.int 0)], dC (.int 1)], dApp oIx [dVar 0, dC (.int 3)]]]))
 (sSeq (sIf (dBool (dApp oGe [dVar 2, dC (.int 17)]))
 (sRet (dC .non))
 (sNext))
 (sRet (dApp oMax [dC (.int 3), dApp oShl [dC (.int 1), dVar 2]])))
def FourthE (A : List D → FRes) : Prop := ∀ (q : Nat → Rat) (need : Int), Sm q → nb need.natAbs ≤ 100 → firstP q = some 3 → 0 < q 3 → ∃ o, A [fourD q, .int need] = .ok (.d (optN' o)) none ∧ Lst q need o
theorem hd_fourth {q : Nat → Rat} {need : Int} {s : Nat} (hf : firstP q = some 3) (hp : 0 < q 3) : hd4 q need s = true ↔ cei ((((if need < 0 then 0 else need) : Int) : Rat) / q 3) ≤ nb s - 1 := by
  unfold hd4
  rw [hf]
  show (if q 3 < 0 then false else mkUp (q 3) 3 (restR q 3 need s) s) = true ↔ _
  rw [if_neg (by grind)]
  unfold mkUp
  rw [if_neg (by omega)]
  have e : (if (3 : Nat) < 3 then numAt 3 s else nb s - 1 : Int) = nb s - 1 := if_neg (by omega)
  have er : restR q 3 need s = (((if need < 0 then 0 else need) : Int) : Rat) := by
    unfold restR
    rfl
  rw [e, er, ← cei_le, ← mul_le_iff hp]
  simp
theorem fourth_e {C D' : List D → FRes} (hC : CeilingE C) (hD : DividedE D') : FourthE (runFn 3 2 false (fourthB C D')) := by
  intro q need hq hn hf hp
  have key : wF0 (runFn 3 2 false (fourthB C D') [fourD q, .int need]) (fun r => ∃ o, r = .d (optN' o) ∧ Lst q need o) fun _ => False := by
    refine w_run0 rfl ?_
    show wS (fourthB C D' [Sl.val (fourD q), .val (.int need), .no]) _
    unfold fourthB
    have bq := hq.b 3 (by omega)
    have bn := need_rb hn
    have hd := hD (((if need < 0 then 0 else need) : Int) : Rat) (q 3) (Rat.ne_of_gt hp) rb2d
    have bd : RB ((((if need < 0 then 0 else need) : Int) : Rat) / q 3) 300 201 := inferInstance
    have hc := hC _ (Nat.le_trans bd.dn (show 201 ≤ 9000 by omega))
    have i3 : ∀ {Q : RV → Prop}, wI (oIx [fourD q, .int 3]) Q = Q (.d (fr (q 3))) := fun {Q} => four_ix (k := 3) (by omega)
    have hh := fun s => @hd_fourth q need s hf hp
    have w0 : ¬ cei ((((if need < 0 then 0 else need) : Int) : Rat) / q 3) ≤ -1 := by
      rw [← cei_le, ← mul_le_iff hp]
      have h1 := icast_le.mpr (show (0 : Int) ≤ (if need < 0 then 0 else need) by split <;> omega)
      have e0 : (((-1 : Int)) : Rat) = -1 := rfl
      intro z
      rw [e0] at z
      have : (0 : Rat) ≤ (((if need < 0 then 0 else need) : Int) : Rat) := by simpa using h1
      grind
    simp (disch := omega) only [↓w_var, ↓wVar_val, ↓wVar_own, ↓w_c, ↓w_nil, ↓w_cons, ↓w_app, ↓wViews_nil, ↓wViews_cons, ↓wView_d, ↓wView_fresh, ↓wView_plc, ↓wSlot_val, ↓wSlot_own, ↓wEsc_d, ↓wEsc_fresh, ↓wEsc_plc, ↓wEscS_val, ↓wEscS_own, ↓wEscs_nil, ↓wEscs_cons, ↓w_frz, ↓w_tup, ↓w_lst, ↓w_bool, ↓w_tru, ↓w_notT, ↓w_andT, ↓w_orT, ↓w_if, ↓w_and, ↓w_or, ↓w_not, ↓w_chain, ↓wB_bl, ↓w_noPart, ↓w_part, ↓w_slice, ↓w_call, ↓wPlc_cons, ↓wOwn_own, ↓w_callIo, ↓isLst_lst, ↓w_meth, ↓w_ext, ↓wExt_ok, ↓ws_next, ↓ws_bk, ↓ws_ct, ↓ws_rt, ↓ws_nx, ↓ws_seq, ↓ws_drop, ↓ws_ret, ↓ws_if, ↓ws_set, ↓wSet_d, ↓wSet_fresh, ↓wSet_plc, ↓ws_asg, ↓wt_name, ↓wt_nil, ↓wt_cons, ↓wt_tup, ↓wt_lst, ↓wPar_two, ↓ws_par, ↓wLstS_own, ↓wInt_int, ↓ws_item, ↓ws_for, ↓w_zip, ↓w_iter, ↓wItems_lst, ↓wItems_tup, ↓w_rng, ↓wRet_d, ↓wRet_fresh, ↓wRet_plc, ↓wRetS_val, ↓wRetS_own, ↓wRetS_ownS, ↓wI_some, ↓wI_none, ↓wI_ite, List.getElem?_cons_zero, List.getElem?_cons_succ, List.set_cons_zero, List.set_cons_succ, max0, fr_int, i3, hd, wF0_ok, hc, o_ge, decide_eq_true_eq]
    generalize cei ((((if need < 0 then 0 else need) : Int) : Rat) / q 3) = w at *
    split
    · rename_i hw
      refine ⟨none, rfl, fun s s3 s1 => ?_⟩
      cases q2 : hd4 q need s with
      | false => rfl
      | true =>
        have := (hh s).mp q2
        have := nb_small (n := s) (k := 17) (by omega) (by omega)
        omega
    · rename_i hw
      obtain ⟨k, rfl⟩ := Int.eq_ofNat_of_zero_le (show 0 ≤ w by omega)
      simp (disch := omega) only [↓w_var, ↓wVar_val, ↓wVar_own, ↓w_c, ↓w_nil, ↓w_cons, ↓w_app, ↓wViews_nil, ↓wViews_cons, ↓wView_d, ↓wView_fresh, ↓wView_plc, ↓wSlot_val, ↓wSlot_own, ↓wEsc_d, ↓wEsc_fresh, ↓wEsc_plc, ↓wEscS_val, ↓wEscS_own, ↓wEscs_nil, ↓wEscs_cons, ↓w_frz, ↓w_tup, ↓w_lst, ↓w_bool, ↓w_tru, ↓w_notT, ↓w_andT, ↓w_orT, ↓w_if, ↓w_and, ↓w_or, ↓w_not, ↓w_chain, ↓wB_bl, ↓w_noPart, ↓w_part, ↓w_slice, ↓w_call, ↓wPlc_cons, ↓wOwn_own, ↓w_callIo, ↓isLst_lst, ↓w_meth, ↓w_ext, ↓wExt_ok, ↓ws_next, ↓ws_bk, ↓ws_ct, ↓ws_rt, ↓ws_nx, ↓ws_seq, ↓ws_drop, ↓ws_ret, ↓ws_if, ↓ws_set, ↓wSet_d, ↓wSet_fresh, ↓wSet_plc, ↓ws_asg, ↓wt_name, ↓wt_nil, ↓wt_cons, ↓wt_tup, ↓wt_lst, ↓wPar_two, ↓ws_par, ↓wLstS_own, ↓wInt_int, ↓ws_item, ↓ws_for, ↓w_zip, ↓w_iter, ↓wItems_lst, ↓wItems_tup, ↓w_rng, ↓wRet_d, ↓wRet_fresh, ↓wRet_plc, ↓wRetS_val, ↓wRetS_own, ↓wRetS_ownS, ↓wI_some, ↓wI_none, ↓wI_ite, List.getElem?_cons_zero, List.getElem?_cons_succ, List.set_cons_zero, List.set_cons_succ, sh1N, max_r]
      have ek : ((2 ^ k : Nat) : Int) = 2 ^ k := by simp
      have kp := Nat.pow_le_pow_right (show 0 < 2 by omega) (show k ≤ 16 by omega)
      have e16 : (2 : Nat) ^ 16 = 65536 := by decide
      have ms : (if (3 : Int) < 2 ^ k then 2 ^ k else 3) = ((max 3 (2 ^ k) : Nat) : Int) := by
        split <;> omega
      rw [ms]
      have iff : ∀ s, 0 < s → (hd4 q need s = true ↔ 2 ^ k ≤ s) := fun s s0 => by
        rw [hh s]
        constructor
        · intro z
          have := nb_ge s0
          have h2 := Nat.pow_le_pow_right (show 0 < 2 by omega) (show k ≤ nb s - 1 by omega)
          omega
        · intro z
          have : ¬ nb s ≤ k := fun y => by
            have := Nat.lt_of_lt_of_le (lt_nb s) (Nat.pow_le_pow_right (show 0 < 2 by omega) y)
            omega
          omega
      refine ⟨some (max 3 (2 ^ k)), rfl, by omega, by omega, (iff _ (by omega)).mpr (by omega), fun t t3 ts z => ?_⟩
      have := (iff t (by omega)).mp z
      omega
  obtain ⟨x, e, o, rfl, ho⟩ := ex_of_w key
  exact ⟨o, e, ho⟩
noncomputable def leastB (P T F H : List D → FRes) : SDen :=
 sSeq (sSet 2 (dCall P [dVar 0]))
 (sSeq (sIf (dOrT (dBool (dApp oIs [dVar 2, dC .non])) (dBool (dApp oLtI [dApp oIx [dApp oIx [dVar 0, dVar 2], dC (.int 0)], dC (.int 0)])))
 (sRet (dC .non))
 (sNext))
 (sSeq (sIf (dBool (dApp oEq [dVar 2, dC (.int 2)]))
 (sRet (dCall T [dVar 0, dVar 1]))
 (sNext))
 (sSeq (sIf (dBool (dApp oEq [dVar 2, dC (.int 3)]))
 (sRet (dCall F [dVar 0, dVar 1]))
 (sNext))
 (sSeq (sSet 3 (dC (.int 3)))
 (sSeq (sWhile (dNotT (dTru (dCall H [dVar 0, dVar 1, dVar 3])))
 (sSet 3 (dApp oAdd [dVar 3, dC (.int 1)])))
 (sRet (dIf (dBool (dApp oLe [dVar 3, dC (.int 100000)])) (dVar 3) (dC .non))))))))
def LeastE (A : List D → FRes) : Prop := ∀ (q : Nat → Rat) (need : Int), Sm q → nb need.natAbs ≤ 100 → ∃ o, A [fourD q, .int need] = .ok (.d (optN' o)) none ∧ Lst q need o
theorem optN'_s {k : Nat} : optN' (some k) = .int (k : Nat) := id rfl
theorem optN'_n : optN' none = .non := id rfl
theorem least_e {P T F H : List D → FRes} (hP : FirstE P) (hT : ThirdE T) (hF : FourthE F) (hH : HeldE H) : LeastE (runFn 4 2 false (leastB P T F H)) := by
  intro q need hq hn
  have key : wF0 (runFn 4 2 false (leastB P T F H) [fourD q, .int need]) (fun r => ∃ o, r = .d (optN' o) ∧ Lst q need o) fun _ => False := by
    refine w_run0 rfl ?_
    show wS (leastB P T F H [Sl.val (fourD q), .val (.int need), .no, .no]) _
    unfold leastB
    have hp := hP q
    cases hf : firstP q with
    | none =>
      rw [hf] at hp
      simp only [↓w_var, ↓wVar_val, ↓wVar_own, ↓w_c, ↓w_nil, ↓w_cons, ↓w_app, ↓wViews_nil, ↓wViews_cons, ↓wView_d, ↓wView_fresh, ↓wView_plc, ↓wSlot_val, ↓wSlot_own, ↓wEsc_d, ↓wEsc_fresh, ↓wEsc_plc, ↓wEscS_val, ↓wEscS_own, ↓wEscs_nil, ↓wEscs_cons, ↓w_frz, ↓w_tup, ↓w_lst, ↓w_bool, ↓w_tru, ↓w_notT, ↓w_andT, ↓w_orT, ↓w_if, ↓w_and, ↓w_or, ↓w_not, ↓w_chain, ↓wB_bl, ↓w_noPart, ↓w_part, ↓w_slice, ↓w_call, ↓wPlc_cons, ↓wOwn_own, ↓w_callIo, ↓isLst_lst, ↓w_meth, ↓w_ext, ↓wExt_ok, ↓ws_next, ↓ws_bk, ↓ws_ct, ↓ws_rt, ↓ws_nx, ↓ws_seq, ↓ws_drop, ↓ws_ret, ↓ws_if, ↓ws_set, ↓wSet_d, ↓wSet_fresh, ↓wSet_plc, ↓ws_asg, ↓wt_name, ↓wt_nil, ↓wt_cons, ↓wt_tup, ↓wt_lst, ↓wPar_two, ↓ws_par, ↓wLstS_own, ↓wInt_int, ↓ws_item, ↓ws_for, ↓w_zip, ↓w_iter, ↓wItems_lst, ↓wItems_tup, ↓w_rng, ↓wRet_d, ↓wRet_fresh, ↓wRet_plc, ↓wRetS_val, ↓wRetS_own, ↓wRetS_ownS, ↓wI_some, ↓wI_none, ↓wI_ite, List.getElem?_cons_zero, List.getElem?_cons_succ, List.set_cons_zero, List.set_cons_succ, hp, wF0_ok, optN'_s, optN'_n, o_is, DL.isNon, ↓reduceIte]
      refine ⟨none, rfl, fun s _ _ => ?_⟩
      unfold hd4
      rw [hf]
    | some f =>
      rw [hf] at hp
      obtain ⟨f4, fn⟩ := firstP_some hf
      by_cases neg : q f < 0
      · have neg' := neg_num.mpr neg
        simp (disch := assumption) only [↓w_var, ↓wVar_val, ↓wVar_own, ↓w_c, ↓w_nil, ↓w_cons, ↓w_app, ↓wViews_nil, ↓wViews_cons, ↓wView_d, ↓wView_fresh, ↓wView_plc, ↓wSlot_val, ↓wSlot_own, ↓wEsc_d, ↓wEsc_fresh, ↓wEsc_plc, ↓wEscS_val, ↓wEscS_own, ↓wEscs_nil, ↓wEscs_cons, ↓w_frz, ↓w_tup, ↓w_lst, ↓w_bool, ↓w_tru, ↓w_notT, ↓w_andT, ↓w_orT, ↓w_if, ↓w_and, ↓w_or, ↓w_not, ↓w_chain, ↓wB_bl, ↓w_noPart, ↓w_part, ↓w_slice, ↓w_call, ↓wPlc_cons, ↓wOwn_own, ↓w_callIo, ↓isLst_lst, ↓w_meth, ↓w_ext, ↓wExt_ok, ↓ws_next, ↓ws_bk, ↓ws_ct, ↓ws_rt, ↓ws_nx, ↓ws_seq, ↓ws_drop, ↓ws_ret, ↓ws_if, ↓ws_set, ↓wSet_d, ↓wSet_fresh, ↓wSet_plc, ↓ws_asg, ↓wt_name, ↓wt_nil, ↓wt_cons, ↓wt_tup, ↓wt_lst, ↓wPar_two, ↓ws_par, ↓wLstS_own, ↓wInt_int, ↓ws_item, ↓ws_for, ↓w_zip, ↓w_iter, ↓wItems_lst, ↓wItems_tup, ↓w_rng, ↓wRet_d, ↓wRet_fresh, ↓wRet_plc, ↓wRetS_val, ↓wRetS_own, ↓wRetS_ownS, ↓wI_some, ↓wI_none, ↓wI_ite, List.getElem?_cons_zero, List.getElem?_cons_succ, List.set_cons_zero, List.set_cons_succ, hp, wF0_ok, optN'_s, optN'_n, o_is, DL.isNon, Bool.false_eq_true, ↓reduceIte, four_ix, fr_ix0, o_lt, neg', decide_true]
        refine ⟨none, rfl, fun s _ _ => ?_⟩
        unfold hd4
        rw [hf]
        show (if q f < 0 then false else _) = false
        rw [if_pos neg]
      · have neg' : ¬ (q f).num < 0 := fun z => neg (neg_num.mp z)
        have xp : 0 < q f := by grind
        by_cases f2 : f = 2
        · subst f2
          obtain ⟨o, eo, ho⟩ := hT q need hq hn hf xp
          have c2 : ((2 : Nat) : Int) = 2 := rfl
          have i2 : ∀ {Q : RV → Prop}, wI (oIx [fourD q, .int 2]) Q = Q (.d (fr (q 2))) := fun {Q} => four_ix (k := 2) (by omega)
          simp (disch := assumption) only [i2, ↓w_var, ↓wVar_val, ↓wVar_own, ↓w_c, ↓w_nil, ↓w_cons, ↓w_app, ↓wViews_nil, ↓wViews_cons, ↓wView_d, ↓wView_fresh, ↓wView_plc, ↓wSlot_val, ↓wSlot_own, ↓wEsc_d, ↓wEsc_fresh, ↓wEsc_plc, ↓wEscS_val, ↓wEscS_own, ↓wEscs_nil, ↓wEscs_cons, ↓w_frz, ↓w_tup, ↓w_lst, ↓w_bool, ↓w_tru, ↓w_notT, ↓w_andT, ↓w_orT, ↓w_if, ↓w_and, ↓w_or, ↓w_not, ↓w_chain, ↓wB_bl, ↓w_noPart, ↓w_part, ↓w_slice, ↓w_call, ↓wPlc_cons, ↓wOwn_own, ↓w_callIo, ↓isLst_lst, ↓w_meth, ↓w_ext, ↓wExt_ok, ↓ws_next, ↓ws_bk, ↓ws_ct, ↓ws_rt, ↓ws_nx, ↓ws_seq, ↓ws_drop, ↓ws_ret, ↓ws_if, ↓ws_set, ↓wSet_d, ↓wSet_fresh, ↓wSet_plc, ↓ws_asg, ↓wt_name, ↓wt_nil, ↓wt_cons, ↓wt_tup, ↓wt_lst, ↓wPar_two, ↓ws_par, ↓wLstS_own, ↓wInt_int, ↓ws_item, ↓ws_for, ↓w_zip, ↓w_iter, ↓wItems_lst, ↓wItems_tup, ↓w_rng, ↓wRet_d, ↓wRet_fresh, ↓wRet_plc, ↓wRetS_val, ↓wRetS_own, ↓wRetS_ownS, ↓wI_some, ↓wI_none, ↓wI_ite, List.getElem?_cons_zero, List.getElem?_cons_succ, List.set_cons_zero, List.set_cons_succ, hp, wF0_ok, optN'_s, optN'_n, o_is, DL.isNon, Bool.false_eq_true, ↓reduceIte, four_ix, fr_ix0, o_lt, neg', decide_false, o_eqI, c2, decide_true, eo]
          exact ⟨o, rfl, ho⟩
        · have f2' : ¬ ((f : Nat) : Int) = 2 := by omega
          by_cases f3 : f = 3
          · subst f3
            obtain ⟨o, eo, ho⟩ := hF q need hq hn hf xp
            have c3 : ((3 : Nat) : Int) = 3 := rfl
            have c32 : ¬ (3 : Int) = 2 := by omega
            have i3 : ∀ {Q : RV → Prop}, wI (oIx [fourD q, .int 3]) Q = Q (.d (fr (q 3))) := fun {Q} => four_ix (k := 3) (by omega)
            simp (disch := assumption) only [i3, ↓w_var, ↓wVar_val, ↓wVar_own, ↓w_c, ↓w_nil, ↓w_cons, ↓w_app, ↓wViews_nil, ↓wViews_cons, ↓wView_d, ↓wView_fresh, ↓wView_plc, ↓wSlot_val, ↓wSlot_own, ↓wEsc_d, ↓wEsc_fresh, ↓wEsc_plc, ↓wEscS_val, ↓wEscS_own, ↓wEscs_nil, ↓wEscs_cons, ↓w_frz, ↓w_tup, ↓w_lst, ↓w_bool, ↓w_tru, ↓w_notT, ↓w_andT, ↓w_orT, ↓w_if, ↓w_and, ↓w_or, ↓w_not, ↓w_chain, ↓wB_bl, ↓w_noPart, ↓w_part, ↓w_slice, ↓w_call, ↓wPlc_cons, ↓wOwn_own, ↓w_callIo, ↓isLst_lst, ↓w_meth, ↓w_ext, ↓wExt_ok, ↓ws_next, ↓ws_bk, ↓ws_ct, ↓ws_rt, ↓ws_nx, ↓ws_seq, ↓ws_drop, ↓ws_ret, ↓ws_if, ↓ws_set, ↓wSet_d, ↓wSet_fresh, ↓wSet_plc, ↓ws_asg, ↓wt_name, ↓wt_nil, ↓wt_cons, ↓wt_tup, ↓wt_lst, ↓wPar_two, ↓ws_par, ↓wLstS_own, ↓wInt_int, ↓ws_item, ↓ws_for, ↓w_zip, ↓w_iter, ↓wItems_lst, ↓wItems_tup, ↓w_rng, ↓wRet_d, ↓wRet_fresh, ↓wRet_plc, ↓wRetS_val, ↓wRetS_own, ↓wRetS_ownS, ↓wI_some, ↓wI_none, ↓wI_ite, List.getElem?_cons_zero, List.getElem?_cons_succ, List.set_cons_zero, List.set_cons_succ, hp, wF0_ok, optN'_s, optN'_n, o_is, DL.isNon, Bool.false_eq_true, ↓reduceIte, four_ix, fr_ix0, o_lt, neg', decide_false, o_eqI, c3, c32, decide_true, eo]
            exact ⟨o, rfl, ho⟩
          · have f3' : ¬ ((f : Nat) : Int) = 3 := by omega
            have hs := soon hq hf (by omega) xp hn
            obtain ⟨s, hls, hle⟩ := lf_find (P := fun s => hd4 q need s = true) (k := 3) 597 hs
            simp (disch := assumption) only [↓w_var, ↓wVar_val, ↓wVar_own, ↓w_c, ↓w_nil, ↓w_cons, ↓w_app, ↓wViews_nil, ↓wViews_cons, ↓wView_d, ↓wView_fresh, ↓wView_plc, ↓wSlot_val, ↓wSlot_own, ↓wEsc_d, ↓wEsc_fresh, ↓wEsc_plc, ↓wEscS_val, ↓wEscS_own, ↓wEscs_nil, ↓wEscs_cons, ↓w_frz, ↓w_tup, ↓w_lst, ↓w_bool, ↓w_tru, ↓w_notT, ↓w_andT, ↓w_orT, ↓w_if, ↓w_and, ↓w_or, ↓w_not, ↓w_chain, ↓wB_bl, ↓w_noPart, ↓w_part, ↓w_slice, ↓w_call, ↓wPlc_cons, ↓wOwn_own, ↓w_callIo, ↓isLst_lst, ↓w_meth, ↓w_ext, ↓wExt_ok, ↓ws_next, ↓ws_bk, ↓ws_ct, ↓ws_rt, ↓ws_nx, ↓ws_seq, ↓ws_drop, ↓ws_ret, ↓ws_if, ↓ws_set, ↓wSet_d, ↓wSet_fresh, ↓wSet_plc, ↓ws_asg, ↓wt_name, ↓wt_nil, ↓wt_cons, ↓wt_tup, ↓wt_lst, ↓wPar_two, ↓ws_par, ↓wLstS_own, ↓wInt_int, ↓ws_item, ↓ws_for, ↓w_zip, ↓w_iter, ↓wItems_lst, ↓wItems_tup, ↓w_rng, ↓wRet_d, ↓wRet_fresh, ↓wRet_plc, ↓wRetS_val, ↓wRetS_own, ↓wRetS_ownS, ↓wI_some, ↓wI_none, ↓wI_ite, List.getElem?_cons_zero, List.getElem?_cons_succ, List.set_cons_zero, List.set_cons_succ, hp, wF0_ok, optN'_s, optN'_n, o_is, DL.isNon, Bool.false_eq_true, ↓reduceIte, four_ix, fr_ix0, o_lt, neg', decide_false, o_eqI, f2', f3']
            refine while_inv (fun n ρ => ∃ k : Nat, 3 ≤ k ∧ k ≤ s ∧ n = s - k ∧ ρ = [Sl.val (fourD q), .val (.int need), .val (.int (f : Nat)), .val (.int (k : Nat))]) (n := s - 3) ⟨3, by omega, hls.1, rfl, rfl⟩ ?_
            rintro n ρ ⟨k, k3, ks, rfl, rfl⟩
            have hk := hH q need k hq hn k3 (by omega)
            simp only [↓w_var, ↓wVar_val, ↓wVar_own, ↓w_c, ↓w_nil, ↓w_cons, ↓w_app, ↓wViews_nil, ↓wViews_cons, ↓wView_d, ↓wView_fresh, ↓wView_plc, ↓wSlot_val, ↓wSlot_own, ↓wEsc_d, ↓wEsc_fresh, ↓wEsc_plc, ↓wEscS_val, ↓wEscS_own, ↓wEscs_nil, ↓wEscs_cons, ↓w_frz, ↓w_tup, ↓w_lst, ↓w_bool, ↓w_tru, ↓w_notT, ↓w_andT, ↓w_orT, ↓w_if, ↓w_and, ↓w_or, ↓w_not, ↓w_chain, ↓wB_bl, ↓w_noPart, ↓w_part, ↓w_slice, ↓w_call, ↓wPlc_cons, ↓wOwn_own, ↓w_callIo, ↓isLst_lst, ↓w_meth, ↓w_ext, ↓wExt_ok, ↓ws_next, ↓ws_bk, ↓ws_ct, ↓ws_rt, ↓ws_nx, ↓ws_seq, ↓ws_drop, ↓ws_ret, ↓ws_if, ↓ws_set, ↓wSet_d, ↓wSet_fresh, ↓wSet_plc, ↓ws_asg, ↓wt_name, ↓wt_nil, ↓wt_cons, ↓wt_tup, ↓wt_lst, ↓wPar_two, ↓ws_par, ↓wLstS_own, ↓wInt_int, ↓ws_item, ↓ws_for, ↓w_zip, ↓w_iter, ↓wItems_lst, ↓wItems_tup, ↓w_rng, ↓wRet_d, ↓wRet_fresh, ↓wRet_plc, ↓wRetS_val, ↓wRetS_own, ↓wRetS_ownS, ↓wI_some, ↓wI_none, ↓wI_ite, List.getElem?_cons_zero, List.getElem?_cons_succ, List.set_cons_zero, List.set_cons_succ, hk, wF0_ok, tru_bl]
            by_cases ek : k = s
            · subst ek
              have ht : hd4 q need k = true := hls.2.1
              rw [ht]
              have k1 : ((k : Nat) : Int) ≤ 100000 := by omega
              simp only [Bool.not_true, Bool.false_eq_true, ↓reduceIte, ↓w_var, ↓wVar_val, ↓wVar_own, ↓w_c, ↓w_nil, ↓w_cons, ↓w_app, ↓wViews_nil, ↓wViews_cons, ↓wView_d, ↓wView_fresh, ↓wView_plc, ↓wSlot_val, ↓wSlot_own, ↓wEsc_d, ↓wEsc_fresh, ↓wEsc_plc, ↓wEscS_val, ↓wEscS_own, ↓wEscs_nil, ↓wEscs_cons, ↓w_frz, ↓w_tup, ↓w_lst, ↓w_bool, ↓w_tru, ↓w_notT, ↓w_andT, ↓w_orT, ↓w_if, ↓w_and, ↓w_or, ↓w_not, ↓w_chain, ↓wB_bl, ↓w_noPart, ↓w_part, ↓w_slice, ↓w_call, ↓wPlc_cons, ↓wOwn_own, ↓w_callIo, ↓isLst_lst, ↓w_meth, ↓w_ext, ↓wExt_ok, ↓ws_next, ↓ws_bk, ↓ws_ct, ↓ws_rt, ↓ws_nx, ↓ws_seq, ↓ws_drop, ↓ws_ret, ↓ws_if, ↓ws_set, ↓wSet_d, ↓wSet_fresh, ↓wSet_plc, ↓ws_asg, ↓wt_name, ↓wt_nil, ↓wt_cons, ↓wt_tup, ↓wt_lst, ↓wPar_two, ↓ws_par, ↓wLstS_own, ↓wInt_int, ↓ws_item, ↓ws_for, ↓w_zip, ↓w_iter, ↓wItems_lst, ↓wItems_tup, ↓w_rng, ↓wRet_d, ↓wRet_fresh, ↓wRet_plc, ↓wRetS_val, ↓wRetS_own, ↓wRetS_ownS, ↓wI_some, ↓wI_none, ↓wI_ite, List.getElem?_cons_zero, List.getElem?_cons_succ, List.set_cons_zero, List.set_cons_succ, o_le, k1, decide_true]
              exact ⟨some k, rfl, by omega, hls⟩
            · have hfk : hd4 q need k = false := by
                cases hh : hd4 q need k with
                | false => rfl
                | true => exact absurd hh (hls.2.2 k k3 (by omega))
              rw [hfk]
              simp only [Bool.not_false, ↓reduceIte, ↓w_var, ↓wVar_val, ↓wVar_own, ↓w_c, ↓w_nil, ↓w_cons, ↓w_app, ↓wViews_nil, ↓wViews_cons, ↓wView_d, ↓wView_fresh, ↓wView_plc, ↓wSlot_val, ↓wSlot_own, ↓wEsc_d, ↓wEsc_fresh, ↓wEsc_plc, ↓wEscS_val, ↓wEscS_own, ↓wEscs_nil, ↓wEscs_cons, ↓w_frz, ↓w_tup, ↓w_lst, ↓w_bool, ↓w_tru, ↓w_notT, ↓w_andT, ↓w_orT, ↓w_if, ↓w_and, ↓w_or, ↓w_not, ↓w_chain, ↓wB_bl, ↓w_noPart, ↓w_part, ↓w_slice, ↓w_call, ↓wPlc_cons, ↓wOwn_own, ↓w_callIo, ↓isLst_lst, ↓w_meth, ↓w_ext, ↓wExt_ok, ↓ws_next, ↓ws_bk, ↓ws_ct, ↓ws_rt, ↓ws_nx, ↓ws_seq, ↓ws_drop, ↓ws_ret, ↓ws_if, ↓ws_set, ↓wSet_d, ↓wSet_fresh, ↓wSet_plc, ↓ws_asg, ↓wt_name, ↓wt_nil, ↓wt_cons, ↓wt_tup, ↓wt_lst, ↓wPar_two, ↓ws_par, ↓wLstS_own, ↓wInt_int, ↓ws_item, ↓ws_for, ↓w_zip, ↓w_iter, ↓wItems_lst, ↓wItems_tup, ↓w_rng, ↓wRet_d, ↓wRet_fresh, ↓wRet_plc, ↓wRetS_val, ↓wRetS_own, ↓wRetS_ownS, ↓wI_some, ↓wI_none, ↓wI_ite, List.getElem?_cons_zero, List.getElem?_cons_succ, List.set_cons_zero, List.set_cons_succ, o_add]
              exact ⟨s - (k + 1), by omega, k + 1, by omega, by omega, rfl, rfl⟩
  obtain ⟨x, e, o, rfl, ho⟩ := ex_of_w key
  exact ⟨o, e, ho⟩
end DL
set_option maxHeartbeats 4000000
/-! DL, part 37: four fractions otherwise drawn; such as a level soon holds. -/
namespace DL
open PySem PySem.Spec PyProof.Rows L2
noncomputable def four2B (U N P W : List D → FRes) : SDen :=
 sSeq (sSet 1 (dComp [3] (dRng [dC (.int 4)]) (tName 3) (dYes) (dCallIo U [dVar 0])))
 (sSeq (sIf (dBool (dApp oEq [dCallIo N [dVar 0, dC (.int 5)], dC (.int 0)]))
 (sSeq (sSet 2 (dCallIo N [dVar 0, dC (.int 4)]))
 (sItem 1 (dVar 2) (dCall P [dApp oAdd [dC (.int 1), dCallIo W [dVar 0, dC (.int 3)]], dApp oAdd [dC (.int 1), dCallIo W [dVar 0, dC (.int 3)]]])))
 (sNext))
 (sSeq (sFor (dRng [dCallIo N [dVar 0, dC (.int 4)]]) (tName 3)
 (sItem 1 (dVar 3) (dTup [dC (.int 0), dC (.int 1)])))
 (sRet (dApp oTuple [dVar 1]))))
theorem setF_ok {l : List D} {k : Nat} {x : Rat} (h : ∀ d ∈ l, ∃ y, d = fr y ∧ rb y ≤ 200) (hx : rb x ≤ 200) : ∀ d ∈ l.set k (fr x), ∃ y, d = fr y ∧ rb y ≤ 200 := fun d hd => by
  rcases List.mem_or_eq_of_mem_set hd with hd | hd
  · exact h d hd
  · exact ⟨x, hd, hx⟩
theorem four2_s {U N P W : List D → FRes} (hU : UpS U) (hN : NextS N) (hP : FractionE P) (hW : WideS W) : FourS (runFn 4 1 true (four2B U N P W)) := by
  intro b f Q E hf hb h
  refine w_run1 rfl ?_
  show wS (four2B _ _ _ _ [Sl.own f, .no, .no, .no]) _
  unfold four2B
  have r4 : (rangeD 0 4).length = 4 := rfl
  refine ws_cut (fun ρ => ∃ (l : List D) (f : D), l.length = 4 ∧ (∀ d ∈ l, ∃ x, d = fr x ∧ rb x ≤ 200) ∧ Fd (b + 8) f ∧ ρ = [Sl.own f, .own (.lst l), .no, .no]) ?_ ?_
  · rw [ws_set]
    refine comp_feed (k := 2) (s := 0) (fun d => ∃ x, d = fr x ∧ rb x ≤ 200) ?_
    simp only [↓w_var, ↓wVar_val, ↓wVar_own, ↓w_c, ↓w_nil, ↓w_cons, ↓w_app, ↓wViews_nil, ↓wViews_cons, ↓wView_d, ↓wView_fresh, ↓wView_plc, ↓wSlot_val, ↓wSlot_own, ↓wEsc_d, ↓wEsc_fresh, ↓wEsc_plc, ↓wEscS_val, ↓wEscS_own, ↓wEscs_nil, ↓wEscs_cons, ↓w_frz, ↓w_tup, ↓w_lst, ↓w_bool, ↓w_tru, ↓w_notT, ↓w_andT, ↓w_orT, ↓w_if, ↓w_and, ↓w_or, ↓w_not, ↓w_chain, ↓wB_bl, ↓w_noPart, ↓w_part, ↓w_slice, ↓w_call, ↓wPlc_cons, ↓wOwn_own, ↓w_callIo, ↓isLst_lst, ↓w_meth, ↓w_ext, ↓wExt_ok, ↓ws_next, ↓ws_bk, ↓ws_ct, ↓ws_rt, ↓ws_nx, ↓ws_seq, ↓ws_drop, ↓ws_ret, ↓ws_if, ↓ws_set, ↓wSet_d, ↓wSet_fresh, ↓wSet_plc, ↓ws_asg, ↓wt_name, ↓wt_nil, ↓wt_cons, ↓wt_tup, ↓wt_lst, ↓wPar_two, ↓ws_par, ↓wLstS_own, ↓wInt_int, ↓ws_item, ↓ws_for, ↓w_zip, ↓w_iter, ↓wItems_lst, ↓wItems_tup, ↓w_rng, ↓wRet_d, ↓wRet_fresh, ↓wRet_plc, ↓wRetS_val, ↓wRetS_own, ↓wRetS_ownS, ↓wI_some, ↓wI_none, ↓wI_ite, List.getElem?_cons_zero, List.getElem?_cons_succ, List.set_cons_zero, List.set_cons_succ, intsR1, rng4]
    refine ⟨by rw [r4]; omega, by omega, b, f, rfl, hf, fun d _ b' f' hb' hf' => ?_, fun l f' hl hl2 hf' => ?_⟩
    · rw [r4] at hb'
      try simp only [↓w_var, ↓wVar_val, ↓wVar_own, ↓w_c, ↓w_nil, ↓w_cons, ↓w_app, ↓wViews_nil, ↓wViews_cons, ↓wView_d, ↓wView_fresh, ↓wView_plc, ↓wSlot_val, ↓wSlot_own, ↓wEsc_d, ↓wEsc_fresh, ↓wEsc_plc, ↓wEscS_val, ↓wEscS_own, ↓wEscs_nil, ↓wEscs_cons, ↓w_frz, ↓w_tup, ↓w_lst, ↓w_bool, ↓w_tru, ↓w_notT, ↓w_andT, ↓w_orT, ↓w_if, ↓w_and, ↓w_or, ↓w_not, ↓w_chain, ↓wB_bl, ↓w_noPart, ↓w_part, ↓w_slice, ↓w_call, ↓wPlc_cons, ↓wOwn_own, ↓w_callIo, ↓isLst_lst, ↓w_meth, ↓w_ext, ↓wExt_ok, ↓ws_next, ↓ws_bk, ↓ws_ct, ↓ws_rt, ↓ws_nx, ↓ws_seq, ↓ws_drop, ↓ws_ret, ↓ws_if, ↓ws_set, ↓wSet_d, ↓wSet_fresh, ↓wSet_plc, ↓ws_asg, ↓wt_name, ↓wt_nil, ↓wt_cons, ↓wt_tup, ↓wt_lst, ↓wPar_two, ↓ws_par, ↓wLstS_own, ↓wInt_int, ↓ws_item, ↓ws_for, ↓w_zip, ↓w_iter, ↓wItems_lst, ↓wItems_tup, ↓w_rng, ↓wRet_d, ↓wRet_fresh, ↓wRet_plc, ↓wRetS_val, ↓wRetS_own, ↓wRetS_ownS, ↓wI_some, ↓wI_none, ↓wI_ite, List.getElem?_cons_zero, List.getElem?_cons_succ, List.set_cons_zero, List.set_cons_succ]
      refine hU _ _ _ _ hf' (by omega) fun x f1 hf1 hx => ?_
      simp only [↓w_var, ↓wVar_val, ↓wVar_own, ↓w_c, ↓w_nil, ↓w_cons, ↓w_app, ↓wViews_nil, ↓wViews_cons, ↓wView_d, ↓wView_fresh, ↓wView_plc, ↓wSlot_val, ↓wSlot_own, ↓wEsc_d, ↓wEsc_fresh, ↓wEsc_plc, ↓wEscS_val, ↓wEscS_own, ↓wEscs_nil, ↓wEscs_cons, ↓w_frz, ↓w_tup, ↓w_lst, ↓w_bool, ↓w_tru, ↓w_notT, ↓w_andT, ↓w_orT, ↓w_if, ↓w_and, ↓w_or, ↓w_not, ↓w_chain, ↓wB_bl, ↓w_noPart, ↓w_part, ↓w_slice, ↓w_call, ↓wPlc_cons, ↓wOwn_own, ↓w_callIo, ↓isLst_lst, ↓w_meth, ↓w_ext, ↓wExt_ok, ↓ws_next, ↓ws_bk, ↓ws_ct, ↓ws_rt, ↓ws_nx, ↓ws_seq, ↓ws_drop, ↓ws_ret, ↓ws_if, ↓ws_set, ↓wSet_d, ↓wSet_fresh, ↓wSet_plc, ↓ws_asg, ↓wt_name, ↓wt_nil, ↓wt_cons, ↓wt_tup, ↓wt_lst, ↓wPar_two, ↓ws_par, ↓wLstS_own, ↓wInt_int, ↓ws_item, ↓ws_for, ↓w_zip, ↓w_iter, ↓wItems_lst, ↓wItems_tup, ↓w_rng, ↓wRet_d, ↓wRet_fresh, ↓wRet_plc, ↓wRetS_val, ↓wRetS_own, ↓wRetS_ownS, ↓wI_some, ↓wI_none, ↓wI_ite, List.getElem?_cons_zero, List.getElem?_cons_succ, List.set_cons_zero, List.set_cons_succ]
      exact ⟨⟨x, rfl, by omega⟩, f1, hf1.mono (by omega), rfl⟩
    · rw [r4] at hl hf'
      try simp only [↓w_var, ↓wVar_val, ↓wVar_own, ↓w_c, ↓w_nil, ↓w_cons, ↓w_app, ↓wViews_nil, ↓wViews_cons, ↓wView_d, ↓wView_fresh, ↓wView_plc, ↓wSlot_val, ↓wSlot_own, ↓wEsc_d, ↓wEsc_fresh, ↓wEsc_plc, ↓wEscS_val, ↓wEscS_own, ↓wEscs_nil, ↓wEscs_cons, ↓w_frz, ↓w_tup, ↓w_lst, ↓w_bool, ↓w_tru, ↓w_notT, ↓w_andT, ↓w_orT, ↓w_if, ↓w_and, ↓w_or, ↓w_not, ↓w_chain, ↓wB_bl, ↓w_noPart, ↓w_part, ↓w_slice, ↓w_call, ↓wPlc_cons, ↓wOwn_own, ↓w_callIo, ↓isLst_lst, ↓w_meth, ↓w_ext, ↓wExt_ok, ↓ws_next, ↓ws_bk, ↓ws_ct, ↓ws_rt, ↓ws_nx, ↓ws_seq, ↓ws_drop, ↓ws_ret, ↓ws_if, ↓ws_set, ↓wSet_d, ↓wSet_fresh, ↓wSet_plc, ↓ws_asg, ↓wt_name, ↓wt_nil, ↓wt_cons, ↓wt_tup, ↓wt_lst, ↓wPar_two, ↓ws_par, ↓wLstS_own, ↓wInt_int, ↓ws_item, ↓ws_for, ↓w_zip, ↓w_iter, ↓wItems_lst, ↓wItems_tup, ↓w_rng, ↓wRet_d, ↓wRet_fresh, ↓wRet_plc, ↓wRetS_val, ↓wRetS_own, ↓wRetS_ownS, ↓wI_some, ↓wI_none, ↓wI_ite, List.getElem?_cons_zero, List.getElem?_cons_succ, List.set_cons_zero, List.set_cons_succ]
      exact ⟨l, f', hl, hl2, hf', rfl⟩
  rintro _ ⟨l, f, hl, hl2, hf, rfl⟩
  refine ws_cut (fun ρ => ∃ (l : List D) (f : D) (z : Sl), l.length = 4 ∧ (∀ d ∈ l, ∃ x, d = fr x ∧ rb x ≤ 200) ∧ Fd (b + 1000) f ∧ ρ = [Sl.own f, .own (.lst l), z, .no]) ?_ ?_
  · simp only [↓w_var, ↓wVar_val, ↓wVar_own, ↓w_c, ↓w_nil, ↓w_cons, ↓w_app, ↓wViews_nil, ↓wViews_cons, ↓wView_d, ↓wView_fresh, ↓wView_plc, ↓wSlot_val, ↓wSlot_own, ↓wEsc_d, ↓wEsc_fresh, ↓wEsc_plc, ↓wEscS_val, ↓wEscS_own, ↓wEscs_nil, ↓wEscs_cons, ↓w_frz, ↓w_tup, ↓w_lst, ↓w_bool, ↓w_tru, ↓w_notT, ↓w_andT, ↓w_orT, ↓w_if, ↓w_and, ↓w_or, ↓w_not, ↓w_chain, ↓wB_bl, ↓w_noPart, ↓w_part, ↓w_slice, ↓w_call, ↓wPlc_cons, ↓wOwn_own, ↓w_callIo, ↓isLst_lst, ↓w_meth, ↓w_ext, ↓wExt_ok, ↓ws_next, ↓ws_bk, ↓ws_ct, ↓ws_rt, ↓ws_nx, ↓ws_seq, ↓ws_drop, ↓ws_ret, ↓ws_if, ↓ws_set, ↓wSet_d, ↓wSet_fresh, ↓wSet_plc, ↓ws_asg, ↓wt_name, ↓wt_nil, ↓wt_cons, ↓wt_tup, ↓wt_lst, ↓wPar_two, ↓ws_par, ↓wLstS_own, ↓wInt_int, ↓ws_item, ↓ws_for, ↓w_zip, ↓w_iter, ↓wItems_lst, ↓wItems_tup, ↓w_rng, ↓wRet_d, ↓wRet_fresh, ↓wRet_plc, ↓wRetS_val, ↓wRetS_own, ↓wRetS_ownS, ↓wI_some, ↓wI_none, ↓wI_ite, List.getElem?_cons_zero, List.getElem?_cons_succ, List.set_cons_zero, List.set_cons_succ]
    refine hN _ _ _ _ _ hf (by omega) (by omega) (by omega) fun r f1 hf1 r0 r1 => ?_
    simp only [↓w_var, ↓wVar_val, ↓wVar_own, ↓w_c, ↓w_nil, ↓w_cons, ↓w_app, ↓wViews_nil, ↓wViews_cons, ↓wView_d, ↓wView_fresh, ↓wView_plc, ↓wSlot_val, ↓wSlot_own, ↓wEsc_d, ↓wEsc_fresh, ↓wEsc_plc, ↓wEscS_val, ↓wEscS_own, ↓wEscs_nil, ↓wEscs_cons, ↓w_frz, ↓w_tup, ↓w_lst, ↓w_bool, ↓w_tru, ↓w_notT, ↓w_andT, ↓w_orT, ↓w_if, ↓w_and, ↓w_or, ↓w_not, ↓w_chain, ↓wB_bl, ↓w_noPart, ↓w_part, ↓w_slice, ↓w_call, ↓wPlc_cons, ↓wOwn_own, ↓w_callIo, ↓isLst_lst, ↓w_meth, ↓w_ext, ↓wExt_ok, ↓ws_next, ↓ws_bk, ↓ws_ct, ↓ws_rt, ↓ws_nx, ↓ws_seq, ↓ws_drop, ↓ws_ret, ↓ws_if, ↓ws_set, ↓wSet_d, ↓wSet_fresh, ↓wSet_plc, ↓ws_asg, ↓wt_name, ↓wt_nil, ↓wt_cons, ↓wt_tup, ↓wt_lst, ↓wPar_two, ↓ws_par, ↓wLstS_own, ↓wInt_int, ↓ws_item, ↓ws_for, ↓w_zip, ↓w_iter, ↓wItems_lst, ↓wItems_tup, ↓w_rng, ↓wRet_d, ↓wRet_fresh, ↓wRet_plc, ↓wRetS_val, ↓wRetS_own, ↓wRetS_ownS, ↓wI_some, ↓wI_none, ↓wI_ite, List.getElem?_cons_zero, List.getElem?_cons_succ, List.set_cons_zero, List.set_cons_succ, o_eqI, decide_eq_true_eq]
    split
    · try simp only [↓w_var, ↓wVar_val, ↓wVar_own, ↓w_c, ↓w_nil, ↓w_cons, ↓w_app, ↓wViews_nil, ↓wViews_cons, ↓wView_d, ↓wView_fresh, ↓wView_plc, ↓wSlot_val, ↓wSlot_own, ↓wEsc_d, ↓wEsc_fresh, ↓wEsc_plc, ↓wEscS_val, ↓wEscS_own, ↓wEscs_nil, ↓wEscs_cons, ↓w_frz, ↓w_tup, ↓w_lst, ↓w_bool, ↓w_tru, ↓w_notT, ↓w_andT, ↓w_orT, ↓w_if, ↓w_and, ↓w_or, ↓w_not, ↓w_chain, ↓wB_bl, ↓w_noPart, ↓w_part, ↓w_slice, ↓w_call, ↓wPlc_cons, ↓wOwn_own, ↓w_callIo, ↓isLst_lst, ↓w_meth, ↓w_ext, ↓wExt_ok, ↓ws_next, ↓ws_bk, ↓ws_ct, ↓ws_rt, ↓ws_nx, ↓ws_seq, ↓ws_drop, ↓ws_ret, ↓ws_if, ↓ws_set, ↓wSet_d, ↓wSet_fresh, ↓wSet_plc, ↓ws_asg, ↓wt_name, ↓wt_nil, ↓wt_cons, ↓wt_tup, ↓wt_lst, ↓wPar_two, ↓ws_par, ↓wLstS_own, ↓wInt_int, ↓ws_item, ↓ws_for, ↓w_zip, ↓w_iter, ↓wItems_lst, ↓wItems_tup, ↓w_rng, ↓wRet_d, ↓wRet_fresh, ↓wRet_plc, ↓wRetS_val, ↓wRetS_own, ↓wRetS_ownS, ↓wI_some, ↓wI_none, ↓wI_ite, List.getElem?_cons_zero, List.getElem?_cons_succ, List.set_cons_zero, List.set_cons_succ]
      refine hN _ _ _ _ _ hf1 (by omega) (by omega) (by omega) fun t f2 hf2 t0 t1 => ?_
      simp only [↓w_var, ↓wVar_val, ↓wVar_own, ↓w_c, ↓w_nil, ↓w_cons, ↓w_app, ↓wViews_nil, ↓wViews_cons, ↓wView_d, ↓wView_fresh, ↓wView_plc, ↓wSlot_val, ↓wSlot_own, ↓wEsc_d, ↓wEsc_fresh, ↓wEsc_plc, ↓wEscS_val, ↓wEscS_own, ↓wEscs_nil, ↓wEscs_cons, ↓w_frz, ↓w_tup, ↓w_lst, ↓w_bool, ↓w_tru, ↓w_notT, ↓w_andT, ↓w_orT, ↓w_if, ↓w_and, ↓w_or, ↓w_not, ↓w_chain, ↓wB_bl, ↓w_noPart, ↓w_part, ↓w_slice, ↓w_call, ↓wPlc_cons, ↓wOwn_own, ↓w_callIo, ↓isLst_lst, ↓w_meth, ↓w_ext, ↓wExt_ok, ↓ws_next, ↓ws_bk, ↓ws_ct, ↓ws_rt, ↓ws_nx, ↓ws_seq, ↓ws_drop, ↓ws_ret, ↓ws_if, ↓ws_set, ↓wSet_d, ↓wSet_fresh, ↓wSet_plc, ↓ws_asg, ↓wt_name, ↓wt_nil, ↓wt_cons, ↓wt_tup, ↓wt_lst, ↓wPar_two, ↓ws_par, ↓wLstS_own, ↓wInt_int, ↓ws_item, ↓ws_for, ↓w_zip, ↓w_iter, ↓wItems_lst, ↓wItems_tup, ↓w_rng, ↓wRet_d, ↓wRet_fresh, ↓wRet_plc, ↓wRetS_val, ↓wRetS_own, ↓wRetS_ownS, ↓wI_some, ↓wI_none, ↓wI_ite, List.getElem?_cons_zero, List.getElem?_cons_succ, List.set_cons_zero, List.set_cons_succ]
      refine hW _ _ 3 _ _ hf2 (by omega) (by omega) (by omega) fun p f3 hf3 p0 hp => ?_
      simp only [↓w_var, ↓wVar_val, ↓wVar_own, ↓w_c, ↓w_nil, ↓w_cons, ↓w_app, ↓wViews_nil, ↓wViews_cons, ↓wView_d, ↓wView_fresh, ↓wView_plc, ↓wSlot_val, ↓wSlot_own, ↓wEsc_d, ↓wEsc_fresh, ↓wEsc_plc, ↓wEscS_val, ↓wEscS_own, ↓wEscs_nil, ↓wEscs_cons, ↓w_frz, ↓w_tup, ↓w_lst, ↓w_bool, ↓w_tru, ↓w_notT, ↓w_andT, ↓w_orT, ↓w_if, ↓w_and, ↓w_or, ↓w_not, ↓w_chain, ↓wB_bl, ↓w_noPart, ↓w_part, ↓w_slice, ↓w_call, ↓wPlc_cons, ↓wOwn_own, ↓w_callIo, ↓isLst_lst, ↓w_meth, ↓w_ext, ↓wExt_ok, ↓ws_next, ↓ws_bk, ↓ws_ct, ↓ws_rt, ↓ws_nx, ↓ws_seq, ↓ws_drop, ↓ws_ret, ↓ws_if, ↓ws_set, ↓wSet_d, ↓wSet_fresh, ↓wSet_plc, ↓ws_asg, ↓wt_name, ↓wt_nil, ↓wt_cons, ↓wt_tup, ↓wt_lst, ↓wPar_two, ↓ws_par, ↓wLstS_own, ↓wInt_int, ↓ws_item, ↓ws_for, ↓w_zip, ↓w_iter, ↓wItems_lst, ↓wItems_tup, ↓w_rng, ↓wRet_d, ↓wRet_fresh, ↓wRet_plc, ↓wRetS_val, ↓wRetS_own, ↓wRetS_ownS, ↓wI_some, ↓wI_none, ↓wI_ite, List.getElem?_cons_zero, List.getElem?_cons_succ, List.set_cons_zero, List.set_cons_succ, o_add]
      refine hW _ _ 3 _ _ hf3 (by omega) (by omega) (by omega) fun q f4 hf4 q0 hq => ?_
      have b1 := nb_iadd 1 p
      have b2 := nb_iadd 1 q
      have n1 : nb (1 : Int).natAbs = 1 := by decide
      simp only [↓w_var, ↓wVar_val, ↓wVar_own, ↓w_c, ↓w_nil, ↓w_cons, ↓w_app, ↓wViews_nil, ↓wViews_cons, ↓wView_d, ↓wView_fresh, ↓wView_plc, ↓wSlot_val, ↓wSlot_own, ↓wEsc_d, ↓wEsc_fresh, ↓wEsc_plc, ↓wEscS_val, ↓wEscS_own, ↓wEscs_nil, ↓wEscs_cons, ↓w_frz, ↓w_tup, ↓w_lst, ↓w_bool, ↓w_tru, ↓w_notT, ↓w_andT, ↓w_orT, ↓w_if, ↓w_and, ↓w_or, ↓w_not, ↓w_chain, ↓wB_bl, ↓w_noPart, ↓w_part, ↓w_slice, ↓w_call, ↓wPlc_cons, ↓wOwn_own, ↓w_callIo, ↓isLst_lst, ↓w_meth, ↓w_ext, ↓wExt_ok, ↓ws_next, ↓ws_bk, ↓ws_ct, ↓ws_rt, ↓ws_nx, ↓ws_seq, ↓ws_drop, ↓ws_ret, ↓ws_if, ↓ws_set, ↓wSet_d, ↓wSet_fresh, ↓wSet_plc, ↓ws_asg, ↓wt_name, ↓wt_nil, ↓wt_cons, ↓wt_tup, ↓wt_lst, ↓wPar_two, ↓ws_par, ↓wLstS_own, ↓wInt_int, ↓ws_item, ↓ws_for, ↓w_zip, ↓w_iter, ↓wItems_lst, ↓wItems_tup, ↓w_rng, ↓wRet_d, ↓wRet_fresh, ↓wRet_plc, ↓wRetS_val, ↓wRetS_own, ↓wRetS_ownS, ↓wI_some, ↓wI_none, ↓wI_ite, List.getElem?_cons_zero, List.getElem?_cons_succ, List.set_cons_zero, List.set_cons_succ, o_add]
      rw [hP _ _ (by omega) (by omega)]
      obtain ⟨k, rfl⟩ := Int.eq_ofNat_of_zero_le t0
      have hk : k < l.length := by omega
      simp only [wF0_ok, ↓w_var, ↓wVar_val, ↓wVar_own, ↓w_c, ↓w_nil, ↓w_cons, ↓w_app, ↓wViews_nil, ↓wViews_cons, ↓wView_d, ↓wView_fresh, ↓wView_plc, ↓wSlot_val, ↓wSlot_own, ↓wEsc_d, ↓wEsc_fresh, ↓wEsc_plc, ↓wEscS_val, ↓wEscS_own, ↓wEscs_nil, ↓wEscs_cons, ↓w_frz, ↓w_tup, ↓w_lst, ↓w_bool, ↓w_tru, ↓w_notT, ↓w_andT, ↓w_orT, ↓w_if, ↓w_and, ↓w_or, ↓w_not, ↓w_chain, ↓wB_bl, ↓w_noPart, ↓w_part, ↓w_slice, ↓w_call, ↓wPlc_cons, ↓wOwn_own, ↓w_callIo, ↓isLst_lst, ↓w_meth, ↓w_ext, ↓wExt_ok, ↓ws_next, ↓ws_bk, ↓ws_ct, ↓ws_rt, ↓ws_nx, ↓ws_seq, ↓ws_drop, ↓ws_ret, ↓ws_if, ↓ws_set, ↓wSet_d, ↓wSet_fresh, ↓wSet_plc, ↓ws_asg, ↓wt_name, ↓wt_nil, ↓wt_cons, ↓wt_tup, ↓wt_lst, ↓wPar_two, ↓ws_par, ↓wLstS_own, ↓wInt_int, ↓ws_item, ↓ws_for, ↓w_zip, ↓w_iter, ↓wItems_lst, ↓wItems_tup, ↓w_rng, ↓wRet_d, ↓wRet_fresh, ↓wRet_plc, ↓wRetS_val, ↓wRetS_own, ↓wRetS_ownS, ↓wI_some, ↓wI_none, ↓wI_ite, List.getElem?_cons_zero, List.getElem?_cons_succ, List.set_cons_zero, List.set_cons_succ]
      rw [ixN_nat hk]
      simp only [↓w_var, ↓wVar_val, ↓wVar_own, ↓w_c, ↓w_nil, ↓w_cons, ↓w_app, ↓wViews_nil, ↓wViews_cons, ↓wView_d, ↓wView_fresh, ↓wView_plc, ↓wSlot_val, ↓wSlot_own, ↓wEsc_d, ↓wEsc_fresh, ↓wEsc_plc, ↓wEscS_val, ↓wEscS_own, ↓wEscs_nil, ↓wEscs_cons, ↓w_frz, ↓w_tup, ↓w_lst, ↓w_bool, ↓w_tru, ↓w_notT, ↓w_andT, ↓w_orT, ↓w_if, ↓w_and, ↓w_or, ↓w_not, ↓w_chain, ↓wB_bl, ↓w_noPart, ↓w_part, ↓w_slice, ↓w_call, ↓wPlc_cons, ↓wOwn_own, ↓w_callIo, ↓isLst_lst, ↓w_meth, ↓w_ext, ↓wExt_ok, ↓ws_next, ↓ws_bk, ↓ws_ct, ↓ws_rt, ↓ws_nx, ↓ws_seq, ↓ws_drop, ↓ws_ret, ↓ws_if, ↓ws_set, ↓wSet_d, ↓wSet_fresh, ↓wSet_plc, ↓ws_asg, ↓wt_name, ↓wt_nil, ↓wt_cons, ↓wt_tup, ↓wt_lst, ↓wPar_two, ↓ws_par, ↓wLstS_own, ↓wInt_int, ↓ws_item, ↓ws_for, ↓w_zip, ↓w_iter, ↓wItems_lst, ↓wItems_tup, ↓w_rng, ↓wRet_d, ↓wRet_fresh, ↓wRet_plc, ↓wRetS_val, ↓wRetS_own, ↓wRetS_ownS, ↓wI_some, ↓wI_none, ↓wI_ite, List.getElem?_cons_zero, List.getElem?_cons_succ, List.set_cons_zero, List.set_cons_succ]
      exact ⟨_, f4, _, by rw [List.length_set]; exact hl, setF_ok hl2 (rb_divInt (by omega) (by omega)), hf4.mono (by omega), rfl⟩
    · exact ⟨l, f1, _, hl, hl2, hf1.mono (by omega), rfl⟩
  rintro _ ⟨l, f, z, hl, hl2, hf, rfl⟩
  simp only [↓w_var, ↓wVar_val, ↓wVar_own, ↓w_c, ↓w_nil, ↓w_cons, ↓w_app, ↓wViews_nil, ↓wViews_cons, ↓wView_d, ↓wView_fresh, ↓wView_plc, ↓wSlot_val, ↓wSlot_own, ↓wEsc_d, ↓wEsc_fresh, ↓wEsc_plc, ↓wEscS_val, ↓wEscS_own, ↓wEscs_nil, ↓wEscs_cons, ↓w_frz, ↓w_tup, ↓w_lst, ↓w_bool, ↓w_tru, ↓w_notT, ↓w_andT, ↓w_orT, ↓w_if, ↓w_and, ↓w_or, ↓w_not, ↓w_chain, ↓wB_bl, ↓w_noPart, ↓w_part, ↓w_slice, ↓w_call, ↓wPlc_cons, ↓wOwn_own, ↓w_callIo, ↓isLst_lst, ↓w_meth, ↓w_ext, ↓wExt_ok, ↓ws_next, ↓ws_bk, ↓ws_ct, ↓ws_rt, ↓ws_nx, ↓ws_seq, ↓ws_drop, ↓ws_ret, ↓ws_if, ↓ws_set, ↓wSet_d, ↓wSet_fresh, ↓wSet_plc, ↓ws_asg, ↓wt_name, ↓wt_nil, ↓wt_cons, ↓wt_tup, ↓wt_lst, ↓wPar_two, ↓ws_par, ↓wLstS_own, ↓wInt_int, ↓ws_item, ↓ws_for, ↓w_zip, ↓w_iter, ↓wItems_lst, ↓wItems_tup, ↓w_rng, ↓wRet_d, ↓wRet_fresh, ↓wRet_plc, ↓wRetS_val, ↓wRetS_own, ↓wRetS_ownS, ↓wI_some, ↓wI_none, ↓wI_ite, List.getElem?_cons_zero, List.getElem?_cons_succ, List.set_cons_zero, List.set_cons_succ]
  refine hN _ _ _ _ _ hf (by omega) (by omega) (by omega) fun r f1 hf1 r0 r1 => ?_
  obtain ⟨m, rfl⟩ := Int.eq_ofNat_of_zero_le r0
  simp (disch := omega) only [↓w_var, ↓wVar_val, ↓wVar_own, ↓w_c, ↓w_nil, ↓w_cons, ↓w_app, ↓wViews_nil, ↓wViews_cons, ↓wView_d, ↓wView_fresh, ↓wView_plc, ↓wSlot_val, ↓wSlot_own, ↓wEsc_d, ↓wEsc_fresh, ↓wEsc_plc, ↓wEscS_val, ↓wEscS_own, ↓wEscs_nil, ↓wEscs_cons, ↓w_frz, ↓w_tup, ↓w_lst, ↓w_bool, ↓w_tru, ↓w_notT, ↓w_andT, ↓w_orT, ↓w_if, ↓w_and, ↓w_or, ↓w_not, ↓w_chain, ↓wB_bl, ↓w_noPart, ↓w_part, ↓w_slice, ↓w_call, ↓wPlc_cons, ↓wOwn_own, ↓w_callIo, ↓isLst_lst, ↓w_meth, ↓w_ext, ↓wExt_ok, ↓ws_next, ↓ws_bk, ↓ws_ct, ↓ws_rt, ↓ws_nx, ↓ws_seq, ↓ws_drop, ↓ws_ret, ↓ws_if, ↓ws_set, ↓wSet_d, ↓wSet_fresh, ↓wSet_plc, ↓ws_asg, ↓wt_name, ↓wt_nil, ↓wt_cons, ↓wt_tup, ↓wt_lst, ↓wPar_two, ↓ws_par, ↓wLstS_own, ↓wInt_int, ↓ws_item, ↓ws_for, ↓w_zip, ↓w_iter, ↓wItems_lst, ↓wItems_tup, ↓w_rng, ↓wRet_d, ↓wRet_fresh, ↓wRet_plc, ↓wRetS_val, ↓wRetS_own, ↓wRetS_ownS, ↓wI_some, ↓wI_none, ↓wI_ite, List.getElem?_cons_zero, List.getElem?_cons_succ, List.set_cons_zero, List.set_cons_succ, intsR1, rngD1, Int.toNat_natCast]
  refine for_inv (fun ds ρ => ∃ (l : List D) (z : Sl), (∀ d ∈ ds, ∃ k : Nat, k < 4 ∧ d = .int (k : Nat)) ∧ l.length = 4 ∧ (∀ d ∈ l, ∃ x, d = fr x ∧ rb x ≤ 200) ∧ ∃ z3, ρ = [Sl.own f1, .own (.lst l), z, z3]) ⟨l, z, fun d hd => ?_, hl, hl2, _, rfl⟩ ?_ ?_
  · unfold rangeD at hd
    obtain ⟨i, hi, rfl⟩ := List.mem_map.mp hd
    rw [List.mem_range] at hi
    exact ⟨i, by omega, by simp⟩
  · rintro d ds ρ ⟨l, z, hds, hl, hl2, z3, rfl⟩
    obtain ⟨k, k4, rfl⟩ := hds d List.mem_cons_self
    have hk : k < l.length := by omega
    simp only [↓w_var, ↓wVar_val, ↓wVar_own, ↓w_c, ↓w_nil, ↓w_cons, ↓w_app, ↓wViews_nil, ↓wViews_cons, ↓wView_d, ↓wView_fresh, ↓wView_plc, ↓wSlot_val, ↓wSlot_own, ↓wEsc_d, ↓wEsc_fresh, ↓wEsc_plc, ↓wEscS_val, ↓wEscS_own, ↓wEscs_nil, ↓wEscs_cons, ↓w_frz, ↓w_tup, ↓w_lst, ↓w_bool, ↓w_tru, ↓w_notT, ↓w_andT, ↓w_orT, ↓w_if, ↓w_and, ↓w_or, ↓w_not, ↓w_chain, ↓wB_bl, ↓w_noPart, ↓w_part, ↓w_slice, ↓w_call, ↓wPlc_cons, ↓wOwn_own, ↓w_callIo, ↓isLst_lst, ↓w_meth, ↓w_ext, ↓wExt_ok, ↓ws_next, ↓ws_bk, ↓ws_ct, ↓ws_rt, ↓ws_nx, ↓ws_seq, ↓ws_drop, ↓ws_ret, ↓ws_if, ↓ws_set, ↓wSet_d, ↓wSet_fresh, ↓wSet_plc, ↓ws_asg, ↓wt_name, ↓wt_nil, ↓wt_cons, ↓wt_tup, ↓wt_lst, ↓wPar_two, ↓ws_par, ↓wLstS_own, ↓wInt_int, ↓ws_item, ↓ws_for, ↓w_zip, ↓w_iter, ↓wItems_lst, ↓wItems_tup, ↓w_rng, ↓wRet_d, ↓wRet_fresh, ↓wRet_plc, ↓wRetS_val, ↓wRetS_own, ↓wRetS_ownS, ↓wI_some, ↓wI_none, ↓wI_ite, List.getElem?_cons_zero, List.getElem?_cons_succ, List.set_cons_zero, List.set_cons_succ, fr_zero]
    rw [ixN_nat hk]
    simp only [↓w_var, ↓wVar_val, ↓wVar_own, ↓w_c, ↓w_nil, ↓w_cons, ↓w_app, ↓wViews_nil, ↓wViews_cons, ↓wView_d, ↓wView_fresh, ↓wView_plc, ↓wSlot_val, ↓wSlot_own, ↓wEsc_d, ↓wEsc_fresh, ↓wEsc_plc, ↓wEscS_val, ↓wEscS_own, ↓wEscs_nil, ↓wEscs_cons, ↓w_frz, ↓w_tup, ↓w_lst, ↓w_bool, ↓w_tru, ↓w_notT, ↓w_andT, ↓w_orT, ↓w_if, ↓w_and, ↓w_or, ↓w_not, ↓w_chain, ↓wB_bl, ↓w_noPart, ↓w_part, ↓w_slice, ↓w_call, ↓wPlc_cons, ↓wOwn_own, ↓w_callIo, ↓isLst_lst, ↓w_meth, ↓w_ext, ↓wExt_ok, ↓ws_next, ↓ws_bk, ↓ws_ct, ↓ws_rt, ↓ws_nx, ↓ws_seq, ↓ws_drop, ↓ws_ret, ↓ws_if, ↓ws_set, ↓wSet_d, ↓wSet_fresh, ↓wSet_plc, ↓ws_asg, ↓wt_name, ↓wt_nil, ↓wt_cons, ↓wt_tup, ↓wt_lst, ↓wPar_two, ↓ws_par, ↓wLstS_own, ↓wInt_int, ↓ws_item, ↓ws_for, ↓w_zip, ↓w_iter, ↓wItems_lst, ↓wItems_tup, ↓w_rng, ↓wRet_d, ↓wRet_fresh, ↓wRet_plc, ↓wRetS_val, ↓wRetS_own, ↓wRetS_ownS, ↓wI_some, ↓wI_none, ↓wI_ite, List.getElem?_cons_zero, List.getElem?_cons_succ, List.set_cons_zero, List.set_cons_succ]
    exact ⟨_, z, fun d hd => hds d (List.mem_cons_of_mem _ hd), by rw [List.length_set]; exact hl, setF_ok hl2 (by decide), _, rfl⟩
  · rintro ρ ⟨l, z, hds, hl, hl2, z3, rfl⟩
    obtain ⟨q, eq, hq⟩ := four_of hl hl2
    simp only [↓w_var, ↓wVar_val, ↓wVar_own, ↓w_c, ↓w_nil, ↓w_cons, ↓w_app, ↓wViews_nil, ↓wViews_cons, ↓wView_d, ↓wView_fresh, ↓wView_plc, ↓wSlot_val, ↓wSlot_own, ↓wEsc_d, ↓wEsc_fresh, ↓wEsc_plc, ↓wEscS_val, ↓wEscS_own, ↓wEscs_nil, ↓wEscs_cons, ↓w_frz, ↓w_tup, ↓w_lst, ↓w_bool, ↓w_tru, ↓w_notT, ↓w_andT, ↓w_orT, ↓w_if, ↓w_and, ↓w_or, ↓w_not, ↓w_chain, ↓wB_bl, ↓w_noPart, ↓w_part, ↓w_slice, ↓w_call, ↓wPlc_cons, ↓wOwn_own, ↓w_callIo, ↓isLst_lst, ↓w_meth, ↓w_ext, ↓wExt_ok, ↓ws_next, ↓ws_bk, ↓ws_ct, ↓ws_rt, ↓ws_nx, ↓ws_seq, ↓ws_drop, ↓ws_ret, ↓ws_if, ↓ws_set, ↓wSet_d, ↓wSet_fresh, ↓wSet_plc, ↓ws_asg, ↓wt_name, ↓wt_nil, ↓wt_cons, ↓wt_tup, ↓wt_lst, ↓wPar_two, ↓ws_par, ↓wLstS_own, ↓wInt_int, ↓ws_item, ↓ws_for, ↓w_zip, ↓w_iter, ↓wItems_lst, ↓wItems_tup, ↓w_rng, ↓wRet_d, ↓wRet_fresh, ↓wRet_plc, ↓wRetS_val, ↓wRetS_own, ↓wRetS_ownS, ↓wI_some, ↓wI_none, ↓wI_ite, List.getElem?_cons_zero, List.getElem?_cons_succ, List.set_cons_zero, List.set_cons_succ, tup_of, eq]
    exact h q f1 (hf1.mono (by omega)) hq
noncomputable def lightB : SDen :=
 sSeq (sSet 2 (dComp [5] (dRng [dC (.int 4)]) (tName 5) (dBool (dApp oNe [dApp oIx [dApp oIx [dVar 0, dVar 5], dC (.int 0)], dC (.int 0)])) (dVar 5)))
 (sSeq (sIf (dBool (dApp oEq [dVar 2, dLst []]))
 (sRet (dTup [dVar 0, dApp oMin [dVar 1, dC (.int 0)]]))
 (sNext))
 (sSeq (sSet 3 (dApp oIx [dVar 2, dC (.int 0)]))
 (sSeq (sSet 4 (dTup [dApp oAbs [dApp oIx [dApp oIx [dVar 0, dVar 3], dC (.int 0)]], dApp oIx [dApp oIx [dVar 0, dVar 3], dC (.int 1)]]))
 (sRet (dTup [dApp oAdd [dApp oAdd [dSlice (dVar 0) (dNoPart) (dPart (dVar 3)), dTup [dVar 4]], dSlice (dVar 0) (dPart (dApp oAdd [dVar 3, dC (.int 1)])) (dNoPart)], dApp oMin [dVar 1, dApp oIx [dLst [dApp oPow [dC (.int 10), dC (.int 6)], dApp oPow [dC (.int 10), dC (.int 6)], dC (.int 300), dC (.int 3)], dVar 3]]])))))
def LightE (A : List D → FRes) : Prop := ∀ (q : Nat → Rat) (need : Int), Sm q → nb need.natAbs ≤ 99 → ∃ q' need', A [fourD q, .int need] = .ok (.d (.tup [fourD q', .int need'])) none ∧ Sm q' ∧ nb need'.natAbs ≤ 100
def absR (x : Rat) : Rat := if x.num < 0 then -x else x
theorem abs_fr {x : Rat} : D.tup [.int (if x.num < 0 then -x.num else x.num), .int x.den] = fr (absR x) := by
  unfold absR fr
  split
  · rw [Rat.neg_num, Rat.neg_den]
  · rfl
theorem abs_rb {x : Rat} {k d : Nat} (h : RB x k d) : RB (absR x) k d := by
  unfold absR
  split
  · infer_instance
  · exact h
def putQ (q : Nat → Rat) (k : Nat) (x : Rat) : Nat → Rat := fun j => if j = k then x else q j
theorem put_sm {q : Nat → Rat} {k : Nat} {x : Rat} (h : Sm q) (hx : RB x 200 200) : Sm (putQ q k x) := ⟨fun j hj => by
  unfold putQ
  split
  · exact hx
  · exact h.b j hj⟩
theorem put_four {q : Nat → Rat} {k : Nat} {x : Rat} (hk : k < 4) : D.tup (cutD [fr (q 0), fr (q 1), fr (q 2), fr (q 3)] none (some (k : Nat)) ++ [fr x] ++ cutD [fr (q 0), fr (q 1), fr (q 2), fr (q 3)] (some ((k : Nat) + 1)) none) = fourD (putQ q k x) := by
  match k, hk with
  | 0, _ => rfl
  | 1, _ => rfl
  | 2, _ => rfl
  | 3, _ => rfl
theorem cut_len {k : Nat} {a b c d : D} (hk : k < 4) : (cutD [a, b, c, d] none (some (k : Nat))).length ≤ 4 ∧ (cutD [a, b, c, d] (some ((k : Nat) + 1)) none).length ≤ 4 := by
  match k, hk with
  | 0, _ => exact ⟨Nat.le_of_ble_eq_true rfl, Nat.le_of_ble_eq_true rfl⟩
  | 1, _ => exact ⟨Nat.le_of_ble_eq_true rfl, Nat.le_of_ble_eq_true rfl⟩
  | 2, _ => exact ⟨Nat.le_of_ble_eq_true rfl, Nat.le_of_ble_eq_true rfl⟩
  | 3, _ => exact ⟨Nat.le_of_ble_eq_true rfl, Nat.le_of_ble_eq_true rfl⟩
theorem light_e : LightE (runFn 6 2 false lightB) := by
  intro q need hq hn
  have key : wF0 (runFn 6 2 false lightB [fourD q, .int need]) (fun r => ∃ q' need', r = .d (.tup [fourD q', .int need']) ∧ Sm q' ∧ nb need'.natAbs ≤ 100) fun _ => False := by
    refine w_run0 rfl ?_
    show wS (lightB [Sl.val (fourD q), .val (.int need), .no, .no, .no, .no]) _
    unfold lightB
    refine ws_cut (fun ρ => ρ = [Sl.val (fourD q), .val (.int need), .own (.lst (natsD (pl q))), .no, .no, .no]) ?_ ?_
    · rw [ws_set]
      refine comp_fil (nozD q) id ?_
      simp only [↓w_var, ↓wVar_val, ↓wVar_own, ↓w_c, ↓w_nil, ↓w_cons, ↓w_app, ↓wViews_nil, ↓wViews_cons, ↓wView_d, ↓wView_fresh, ↓wView_plc, ↓wSlot_val, ↓wSlot_own, ↓wEsc_d, ↓wEsc_fresh, ↓wEsc_plc, ↓wEscS_val, ↓wEscS_own, ↓wEscs_nil, ↓wEscs_cons, ↓w_frz, ↓w_tup, ↓w_lst, ↓w_bool, ↓w_tru, ↓w_notT, ↓w_andT, ↓w_orT, ↓w_if, ↓w_and, ↓w_or, ↓w_not, ↓w_chain, ↓wB_bl, ↓w_noPart, ↓w_part, ↓w_slice, ↓w_call, ↓wPlc_cons, ↓wOwn_own, ↓w_callIo, ↓isLst_lst, ↓w_meth, ↓w_ext, ↓wExt_ok, ↓ws_next, ↓ws_bk, ↓ws_ct, ↓ws_rt, ↓ws_nx, ↓ws_seq, ↓ws_drop, ↓ws_ret, ↓ws_if, ↓ws_set, ↓wSet_d, ↓wSet_fresh, ↓wSet_plc, ↓ws_asg, ↓wt_name, ↓wt_nil, ↓wt_cons, ↓wt_tup, ↓wt_lst, ↓wPar_two, ↓ws_par, ↓wLstS_own, ↓wInt_int, ↓ws_item, ↓ws_for, ↓w_zip, ↓w_iter, ↓wItems_lst, ↓wItems_tup, ↓w_rng, ↓wRet_d, ↓wRet_fresh, ↓wRet_plc, ↓wRetS_val, ↓wRetS_own, ↓wRetS_ownS, ↓wI_some, ↓wI_none, ↓wI_ite, List.getElem?_cons_zero, List.getElem?_cons_succ, List.set_cons_zero, List.set_cons_succ, intsR1, rng4]
      refine ⟨by decide, fun d hd => ?_, fun d hd _ => ?_, ?_⟩
      · obtain ⟨k, hk, rfl⟩ := mem_rng4 hd
        simp (disch := assumption) only [↓w_var, ↓wVar_val, ↓wVar_own, ↓w_c, ↓w_nil, ↓w_cons, ↓w_app, ↓wViews_nil, ↓wViews_cons, ↓wView_d, ↓wView_fresh, ↓wView_plc, ↓wSlot_val, ↓wSlot_own, ↓wEsc_d, ↓wEsc_fresh, ↓wEsc_plc, ↓wEscS_val, ↓wEscS_own, ↓wEscs_nil, ↓wEscs_cons, ↓w_frz, ↓w_tup, ↓w_lst, ↓w_bool, ↓w_tru, ↓w_notT, ↓w_andT, ↓w_orT, ↓w_if, ↓w_and, ↓w_or, ↓w_not, ↓w_chain, ↓wB_bl, ↓w_noPart, ↓w_part, ↓w_slice, ↓w_call, ↓wPlc_cons, ↓wOwn_own, ↓w_callIo, ↓isLst_lst, ↓w_meth, ↓w_ext, ↓wExt_ok, ↓ws_next, ↓ws_bk, ↓ws_ct, ↓ws_rt, ↓ws_nx, ↓ws_seq, ↓ws_drop, ↓ws_ret, ↓ws_if, ↓ws_set, ↓wSet_d, ↓wSet_fresh, ↓wSet_plc, ↓ws_asg, ↓wt_name, ↓wt_nil, ↓wt_cons, ↓wt_tup, ↓wt_lst, ↓wPar_two, ↓ws_par, ↓wLstS_own, ↓wInt_int, ↓ws_item, ↓ws_for, ↓w_zip, ↓w_iter, ↓wItems_lst, ↓wItems_tup, ↓w_rng, ↓wRet_d, ↓wRet_fresh, ↓wRet_plc, ↓wRetS_val, ↓wRetS_own, ↓wRetS_ownS, ↓wI_some, ↓wI_none, ↓wI_ite, List.getElem?_cons_zero, List.getElem?_cons_succ, List.set_cons_zero, List.set_cons_succ, four_ix, fr_ix0, o_neI]
        refine ⟨?_, trivial⟩
        show _ = decide (q ((k : Int)).toNat ≠ 0)
        apply decide_eq_decide.mpr
        rw [Int.toNat_natCast, ne_eq, ne_eq, num_eq0]
      · exact ⟨rfl, trivial⟩
      · rw [pl_eq q (nozD q) (fun k _ => by simp [nozD])]
        try simp only [↓w_var, ↓wVar_val, ↓wVar_own, ↓w_c, ↓w_nil, ↓w_cons, ↓w_app, ↓wViews_nil, ↓wViews_cons, ↓wView_d, ↓wView_fresh, ↓wView_plc, ↓wSlot_val, ↓wSlot_own, ↓wEsc_d, ↓wEsc_fresh, ↓wEsc_plc, ↓wEscS_val, ↓wEscS_own, ↓wEscs_nil, ↓wEscs_cons, ↓w_frz, ↓w_tup, ↓w_lst, ↓w_bool, ↓w_tru, ↓w_notT, ↓w_andT, ↓w_orT, ↓w_if, ↓w_and, ↓w_or, ↓w_not, ↓w_chain, ↓wB_bl, ↓w_noPart, ↓w_part, ↓w_slice, ↓w_call, ↓wPlc_cons, ↓wOwn_own, ↓w_callIo, ↓isLst_lst, ↓w_meth, ↓w_ext, ↓wExt_ok, ↓ws_next, ↓ws_bk, ↓ws_ct, ↓ws_rt, ↓ws_nx, ↓ws_seq, ↓ws_drop, ↓ws_ret, ↓ws_if, ↓ws_set, ↓wSet_d, ↓wSet_fresh, ↓wSet_plc, ↓ws_asg, ↓wt_name, ↓wt_nil, ↓wt_cons, ↓wt_tup, ↓wt_lst, ↓wPar_two, ↓ws_par, ↓wLstS_own, ↓wInt_int, ↓ws_item, ↓ws_for, ↓w_zip, ↓w_iter, ↓wItems_lst, ↓wItems_tup, ↓w_rng, ↓wRet_d, ↓wRet_fresh, ↓wRet_plc, ↓wRetS_val, ↓wRetS_own, ↓wRetS_ownS, ↓wI_some, ↓wI_none, ↓wI_ite, List.getElem?_cons_zero, List.getElem?_cons_succ, List.set_cons_zero, List.set_cons_succ]
    rintro _ rfl
    have hnn := @nats_ne (pl q)
    have mn : ∀ i : Int, nb i.natAbs ≤ 99 → nb (if i < need then i else need).natAbs ≤ 100 := fun i hi => by split <;> omega
    cases hpl : pl q with
    | nil =>
      rw [hpl] at hnn
      simp (disch := first | exact sh_nats | exact sh00) only [↓w_var, ↓wVar_val, ↓wVar_own, ↓w_c, ↓w_nil, ↓w_cons, ↓w_app, ↓wViews_nil, ↓wViews_cons, ↓wView_d, ↓wView_fresh, ↓wView_plc, ↓wSlot_val, ↓wSlot_own, ↓wEsc_d, ↓wEsc_fresh, ↓wEsc_plc, ↓wEscS_val, ↓wEscS_own, ↓wEscs_nil, ↓wEscs_cons, ↓w_frz, ↓w_tup, ↓w_lst, ↓w_bool, ↓w_tru, ↓w_notT, ↓w_andT, ↓w_orT, ↓w_if, ↓w_and, ↓w_or, ↓w_not, ↓w_chain, ↓wB_bl, ↓w_noPart, ↓w_part, ↓w_slice, ↓w_call, ↓wPlc_cons, ↓wOwn_own, ↓w_callIo, ↓isLst_lst, ↓w_meth, ↓w_ext, ↓wExt_ok, ↓ws_next, ↓ws_bk, ↓ws_ct, ↓ws_rt, ↓ws_nx, ↓ws_seq, ↓ws_drop, ↓ws_ret, ↓ws_if, ↓ws_set, ↓wSet_d, ↓wSet_fresh, ↓wSet_plc, ↓ws_asg, ↓wt_name, ↓wt_nil, ↓wt_cons, ↓wt_tup, ↓wt_lst, ↓wPar_two, ↓ws_par, ↓wLstS_own, ↓wInt_int, ↓ws_item, ↓ws_for, ↓w_zip, ↓w_iter, ↓wItems_lst, ↓wItems_tup, ↓w_rng, ↓wRet_d, ↓wRet_fresh, ↓wRet_plc, ↓wRetS_val, ↓wRetS_own, ↓wRetS_ownS, ↓wI_some, ↓wI_none, ↓wI_ite, List.getElem?_cons_zero, List.getElem?_cons_succ, List.set_cons_zero, List.set_cons_succ, o_eq, hnn, List.isEmpty_nil, ↓reduceIte, min_r]
      exact ⟨q, _, rfl, hq, mn 0 (by decide)⟩
    | cons f rest =>
      rw [hpl] at hnn
      obtain ⟨f4, fn⟩ := pl_mem (q := q) (k := f) (by rw [hpl]; simp)
      have p0 : ∀ {Q : RV → Prop}, wI (oIx [.lst (natsD (f :: rest)), .int 0]) Q = Q (.d (.int (f : Nat))) := fun {Q} => lst_c0
      have sl : ∀ {lo hi : Option Int} {Q : RV → Prop}, wI (oSl lo hi (fourD q)) Q = Q (.d (.tup (cutD [fr (q 0), fr (q 1), fr (q 2), fr (q 3)] lo hi))) := fun {lo hi Q} => id rfl
      obtain ⟨c1, c2⟩ := cut_len (a := fr (q 0)) (b := fr (q 1)) (c := fr (q 2)) (d := fr (q 3)) f4
      have ci : ∀ i j k l : Int, (if f = 0 then D.int i else if f = 1 then .int j else if f = 2 then .int k else .int l) = .int (if f = 0 then i else if f = 1 then j else if f = 2 then k else l) := fun i j k l => by
        split
        · rfl
        · split
          · rfl
          · split <;> rfl
      simp (disch := first | exact sh_nats | exact sh00 | assumption | omega) only [↓w_var, ↓wVar_val, ↓wVar_own, ↓w_c, ↓w_nil, ↓w_cons, ↓w_app, ↓wViews_nil, ↓wViews_cons, ↓wView_d, ↓wView_fresh, ↓wView_plc, ↓wSlot_val, ↓wSlot_own, ↓wEsc_d, ↓wEsc_fresh, ↓wEsc_plc, ↓wEscS_val, ↓wEscS_own, ↓wEscs_nil, ↓wEscs_cons, ↓w_frz, ↓w_tup, ↓w_lst, ↓w_bool, ↓w_tru, ↓w_notT, ↓w_andT, ↓w_orT, ↓w_if, ↓w_and, ↓w_or, ↓w_not, ↓w_chain, ↓wB_bl, ↓w_noPart, ↓w_part, ↓w_slice, ↓w_call, ↓wPlc_cons, ↓wOwn_own, ↓w_callIo, ↓isLst_lst, ↓w_meth, ↓w_ext, ↓wExt_ok, ↓ws_next, ↓ws_bk, ↓ws_ct, ↓ws_rt, ↓ws_nx, ↓ws_seq, ↓ws_drop, ↓ws_ret, ↓ws_if, ↓ws_set, ↓wSet_d, ↓wSet_fresh, ↓wSet_plc, ↓ws_asg, ↓wt_name, ↓wt_nil, ↓wt_cons, ↓wt_tup, ↓wt_lst, ↓wPar_two, ↓ws_par, ↓wLstS_own, ↓wInt_int, ↓ws_item, ↓ws_for, ↓w_zip, ↓w_iter, ↓wItems_lst, ↓wItems_tup, ↓w_rng, ↓wRet_d, ↓wRet_fresh, ↓wRet_plc, ↓wRetS_val, ↓wRetS_own, ↓wRetS_ownS, ↓wI_some, ↓wI_none, ↓wI_ite, List.getElem?_cons_zero, List.getElem?_cons_succ, List.set_cons_zero, List.set_cons_succ, o_eq, hnn, List.isEmpty_cons, Bool.false_eq_true, ↓reduceIte, p0, four_ix, fr_ix0, fr_ix1, o_abs, abs_fr, sl, o_add, pow6, ix4]
      rw [o_addT (by simp; omega)]
      simp only [↓w_var, ↓wVar_val, ↓wVar_own, ↓w_c, ↓w_nil, ↓w_cons, ↓w_app, ↓wViews_nil, ↓wViews_cons, ↓wView_d, ↓wView_fresh, ↓wView_plc, ↓wSlot_val, ↓wSlot_own, ↓wEsc_d, ↓wEsc_fresh, ↓wEsc_plc, ↓wEscS_val, ↓wEscS_own, ↓wEscs_nil, ↓wEscs_cons, ↓w_frz, ↓w_tup, ↓w_lst, ↓w_bool, ↓w_tru, ↓w_notT, ↓w_andT, ↓w_orT, ↓w_if, ↓w_and, ↓w_or, ↓w_not, ↓w_chain, ↓wB_bl, ↓w_noPart, ↓w_part, ↓w_slice, ↓w_call, ↓wPlc_cons, ↓wOwn_own, ↓w_callIo, ↓isLst_lst, ↓w_meth, ↓w_ext, ↓wExt_ok, ↓ws_next, ↓ws_bk, ↓ws_ct, ↓ws_rt, ↓ws_nx, ↓ws_seq, ↓ws_drop, ↓ws_ret, ↓ws_if, ↓ws_set, ↓wSet_d, ↓wSet_fresh, ↓wSet_plc, ↓ws_asg, ↓wt_name, ↓wt_nil, ↓wt_cons, ↓wt_tup, ↓wt_lst, ↓wPar_two, ↓ws_par, ↓wLstS_own, ↓wInt_int, ↓ws_item, ↓ws_for, ↓w_zip, ↓w_iter, ↓wItems_lst, ↓wItems_tup, ↓w_rng, ↓wRet_d, ↓wRet_fresh, ↓wRet_plc, ↓wRetS_val, ↓wRetS_own, ↓wRetS_ownS, ↓wI_some, ↓wI_none, ↓wI_ite, List.getElem?_cons_zero, List.getElem?_cons_succ, List.set_cons_zero, List.set_cons_succ, o_add, sl]
      rw [o_addT (by simp; omega)]
      simp (disch := assumption) only [↓w_var, ↓wVar_val, ↓wVar_own, ↓w_c, ↓w_nil, ↓w_cons, ↓w_app, ↓wViews_nil, ↓wViews_cons, ↓wView_d, ↓wView_fresh, ↓wView_plc, ↓wSlot_val, ↓wSlot_own, ↓wEsc_d, ↓wEsc_fresh, ↓wEsc_plc, ↓wEscS_val, ↓wEscS_own, ↓wEscs_nil, ↓wEscs_cons, ↓w_frz, ↓w_tup, ↓w_lst, ↓w_bool, ↓w_tru, ↓w_notT, ↓w_andT, ↓w_orT, ↓w_if, ↓w_and, ↓w_or, ↓w_not, ↓w_chain, ↓wB_bl, ↓w_noPart, ↓w_part, ↓w_slice, ↓w_call, ↓wPlc_cons, ↓wOwn_own, ↓w_callIo, ↓isLst_lst, ↓w_meth, ↓w_ext, ↓wExt_ok, ↓ws_next, ↓ws_bk, ↓ws_ct, ↓ws_rt, ↓ws_nx, ↓ws_seq, ↓ws_drop, ↓ws_ret, ↓ws_if, ↓ws_set, ↓wSet_d, ↓wSet_fresh, ↓wSet_plc, ↓ws_asg, ↓wt_name, ↓wt_nil, ↓wt_cons, ↓wt_tup, ↓wt_lst, ↓wPar_two, ↓ws_par, ↓wLstS_own, ↓wInt_int, ↓ws_item, ↓ws_for, ↓w_zip, ↓w_iter, ↓wItems_lst, ↓wItems_tup, ↓w_rng, ↓wRet_d, ↓wRet_fresh, ↓wRet_plc, ↓wRetS_val, ↓wRetS_own, ↓wRetS_ownS, ↓wI_some, ↓wI_none, ↓wI_ite, List.getElem?_cons_zero, List.getElem?_cons_succ, List.set_cons_zero, List.set_cons_succ, pow6, ix4, ci, min_r]
      rw [put_four f4]
      refine ⟨_, _, rfl, put_sm hq (abs_rb (hq.b f f4)), mn _ ?_⟩
      split
      · decide
      · split
        · decide
        · split <;> decide
  obtain ⟨x, e, q', need', rfl, h1, h2⟩ := ex_of_w key
  exact ⟨q', need', e, h1, h2⟩
end DL
set_option maxHeartbeats 4000000
/-! DL, part 38: heights and growths drawn. -/
namespace DL
open PySem PySem.Spec PyProof.Rows L2
/-! ### what they are -/
def U4 (u : D) : Prop := ∃ q : Nat → Rat, u = fourD q ∧ ∀ j, j < 4 → rb (q j) ≤ 10
/-- a height whose overs go at most so deep -/
def IsH : Nat → D → Prop
  | 0, d => ∃ u, d = .tup [.tup [], u] ∧ U4 u
  | k + 1, d => ∃ o u, d = .tup [.tup o, u] ∧ U4 u ∧ o.length ≤ 2 ∧ ∀ p ∈ o, ∃ h x, p = .tup [h, fr x] ∧ rb x ≤ 210 ∧ IsH k h
def IsP (k : Nat) (p : D) : Prop := ∃ h x, p = .tup [h, fr x] ∧ rb x ≤ 210 ∧ IsH k h
theorem IsH.up : ∀ {k : Nat} {d : D}, IsH k d → IsH (k + 1) d
  | 0, d, h => by
    obtain ⟨u, e, hu⟩ := h
    exact ⟨[], u, e, hu, by simp, fun p hp => by cases hp⟩
  | k + 1, d, h => by
    obtain ⟨o, u, e, hu, hl, hp⟩ := h
    refine ⟨o, u, e, hu, hl, fun p q => ?_⟩
    obtain ⟨h, x, e, hx, hh⟩ := hp p q
    exact ⟨h, x, e, hx, hh.up⟩
theorem IsH.mono {j k : Nat} {d : D} (h : IsH j d) (hk : j ≤ k) : IsH k d := by
  induction hk with
  | refl => exact h
  | step _ ih => exact ih.up
theorem IsP.mono {j k : Nat} {d : D} (h : IsP j d) (hk : j ≤ k) : IsP k d := by
  obtain ⟨h, x, e, hx, hh⟩ := h
  exact ⟨h, x, e, hx, hh.mono hk⟩
/-! ### alike -/
def alPs (l m : List D) : Bool := PySem.W.alikeAll (toPs l) (toPs m)
theorem al_tt {l m : List D} : alP (.tup l) (.tup m) = alPs l m := by unfold alP alPs; simp only [toP, PySem.W.alike]
theorem al_ii {i j : Int} : alP (.int i) (.int j) = true := by unfold alP; simp only [toP, PySem.W.alike]
theorem al_cc {d e : D} {l m : List D} : alPs (d :: l) (e :: m) = (alP d e && alPs l m) := by unfold alP alPs; simp only [toPs, PySem.W.alikeAll]
theorem al_n1 {m : List D} : alPs [] m = true := by unfold alPs; simp only [toPs, PySem.W.alikeAll]
theorem al_n2 {l : List D} : alPs l [] = true := by cases l <;> (unfold alPs; simp only [toPs, PySem.W.alikeAll])
theorem al_all : ∀ {l m : List D}, (∀ d ∈ l, ∀ e ∈ m, alP d e = true) → alPs l m = true
  | [], _, _ => al_n1
  | _ :: _, [], _ => al_n2
  | d :: l, e :: m, h => by
    rw [al_cc, h d List.mem_cons_self e List.mem_cons_self, al_all fun d hd e he => h d (List.mem_cons_of_mem _ hd) e (List.mem_cons_of_mem _ he)]
    rfl
theorem al_fr {x y : Rat} : alP (fr x) (fr y) = true := by
  unfold fr
  rw [al_tt, al_cc, al_cc, al_ii, al_ii, al_n1]
  rfl
theorem al_four {p q : Nat → Rat} : alP (fourD p) (fourD q) = true := by
  unfold fourD
  rw [al_tt, al_cc, al_cc, al_cc, al_cc, al_fr, al_fr, al_fr, al_fr, al_n1]
  rfl
theorem al_height : ∀ {k : Nat} {d e : D}, IsH k d → IsH k e → alP d e = true
  | 0, d, e, h, h' => by
    obtain ⟨_, rfl, q, rfl, _⟩ := h
    obtain ⟨_, rfl, q', rfl, _⟩ := h'
    simp only [al_tt, al_cc, al_n1, al_four, Bool.and_self]
  | k + 1, d, e, h, h' => by
    obtain ⟨o, _, rfl, ⟨q, rfl, _⟩, _, hp⟩ := h
    obtain ⟨o', _, rfl, ⟨q', rfl, _⟩, _, hp'⟩ := h'
    rw [al_tt, al_cc, al_cc, al_tt, al_four, al_n1]
    have : alPs o o' = true := al_all fun d hd e he => by
      obtain ⟨h1, x, rfl, _, hh⟩ := hp d hd
      obtain ⟨h2, y, rfl, _, hh'⟩ := hp' e he
      rw [al_tt, al_cc, al_cc, al_height hh hh', al_fr, al_n1]
      rfl
    rw [this]
    rfl
theorem al_part {k : Nat} {d e : D} (h : IsP k d) (h' : IsP k e) : alP d e = true := by
  obtain ⟨h1, x, rfl, _, hh⟩ := h
  obtain ⟨h2, y, rfl, _, hh'⟩ := h'
  rw [al_tt, al_cc, al_cc, al_height hh hh', al_fr, al_n1]
  rfl
/-! ### how deep -/
theorem sh_four {q : Nat → Rat} {k : Nat} : shN (fourD q) (k + 2) = true := by
  unfold fourD
  rw [shN, shNs, shNs, shNs, shNs, shNs, shN_fr, shN_fr, shN_fr, shN_fr]
  rfl
theorem sh_height : ∀ {k : Nat} {d : D}, IsH k d → shN d (3 * k + 3) = true
  | 0, d, h => by
    obtain ⟨_, rfl, q, rfl, _⟩ := h
    rw [shN, shNs, shNs, shNs, sh_four, shN, shNs]
    rfl
  | k + 1, d, h => by
    obtain ⟨o, _, rfl, ⟨q, rfl, _⟩, _, hp⟩ := h
    have e : 3 * (k + 1) + 3 = (3 * k + 3) + 1 + 1 + 1 := by omega
    rw [e, shN, shNs, shNs, shNs, shN]
    have h1 : shNs o (3 * k + 3 + 1) = true := shNs_of fun d hd => by
      obtain ⟨h1, x, rfl, _, hh⟩ := hp d hd
      rw [shN, shNs, shNs, shNs, sh_height hh, shN_fr]
      rfl
    rw [h1, show 3 * k + 3 + 1 + 1 = (3 * k + 3) + 2 by omega, sh_four]
    rfl
theorem sh_part {k : Nat} {d : D} (h : IsP k d) : shN d (3 * k + 4) = true := by
  obtain ⟨h1, x, rfl, _, hh⟩ := h
  rw [shN, shNs, shNs, shNs, sh_height hh, shN_fr]
  rfl
theorem shP_height {k : Nat} {d : D} (h : IsH k d) (hk : k ≤ 10) : shP d = true := shP_of (sh_height h) (by omega)
theorem shP_part {k : Nat} {d : D} (h : IsP k d) (hk : k ≤ 10) : shP d = true := shP_of (sh_part h) (by omega)
theorem sort_ok {k : Nat} {l : List D} (hk : k ≤ 10) (h : ∀ p ∈ l, IsP k p) : sortOk l = true := by
  unfold sortOk
  rw [Bool.and_eq_true, Bool.and_eq_true, Bool.or_eq_true]
  refine ⟨List.all_eq_true.mpr fun d hd => List.all_eq_true.mpr fun e he => al_part (h d hd) (h e he), .inl (List.all_eq_true.mpr fun d hd => ?_), List.all_eq_true.mpr fun d hd => ?_⟩
  · obtain ⟨h1, x, rfl, _, _⟩ := h d hd
    rfl
  · exact Nat.ble_eq_true_of_le (Nat.le_trans (shN_ok _ _ (sh_part (h d hd))).2 (by omega))
theorem o_sorted {l : List D} {Q : RV → Prop} (h : sortOk l = true) : wI (oSorted [.lst l]) Q = Q (.fresh (.lst (l.mergeSort leP))) := by
  show wI (if sortOk l = true then _ else _) Q = _
  rw [if_pos h]
  rfl
/-! ### drawn: ups, a share -/
noncomputable def up2B (N : List D → FRes) : SDen :=
 sSeq (sSet 1 (dLst [dTup [dC (.int 0), dC (.int 1)], dTup [dC (.int 0), dC (.int 1)], dTup [dC (.int 0), dC (.int 1)], dTup [dC (.int 1), dC (.int 1)], dTup [dApp oNeg [dC (.int 1)], dC (.int 1)], dTup [dC (.int 1), dC (.int 2)], dTup [dC (.int 2), dC (.int 1)], dTup [dApp oNeg [dC (.int 1)], dC (.int 2)], dTup [dC (.int 3), dC (.int 1)], dTup [dC (.int 1), dC (.int 3)], dTup [dApp oNeg [dC (.int 5)], dC (.int 4)], dTup [dC (.int 7), dC (.int 2)]]))
 (sRet (dApp oIx [dVar 1, dCallIo N [dVar 0, dC (.int 12)]]))
theorem up2_s {N : List D → FRes} (hN : NextS N) : UpS (runFn 2 1 true (up2B N)) := by
  intro b f Q E hf hb h
  refine w_run1 rfl ?_
  show wS (up2B _ [Sl.own f, .no]) _
  unfold up2B
  simp only [↓w_var, ↓wVar_val, ↓wVar_own, ↓w_c, ↓w_nil, ↓w_cons, ↓w_app, ↓wViews_nil, ↓wViews_cons, ↓wView_d, ↓wView_fresh, ↓wView_plc, ↓wSlot_val, ↓wSlot_own, ↓wEsc_d, ↓wEsc_fresh, ↓wEsc_plc, ↓wEscS_val, ↓wEscS_own, ↓wEscs_nil, ↓wEscs_cons, ↓w_frz, ↓w_tup, ↓w_lst, ↓w_bool, ↓w_tru, ↓w_notT, ↓w_andT, ↓w_orT, ↓w_if, ↓w_and, ↓w_or, ↓w_not, ↓w_chain, ↓wB_bl, ↓w_noPart, ↓w_part, ↓w_slice, ↓w_call, ↓wPlc_cons, ↓wOwn_own, ↓w_callIo, ↓isLst_lst, ↓w_meth, ↓w_ext, ↓wExt_ok, ↓ws_next, ↓ws_bk, ↓ws_ct, ↓ws_rt, ↓ws_nx, ↓ws_seq, ↓ws_drop, ↓ws_ret, ↓ws_if, ↓ws_set, ↓wSet_d, ↓wSet_fresh, ↓wSet_plc, ↓ws_asg, ↓wt_name, ↓wt_nil, ↓wt_cons, ↓wt_tup, ↓wt_lst, ↓wPar_two, ↓ws_par, ↓wLstS_own, ↓wInt_int, ↓ws_item, ↓ws_for, ↓w_zip, ↓w_iter, ↓wItems_lst, ↓wItems_tup, ↓w_rng, ↓wRet_d, ↓wRet_fresh, ↓wRet_plc, ↓wRetS_val, ↓wRetS_own, ↓wRetS_ownS, ↓wI_some, ↓wI_none, ↓wI_ite, List.getElem?_cons_zero, List.getElem?_cons_succ, List.set_cons_zero, List.set_cons_succ, o_neg]
  refine hN _ _ _ _ _ hf (by omega) (by omega) (by omega) fun r f1 hf1 r0 r1 => ?_
  simp (disch := first | assumption | (simp <;> omega) | omega) only [↓w_var, ↓wVar_val, ↓wVar_own, ↓w_c, ↓w_nil, ↓w_cons, ↓w_app, ↓wViews_nil, ↓wViews_cons, ↓wView_d, ↓wView_fresh, ↓wView_plc, ↓wSlot_val, ↓wSlot_own, ↓wEsc_d, ↓wEsc_fresh, ↓wEsc_plc, ↓wEscS_val, ↓wEscS_own, ↓wEscs_nil, ↓wEscs_cons, ↓w_frz, ↓w_tup, ↓w_lst, ↓w_bool, ↓w_tru, ↓w_notT, ↓w_andT, ↓w_orT, ↓w_if, ↓w_and, ↓w_or, ↓w_not, ↓w_chain, ↓wB_bl, ↓w_noPart, ↓w_part, ↓w_slice, ↓w_call, ↓wPlc_cons, ↓wOwn_own, ↓w_callIo, ↓isLst_lst, ↓w_meth, ↓w_ext, ↓wExt_ok, ↓ws_next, ↓ws_bk, ↓ws_ct, ↓ws_rt, ↓ws_nx, ↓ws_seq, ↓ws_drop, ↓ws_ret, ↓ws_if, ↓ws_set, ↓wSet_d, ↓wSet_fresh, ↓wSet_plc, ↓ws_asg, ↓wt_name, ↓wt_nil, ↓wt_cons, ↓wt_tup, ↓wt_lst, ↓wPar_two, ↓ws_par, ↓wLstS_own, ↓wInt_int, ↓ws_item, ↓ws_for, ↓w_zip, ↓w_iter, ↓wItems_lst, ↓wItems_tup, ↓w_rng, ↓wRet_d, ↓wRet_fresh, ↓wRet_plc, ↓wRetS_val, ↓wRetS_own, ↓wRetS_ownS, ↓wI_some, ↓wI_none, ↓wI_ite, List.getElem?_cons_zero, List.getElem?_cons_succ, List.set_cons_zero, List.set_cons_succ, o_ixL]
  intro x hx
  obtain ⟨y, rfl, hy⟩ := frLits_ok (k := 8) (by kernel_rfl) hx
  try simp only [↓w_var, ↓wVar_val, ↓wVar_own, ↓w_c, ↓w_nil, ↓w_cons, ↓w_app, ↓wViews_nil, ↓wViews_cons, ↓wView_d, ↓wView_fresh, ↓wView_plc, ↓wSlot_val, ↓wSlot_own, ↓wEsc_d, ↓wEsc_fresh, ↓wEsc_plc, ↓wEscS_val, ↓wEscS_own, ↓wEscs_nil, ↓wEscs_cons, ↓w_frz, ↓w_tup, ↓w_lst, ↓w_bool, ↓w_tru, ↓w_notT, ↓w_andT, ↓w_orT, ↓w_if, ↓w_and, ↓w_or, ↓w_not, ↓w_chain, ↓wB_bl, ↓w_noPart, ↓w_part, ↓w_slice, ↓w_call, ↓wPlc_cons, ↓wOwn_own, ↓w_callIo, ↓isLst_lst, ↓w_meth, ↓w_ext, ↓wExt_ok, ↓ws_next, ↓ws_bk, ↓ws_ct, ↓ws_rt, ↓ws_nx, ↓ws_seq, ↓ws_drop, ↓ws_ret, ↓ws_if, ↓ws_set, ↓wSet_d, ↓wSet_fresh, ↓wSet_plc, ↓ws_asg, ↓wt_name, ↓wt_nil, ↓wt_cons, ↓wt_tup, ↓wt_lst, ↓wPar_two, ↓ws_par, ↓wLstS_own, ↓wInt_int, ↓ws_item, ↓ws_for, ↓w_zip, ↓w_iter, ↓wItems_lst, ↓wItems_tup, ↓w_rng, ↓wRet_d, ↓wRet_fresh, ↓wRet_plc, ↓wRetS_val, ↓wRetS_own, ↓wRetS_ownS, ↓wI_some, ↓wI_none, ↓wI_ite, List.getElem?_cons_zero, List.getElem?_cons_succ, List.set_cons_zero, List.set_cons_succ]
  exact h y f1 hf1 hy
noncomputable def upsB (N U : List D → FRes) : SDen :=
 sRet (dApp oTuple [dComp [1] (dRng [dC (.int 4)]) (tName 1) (dYes) (dApp oIx [dLst [dTup [dC (.int 0), dC (.int 1)], dCallIo U [dVar 0]], dApp oInt [dApp oGt [dCallIo N [dVar 0, dC (.int 3)], dC (.int 0)]]])])
/-- four small fractions -/
def UpsS (c : List D → FRes) : Prop := ∀ (b : Nat) (f : D) (Q : RV → D → Prop) (E : Exn → D → Prop), Fd b f → b ≤ 10000000000 → (∀ u f', Fd (b + 8) f' → U4 u → Q (.d u) f') → wF1 (c [f]) Q E
theorem four8_of {l : List D} {k : Nat} (hl : l.length = 4) (h : ∀ d ∈ l, ∃ x, d = fr x ∧ rb x ≤ k) : ∃ q : Nat → Rat, D.tup l = fourD q ∧ ∀ j, j < 4 → rb (q j) ≤ k := by
  match l, hl with
  | [a, b, c, d], _ =>
    obtain ⟨x, rfl, hx⟩ := h a (by simp)
    obtain ⟨y, rfl, hy⟩ := h b (by simp)
    obtain ⟨z, rfl, hz⟩ := h c (by simp)
    obtain ⟨w, rfl, hw⟩ := h d (by simp)
    refine ⟨fun j => if j = 0 then x else if j = 1 then y else if j = 2 then z else w, rfl, fun j hj => ?_⟩
    match j, hj with
    | 0, _ => exact hx
    | 1, _ => exact hy
    | 2, _ => exact hz
    | 3, _ => exact hw
theorem int_bl {b : Bool} {Q : RV → Prop} : wI (oInt [.bl b]) Q = Q (.d (.int (if b then 1 else 0))) := by cases b <;> exact id rfl
theorem two_ix {a b : D} {c : Bool} {Q : RV → Prop} : wI (oIx [.lst [a, b], .int (if c then 1 else 0)]) Q = Q (.d (if c then b else a)) := by cases c <;> exact id rfl
theorem ups_s {N U : List D → FRes} (hN : NextS N) (hU : UpS U) : UpsS (runFn 2 1 true (upsB N U)) := by
  intro b f Q E hf hb h
  refine w_run1 rfl ?_
  show wS (upsB _ _ [Sl.own f, .no]) _
  unfold upsB
  have r4 : (rangeD 0 4).length = 4 := rfl
  simp only [↓w_var, ↓wVar_val, ↓wVar_own, ↓w_c, ↓w_nil, ↓w_cons, ↓w_app, ↓wViews_nil, ↓wViews_cons, ↓wView_d, ↓wView_fresh, ↓wView_plc, ↓wSlot_val, ↓wSlot_own, ↓wEsc_d, ↓wEsc_fresh, ↓wEsc_plc, ↓wEscS_val, ↓wEscS_own, ↓wEscs_nil, ↓wEscs_cons, ↓w_frz, ↓w_tup, ↓w_lst, ↓w_bool, ↓w_tru, ↓w_notT, ↓w_andT, ↓w_orT, ↓w_if, ↓w_and, ↓w_or, ↓w_not, ↓w_chain, ↓wB_bl, ↓w_noPart, ↓w_part, ↓w_slice, ↓w_call, ↓wPlc_cons, ↓wOwn_own, ↓w_callIo, ↓isLst_lst, ↓w_meth, ↓w_ext, ↓wExt_ok, ↓ws_next, ↓ws_bk, ↓ws_ct, ↓ws_rt, ↓ws_nx, ↓ws_seq, ↓ws_drop, ↓ws_ret, ↓ws_if, ↓ws_set, ↓wSet_d, ↓wSet_fresh, ↓wSet_plc, ↓ws_asg, ↓wt_name, ↓wt_nil, ↓wt_cons, ↓wt_tup, ↓wt_lst, ↓wPar_two, ↓ws_par, ↓wLstS_own, ↓wInt_int, ↓ws_item, ↓ws_for, ↓w_zip, ↓w_iter, ↓wItems_lst, ↓wItems_tup, ↓w_rng, ↓wRet_d, ↓wRet_fresh, ↓wRet_plc, ↓wRetS_val, ↓wRetS_own, ↓wRetS_ownS, ↓wI_some, ↓wI_none, ↓wI_ite, List.getElem?_cons_zero, List.getElem?_cons_succ, List.set_cons_zero, List.set_cons_succ]
  refine comp_feed (k := 2) (s := 0) (fun d => ∃ x, d = fr x ∧ rb x ≤ 10) ?_
  simp only [↓w_var, ↓wVar_val, ↓wVar_own, ↓w_c, ↓w_nil, ↓w_cons, ↓w_app, ↓wViews_nil, ↓wViews_cons, ↓wView_d, ↓wView_fresh, ↓wView_plc, ↓wSlot_val, ↓wSlot_own, ↓wEsc_d, ↓wEsc_fresh, ↓wEsc_plc, ↓wEscS_val, ↓wEscS_own, ↓wEscs_nil, ↓wEscs_cons, ↓w_frz, ↓w_tup, ↓w_lst, ↓w_bool, ↓w_tru, ↓w_notT, ↓w_andT, ↓w_orT, ↓w_if, ↓w_and, ↓w_or, ↓w_not, ↓w_chain, ↓wB_bl, ↓w_noPart, ↓w_part, ↓w_slice, ↓w_call, ↓wPlc_cons, ↓wOwn_own, ↓w_callIo, ↓isLst_lst, ↓w_meth, ↓w_ext, ↓wExt_ok, ↓ws_next, ↓ws_bk, ↓ws_ct, ↓ws_rt, ↓ws_nx, ↓ws_seq, ↓ws_drop, ↓ws_ret, ↓ws_if, ↓ws_set, ↓wSet_d, ↓wSet_fresh, ↓wSet_plc, ↓ws_asg, ↓wt_name, ↓wt_nil, ↓wt_cons, ↓wt_tup, ↓wt_lst, ↓wPar_two, ↓ws_par, ↓wLstS_own, ↓wInt_int, ↓ws_item, ↓ws_for, ↓w_zip, ↓w_iter, ↓wItems_lst, ↓wItems_tup, ↓w_rng, ↓wRet_d, ↓wRet_fresh, ↓wRet_plc, ↓wRetS_val, ↓wRetS_own, ↓wRetS_ownS, ↓wI_some, ↓wI_none, ↓wI_ite, List.getElem?_cons_zero, List.getElem?_cons_succ, List.set_cons_zero, List.set_cons_succ, intsR1, rng4]
  refine ⟨by rw [r4]; omega, by omega, b, f, rfl, hf, fun d _ b' f' hb' hf' => ?_, fun l f' hl hl2 hf' => ?_⟩
  · rw [r4] at hb'
    try simp only [↓w_var, ↓wVar_val, ↓wVar_own, ↓w_c, ↓w_nil, ↓w_cons, ↓w_app, ↓wViews_nil, ↓wViews_cons, ↓wView_d, ↓wView_fresh, ↓wView_plc, ↓wSlot_val, ↓wSlot_own, ↓wEsc_d, ↓wEsc_fresh, ↓wEsc_plc, ↓wEscS_val, ↓wEscS_own, ↓wEscs_nil, ↓wEscs_cons, ↓w_frz, ↓w_tup, ↓w_lst, ↓w_bool, ↓w_tru, ↓w_notT, ↓w_andT, ↓w_orT, ↓w_if, ↓w_and, ↓w_or, ↓w_not, ↓w_chain, ↓wB_bl, ↓w_noPart, ↓w_part, ↓w_slice, ↓w_call, ↓wPlc_cons, ↓wOwn_own, ↓w_callIo, ↓isLst_lst, ↓w_meth, ↓w_ext, ↓wExt_ok, ↓ws_next, ↓ws_bk, ↓ws_ct, ↓ws_rt, ↓ws_nx, ↓ws_seq, ↓ws_drop, ↓ws_ret, ↓ws_if, ↓ws_set, ↓wSet_d, ↓wSet_fresh, ↓wSet_plc, ↓ws_asg, ↓wt_name, ↓wt_nil, ↓wt_cons, ↓wt_tup, ↓wt_lst, ↓wPar_two, ↓ws_par, ↓wLstS_own, ↓wInt_int, ↓ws_item, ↓ws_for, ↓w_zip, ↓w_iter, ↓wItems_lst, ↓wItems_tup, ↓w_rng, ↓wRet_d, ↓wRet_fresh, ↓wRet_plc, ↓wRetS_val, ↓wRetS_own, ↓wRetS_ownS, ↓wI_some, ↓wI_none, ↓wI_ite, List.getElem?_cons_zero, List.getElem?_cons_succ, List.set_cons_zero, List.set_cons_succ]
    refine hU _ _ _ _ hf' (by omega) fun x f1 hf1 hx => ?_
    simp only [↓w_var, ↓wVar_val, ↓wVar_own, ↓w_c, ↓w_nil, ↓w_cons, ↓w_app, ↓wViews_nil, ↓wViews_cons, ↓wView_d, ↓wView_fresh, ↓wView_plc, ↓wSlot_val, ↓wSlot_own, ↓wEsc_d, ↓wEsc_fresh, ↓wEsc_plc, ↓wEscS_val, ↓wEscS_own, ↓wEscs_nil, ↓wEscs_cons, ↓w_frz, ↓w_tup, ↓w_lst, ↓w_bool, ↓w_tru, ↓w_notT, ↓w_andT, ↓w_orT, ↓w_if, ↓w_and, ↓w_or, ↓w_not, ↓w_chain, ↓wB_bl, ↓w_noPart, ↓w_part, ↓w_slice, ↓w_call, ↓wPlc_cons, ↓wOwn_own, ↓w_callIo, ↓isLst_lst, ↓w_meth, ↓w_ext, ↓wExt_ok, ↓ws_next, ↓ws_bk, ↓ws_ct, ↓ws_rt, ↓ws_nx, ↓ws_seq, ↓ws_drop, ↓ws_ret, ↓ws_if, ↓ws_set, ↓wSet_d, ↓wSet_fresh, ↓wSet_plc, ↓ws_asg, ↓wt_name, ↓wt_nil, ↓wt_cons, ↓wt_tup, ↓wt_lst, ↓wPar_two, ↓ws_par, ↓wLstS_own, ↓wInt_int, ↓ws_item, ↓ws_for, ↓w_zip, ↓w_iter, ↓wItems_lst, ↓wItems_tup, ↓w_rng, ↓wRet_d, ↓wRet_fresh, ↓wRet_plc, ↓wRetS_val, ↓wRetS_own, ↓wRetS_ownS, ↓wI_some, ↓wI_none, ↓wI_ite, List.getElem?_cons_zero, List.getElem?_cons_succ, List.set_cons_zero, List.set_cons_succ]
    refine hN _ _ _ _ _ hf1 (by omega) (by omega) (by omega) fun r f2 hf2 r0 r1 => ?_
    simp only [↓w_var, ↓wVar_val, ↓wVar_own, ↓w_c, ↓w_nil, ↓w_cons, ↓w_app, ↓wViews_nil, ↓wViews_cons, ↓wView_d, ↓wView_fresh, ↓wView_plc, ↓wSlot_val, ↓wSlot_own, ↓wEsc_d, ↓wEsc_fresh, ↓wEsc_plc, ↓wEscS_val, ↓wEscS_own, ↓wEscs_nil, ↓wEscs_cons, ↓w_frz, ↓w_tup, ↓w_lst, ↓w_bool, ↓w_tru, ↓w_notT, ↓w_andT, ↓w_orT, ↓w_if, ↓w_and, ↓w_or, ↓w_not, ↓w_chain, ↓wB_bl, ↓w_noPart, ↓w_part, ↓w_slice, ↓w_call, ↓wPlc_cons, ↓wOwn_own, ↓w_callIo, ↓isLst_lst, ↓w_meth, ↓w_ext, ↓wExt_ok, ↓ws_next, ↓ws_bk, ↓ws_ct, ↓ws_rt, ↓ws_nx, ↓ws_seq, ↓ws_drop, ↓ws_ret, ↓ws_if, ↓ws_set, ↓wSet_d, ↓wSet_fresh, ↓wSet_plc, ↓ws_asg, ↓wt_name, ↓wt_nil, ↓wt_cons, ↓wt_tup, ↓wt_lst, ↓wPar_two, ↓ws_par, ↓wLstS_own, ↓wInt_int, ↓ws_item, ↓ws_for, ↓w_zip, ↓w_iter, ↓wItems_lst, ↓wItems_tup, ↓w_rng, ↓wRet_d, ↓wRet_fresh, ↓wRet_plc, ↓wRetS_val, ↓wRetS_own, ↓wRetS_ownS, ↓wI_some, ↓wI_none, ↓wI_ite, List.getElem?_cons_zero, List.getElem?_cons_succ, List.set_cons_zero, List.set_cons_succ, o_gt, int_bl, two_ix, fr_zero]
    refine ⟨?_, f2, hf2.mono (by omega), rfl⟩
    split
    · exact ⟨x, rfl, by omega⟩
    · exact ⟨0, rfl, by decide⟩
  · rw [r4] at hl hf'
    try simp only [↓w_var, ↓wVar_val, ↓wVar_own, ↓w_c, ↓w_nil, ↓w_cons, ↓w_app, ↓wViews_nil, ↓wViews_cons, ↓wView_d, ↓wView_fresh, ↓wView_plc, ↓wSlot_val, ↓wSlot_own, ↓wEsc_d, ↓wEsc_fresh, ↓wEsc_plc, ↓wEscS_val, ↓wEscS_own, ↓wEscs_nil, ↓wEscs_cons, ↓w_frz, ↓w_tup, ↓w_lst, ↓w_bool, ↓w_tru, ↓w_notT, ↓w_andT, ↓w_orT, ↓w_if, ↓w_and, ↓w_or, ↓w_not, ↓w_chain, ↓wB_bl, ↓w_noPart, ↓w_part, ↓w_slice, ↓w_call, ↓wPlc_cons, ↓wOwn_own, ↓w_callIo, ↓isLst_lst, ↓w_meth, ↓w_ext, ↓wExt_ok, ↓ws_next, ↓ws_bk, ↓ws_ct, ↓ws_rt, ↓ws_nx, ↓ws_seq, ↓ws_drop, ↓ws_ret, ↓ws_if, ↓ws_set, ↓wSet_d, ↓wSet_fresh, ↓wSet_plc, ↓ws_asg, ↓wt_name, ↓wt_nil, ↓wt_cons, ↓wt_tup, ↓wt_lst, ↓wPar_two, ↓ws_par, ↓wLstS_own, ↓wInt_int, ↓ws_item, ↓ws_for, ↓w_zip, ↓w_iter, ↓wItems_lst, ↓wItems_tup, ↓w_rng, ↓wRet_d, ↓wRet_fresh, ↓wRet_plc, ↓wRetS_val, ↓wRetS_own, ↓wRetS_ownS, ↓wI_some, ↓wI_none, ↓wI_ite, List.getElem?_cons_zero, List.getElem?_cons_succ, List.set_cons_zero, List.set_cons_succ]
    simp only [↓w_var, ↓wVar_val, ↓wVar_own, ↓w_c, ↓w_nil, ↓w_cons, ↓w_app, ↓wViews_nil, ↓wViews_cons, ↓wView_d, ↓wView_fresh, ↓wView_plc, ↓wSlot_val, ↓wSlot_own, ↓wEsc_d, ↓wEsc_fresh, ↓wEsc_plc, ↓wEscS_val, ↓wEscS_own, ↓wEscs_nil, ↓wEscs_cons, ↓w_frz, ↓w_tup, ↓w_lst, ↓w_bool, ↓w_tru, ↓w_notT, ↓w_andT, ↓w_orT, ↓w_if, ↓w_and, ↓w_or, ↓w_not, ↓w_chain, ↓wB_bl, ↓w_noPart, ↓w_part, ↓w_slice, ↓w_call, ↓wPlc_cons, ↓wOwn_own, ↓w_callIo, ↓isLst_lst, ↓w_meth, ↓w_ext, ↓wExt_ok, ↓ws_next, ↓ws_bk, ↓ws_ct, ↓ws_rt, ↓ws_nx, ↓ws_seq, ↓ws_drop, ↓ws_ret, ↓ws_if, ↓ws_set, ↓wSet_d, ↓wSet_fresh, ↓wSet_plc, ↓ws_asg, ↓wt_name, ↓wt_nil, ↓wt_cons, ↓wt_tup, ↓wt_lst, ↓wPar_two, ↓ws_par, ↓wLstS_own, ↓wInt_int, ↓ws_item, ↓ws_for, ↓w_zip, ↓w_iter, ↓wItems_lst, ↓wItems_tup, ↓w_rng, ↓wRet_d, ↓wRet_fresh, ↓wRet_plc, ↓wRetS_val, ↓wRetS_own, ↓wRetS_ownS, ↓wI_some, ↓wI_none, ↓wI_ite, List.getElem?_cons_zero, List.getElem?_cons_succ, List.set_cons_zero, List.set_cons_succ, tup_of]
    obtain ⟨q, eq, hq⟩ := four8_of hl hl2
    exact h _ f' (hf'.mono (by omega)) ⟨q, eq, hq⟩
noncomputable def shareB (W : List D → FRes) : SDen :=
 sSeq (sSet 1 (dCallIo W [dVar 0]))
 (sRet (dIf (dBool (dApp oEq [dApp oIx [dVar 1, dC (.int 0)], dC (.int 0)])) (dTup [dC (.int 1), dC (.int 1)]) (dVar 1)))
/-- a fraction, not nought -/
def ShareS (c : List D → FRes) : Prop := ∀ (b : Nat) (f : D) (Q : RV → D → Prop) (E : Exn → D → Prop), Fd b f → b ≤ 10000000000 → (∀ x f', Fd (b + 9) f' → rb x ≤ 210 → x ≠ 0 → Q (.d (fr x)) f') → wF1 (c [f]) Q E
theorem share_s {W : List D → FRes} (hW : DrawnS W) : ShareS (runFn 2 1 true (shareB W)) := by
  intro b f Q E hf hb h
  refine w_run1 rfl ?_
  show wS (shareB _ [Sl.own f, .no]) _
  unfold shareB
  simp only [↓w_var, ↓wVar_val, ↓wVar_own, ↓w_c, ↓w_nil, ↓w_cons, ↓w_app, ↓wViews_nil, ↓wViews_cons, ↓wView_d, ↓wView_fresh, ↓wView_plc, ↓wSlot_val, ↓wSlot_own, ↓wEsc_d, ↓wEsc_fresh, ↓wEsc_plc, ↓wEscS_val, ↓wEscS_own, ↓wEscs_nil, ↓wEscs_cons, ↓w_frz, ↓w_tup, ↓w_lst, ↓w_bool, ↓w_tru, ↓w_notT, ↓w_andT, ↓w_orT, ↓w_if, ↓w_and, ↓w_or, ↓w_not, ↓w_chain, ↓wB_bl, ↓w_noPart, ↓w_part, ↓w_slice, ↓w_call, ↓wPlc_cons, ↓wOwn_own, ↓w_callIo, ↓isLst_lst, ↓w_meth, ↓w_ext, ↓wExt_ok, ↓ws_next, ↓ws_bk, ↓ws_ct, ↓ws_rt, ↓ws_nx, ↓ws_seq, ↓ws_drop, ↓ws_ret, ↓ws_if, ↓ws_set, ↓wSet_d, ↓wSet_fresh, ↓wSet_plc, ↓ws_asg, ↓wt_name, ↓wt_nil, ↓wt_cons, ↓wt_tup, ↓wt_lst, ↓wPar_two, ↓ws_par, ↓wLstS_own, ↓wInt_int, ↓ws_item, ↓ws_for, ↓w_zip, ↓w_iter, ↓wItems_lst, ↓wItems_tup, ↓w_rng, ↓wRet_d, ↓wRet_fresh, ↓wRet_plc, ↓wRetS_val, ↓wRetS_own, ↓wRetS_ownS, ↓wI_some, ↓wI_none, ↓wI_ite, List.getElem?_cons_zero, List.getElem?_cons_succ, List.set_cons_zero, List.set_cons_succ]
  refine hW _ _ _ _ hf hb fun x f1 hf1 hx => ?_
  simp only [↓w_var, ↓wVar_val, ↓wVar_own, ↓w_c, ↓w_nil, ↓w_cons, ↓w_app, ↓wViews_nil, ↓wViews_cons, ↓wView_d, ↓wView_fresh, ↓wView_plc, ↓wSlot_val, ↓wSlot_own, ↓wEsc_d, ↓wEsc_fresh, ↓wEsc_plc, ↓wEscS_val, ↓wEscS_own, ↓wEscs_nil, ↓wEscs_cons, ↓w_frz, ↓w_tup, ↓w_lst, ↓w_bool, ↓w_tru, ↓w_notT, ↓w_andT, ↓w_orT, ↓w_if, ↓w_and, ↓w_or, ↓w_not, ↓w_chain, ↓wB_bl, ↓w_noPart, ↓w_part, ↓w_slice, ↓w_call, ↓wPlc_cons, ↓wOwn_own, ↓w_callIo, ↓isLst_lst, ↓w_meth, ↓w_ext, ↓wExt_ok, ↓ws_next, ↓ws_bk, ↓ws_ct, ↓ws_rt, ↓ws_nx, ↓ws_seq, ↓ws_drop, ↓ws_ret, ↓ws_if, ↓ws_set, ↓wSet_d, ↓wSet_fresh, ↓wSet_plc, ↓ws_asg, ↓wt_name, ↓wt_nil, ↓wt_cons, ↓wt_tup, ↓wt_lst, ↓wPar_two, ↓ws_par, ↓wLstS_own, ↓wInt_int, ↓ws_item, ↓ws_for, ↓w_zip, ↓w_iter, ↓wItems_lst, ↓wItems_tup, ↓w_rng, ↓wRet_d, ↓wRet_fresh, ↓wRet_plc, ↓wRetS_val, ↓wRetS_own, ↓wRetS_ownS, ↓wI_some, ↓wI_none, ↓wI_ite, List.getElem?_cons_zero, List.getElem?_cons_succ, List.set_cons_zero, List.set_cons_succ, fr_ix0, o_eqI, decide_eq_true_eq, fr_one]
  split
  · exact h 1 f1 hf1 (by decide) (by decide)
  · rename_i hn
    exact h x f1 hf1 hx fun e => hn (num_eq0.mpr e)
theorem IsH.parts : ∀ {k : Nat} {d : D}, IsH k d → ∃ (l : List D) (q : Nat → Rat), d = .tup [.tup l, fourD q] ∧ l.length ≤ 2 ∧ (∀ p ∈ l, IsP (k - 1) p) ∧ (k = 0 → l = []) ∧ ∀ j, j < 4 → rb (q j) ≤ 10
  | 0, d, h => by
    obtain ⟨_, rfl, q, rfl, hq⟩ := h
    exact ⟨[], q, rfl, by simp, (fun p hp => by cases hp), fun _ => rfl, hq⟩
  | k + 1, d, h => by
    obtain ⟨o, _, rfl, ⟨q, rfl, hq⟩, hl, hp⟩ := h
    exact ⟨o, q, rfl, hl, hp, fun e => by omega, hq⟩
theorem shP_over {k : Nat} {l : List D} (hk : k ≤ 10) (h : ∀ p ∈ l, IsP k p) : shP (.tup l) = true := shP_of (k := 3 * k + 4 + 1) (by
  rw [shN]
  exact shNs_of fun d hd => sh_part (h d hd)) (by omega)
noncomputable def barredB : SDen :=
 sSeq (sSet 1 (dComp [2] (dIter (dApp oIx [dVar 0, dC (.int 1)])) (tName 2) (dBool (dApp oNe [dVar 2, dTup [dC (.int 0), dC (.int 1)]])) (dVar 2)))
 (sRet (dAnd (dApp oEq [dApp oIx [dVar 0, dC (.int 0)], dTup []]) (dAnd (dApp oEq [dApp oIx [dApp oIx [dVar 0, dC (.int 1)], dC (.int 0)], dTup [dC (.int 0), dC (.int 1)]]) (dApp oIn [dVar 1, dTup [dLst [], dLst [dTup [dC (.int 1), dC (.int 1)]]]]))))
def BarredS (c : List D → FRes) : Prop := ∀ (k : Nat) (d : D), IsH k d → k ≤ 10 → ∃ b, c [d] = .ok (.d (.bl b)) none
theorem p_ix0 {a b : D} {Q : RV → Prop} : wI (oIx [.tup [a, b], .int 0]) Q = Q (.d a) := id rfl
theorem p_ix1 {a b : D} {Q : RV → Prop} : wI (oIx [.tup [a, b], .int 1]) Q = Q (.d b) := id rfl
theorem four_ix0 {q : Nat → Rat} {Q : RV → Prop} : wI (oIx [fourD q, .int 0]) Q = Q (.d (fr (q 0))) := id rfl
def neZ (d : D) : Bool := !eqP d (fr 0)
theorem o_inT {l m : List D} {Q : RV → Prop} (h1 : shP (.lst l) = true) (h2 : shP (.tup m) = true) : wI (oIn [.lst l, .tup m]) Q = Q (.d (.bl (m.any fun z => eqP z (.lst l)))) := by
  show wI (if (shP (.lst l) && shP (.tup m)) = true then _ else _) Q = _
  rw [if_pos (by rw [h1, h2]; rfl)]
  rfl
theorem barred_s : BarredS (runFn 3 1 false barredB) := by
  intro k d hd hk
  obtain ⟨l, q, rfl, hl, hp, _, hq⟩ := hd.parts
  have sl : shP (.tup l) = true := shP_over (k := k - 1) (by omega) hp
  have s0 : shP (.tup []) = true := shP_over (k := 0) (by omega) (fun p hp => by cases hp)
  have s2 : shP (.tup [.lst [], .lst [fr 1]]) = true := shP_of (k := 5) (by
    rw [shN, shNs, shNs, shNs, shN, shN, shNs, shNs, shNs, shN_fr]
    rfl) (by omega)
  have key : wF0 (runFn 3 1 false barredB [.tup [.tup l, fourD q]]) (fun r => ∃ b, r = .d (.bl b)) fun _ => False := by
    refine w_run0 rfl ?_
    show wS (barredB [Sl.val (.tup [.tup l, fourD q]), .no, .no]) _
    unfold barredB
    refine ws_cut (fun ρ => ∃ m, (∀ d ∈ m, ∃ x, d = fr x) ∧ ρ = [Sl.val (.tup [.tup l, fourD q]), .own (.lst m), .no]) ?_ ?_
    · rw [ws_set]
      refine comp_fil neZ id ?_
      unfold fourD
      simp only [↓w_var, ↓wVar_val, ↓wVar_own, ↓w_c, ↓w_nil, ↓w_cons, ↓w_app, ↓wViews_nil, ↓wViews_cons, ↓wView_d, ↓wView_fresh, ↓wView_plc, ↓wSlot_val, ↓wSlot_own, ↓wEsc_d, ↓wEsc_fresh, ↓wEsc_plc, ↓wEscS_val, ↓wEscS_own, ↓wEscs_nil, ↓wEscs_cons, ↓w_frz, ↓w_tup, ↓w_lst, ↓w_bool, ↓w_tru, ↓w_notT, ↓w_andT, ↓w_orT, ↓w_if, ↓w_and, ↓w_or, ↓w_not, ↓w_chain, ↓wB_bl, ↓w_noPart, ↓w_part, ↓w_slice, ↓w_call, ↓wPlc_cons, ↓wOwn_own, ↓w_callIo, ↓isLst_lst, ↓w_meth, ↓w_ext, ↓wExt_ok, ↓ws_next, ↓ws_bk, ↓ws_ct, ↓ws_rt, ↓ws_nx, ↓ws_seq, ↓ws_drop, ↓ws_ret, ↓ws_if, ↓ws_set, ↓wSet_d, ↓wSet_fresh, ↓wSet_plc, ↓ws_asg, ↓wt_name, ↓wt_nil, ↓wt_cons, ↓wt_tup, ↓wt_lst, ↓wPar_two, ↓ws_par, ↓wLstS_own, ↓wInt_int, ↓ws_item, ↓ws_for, ↓w_zip, ↓w_iter, ↓wItems_lst, ↓wItems_tup, ↓w_rng, ↓wRet_d, ↓wRet_fresh, ↓wRet_plc, ↓wRetS_val, ↓wRetS_own, ↓wRetS_ownS, ↓wI_some, ↓wI_none, ↓wI_ite, List.getElem?_cons_zero, List.getElem?_cons_succ, List.set_cons_zero, List.set_cons_succ, p_ix1]
      refine ⟨by simp, fun d hd => ?_, fun d hd _ => ?_, ?_⟩
      · have : ∃ x, d = fr x := by
          simp only [List.mem_cons, List.not_mem_nil, or_false] at hd
          rcases hd with rfl | rfl | rfl | rfl <;> exact ⟨_, rfl⟩
        obtain ⟨x, rfl⟩ := this
        simp only [↓w_var, ↓wVar_val, ↓wVar_own, ↓w_c, ↓w_nil, ↓w_cons, ↓w_app, ↓wViews_nil, ↓wViews_cons, ↓wView_d, ↓wView_fresh, ↓wView_plc, ↓wSlot_val, ↓wSlot_own, ↓wEsc_d, ↓wEsc_fresh, ↓wEsc_plc, ↓wEscS_val, ↓wEscS_own, ↓wEscs_nil, ↓wEscs_cons, ↓w_frz, ↓w_tup, ↓w_lst, ↓w_bool, ↓w_tru, ↓w_notT, ↓w_andT, ↓w_orT, ↓w_if, ↓w_and, ↓w_or, ↓w_not, ↓w_chain, ↓wB_bl, ↓w_noPart, ↓w_part, ↓w_slice, ↓w_call, ↓wPlc_cons, ↓wOwn_own, ↓w_callIo, ↓isLst_lst, ↓w_meth, ↓w_ext, ↓wExt_ok, ↓ws_next, ↓ws_bk, ↓ws_ct, ↓ws_rt, ↓ws_nx, ↓ws_seq, ↓ws_drop, ↓ws_ret, ↓ws_if, ↓ws_set, ↓wSet_d, ↓wSet_fresh, ↓wSet_plc, ↓ws_asg, ↓wt_name, ↓wt_nil, ↓wt_cons, ↓wt_tup, ↓wt_lst, ↓wPar_two, ↓ws_par, ↓wLstS_own, ↓wInt_int, ↓ws_item, ↓ws_for, ↓w_zip, ↓w_iter, ↓wItems_lst, ↓wItems_tup, ↓w_rng, ↓wRet_d, ↓wRet_fresh, ↓wRet_plc, ↓wRetS_val, ↓wRetS_own, ↓wRetS_ownS, ↓wI_some, ↓wI_none, ↓wI_ite, List.getElem?_cons_zero, List.getElem?_cons_succ, List.set_cons_zero, List.set_cons_succ, fr_zero, fr_ne]
        refine ⟨?_, trivial⟩
        unfold neZ
        rw [eq_fr]
        simp
      · exact ⟨rfl, trivial⟩
      · try simp only [↓w_var, ↓wVar_val, ↓wVar_own, ↓w_c, ↓w_nil, ↓w_cons, ↓w_app, ↓wViews_nil, ↓wViews_cons, ↓wView_d, ↓wView_fresh, ↓wView_plc, ↓wSlot_val, ↓wSlot_own, ↓wEsc_d, ↓wEsc_fresh, ↓wEsc_plc, ↓wEscS_val, ↓wEscS_own, ↓wEscs_nil, ↓wEscs_cons, ↓w_frz, ↓w_tup, ↓w_lst, ↓w_bool, ↓w_tru, ↓w_notT, ↓w_andT, ↓w_orT, ↓w_if, ↓w_and, ↓w_or, ↓w_not, ↓w_chain, ↓wB_bl, ↓w_noPart, ↓w_part, ↓w_slice, ↓w_call, ↓wPlc_cons, ↓wOwn_own, ↓w_callIo, ↓isLst_lst, ↓w_meth, ↓w_ext, ↓wExt_ok, ↓ws_next, ↓ws_bk, ↓ws_ct, ↓ws_rt, ↓ws_nx, ↓ws_seq, ↓ws_drop, ↓ws_ret, ↓ws_if, ↓ws_set, ↓wSet_d, ↓wSet_fresh, ↓wSet_plc, ↓ws_asg, ↓wt_name, ↓wt_nil, ↓wt_cons, ↓wt_tup, ↓wt_lst, ↓wPar_two, ↓ws_par, ↓wLstS_own, ↓wInt_int, ↓ws_item, ↓ws_for, ↓w_zip, ↓w_iter, ↓wItems_lst, ↓wItems_tup, ↓w_rng, ↓wRet_d, ↓wRet_fresh, ↓wRet_plc, ↓wRetS_val, ↓wRetS_own, ↓wRetS_ownS, ↓wI_some, ↓wI_none, ↓wI_ite, List.getElem?_cons_zero, List.getElem?_cons_succ, List.set_cons_zero, List.set_cons_succ]
        refine ⟨_, fun d hd => ?_, rfl⟩
        rw [List.map_id] at hd
        have hd := (List.mem_filter.mp hd).1
        simp only [List.mem_cons, List.not_mem_nil, or_false] at hd
        rcases hd with rfl | rfl | rfl | rfl <;> exact ⟨_, rfl⟩
    rintro _ ⟨m, hm, rfl⟩
    have sm : shP (.lst m) = true := shP_of (k := 3) (by
      rw [shN]
      exact shNs_of fun d hd => by
        obtain ⟨x, rfl⟩ := hm d hd
        exact shN_fr _ _) (by omega)
    simp (disch := assumption) only [↓w_var, ↓wVar_val, ↓wVar_own, ↓w_c, ↓w_nil, ↓w_cons, ↓w_app, ↓wViews_nil, ↓wViews_cons, ↓wView_d, ↓wView_fresh, ↓wView_plc, ↓wSlot_val, ↓wSlot_own, ↓wEsc_d, ↓wEsc_fresh, ↓wEsc_plc, ↓wEscS_val, ↓wEscS_own, ↓wEscs_nil, ↓wEscs_cons, ↓w_frz, ↓w_tup, ↓w_lst, ↓w_bool, ↓w_tru, ↓w_notT, ↓w_andT, ↓w_orT, ↓w_if, ↓w_and, ↓w_or, ↓w_not, ↓w_chain, ↓wB_bl, ↓w_noPart, ↓w_part, ↓w_slice, ↓w_call, ↓wPlc_cons, ↓wOwn_own, ↓w_callIo, ↓isLst_lst, ↓w_meth, ↓w_ext, ↓wExt_ok, ↓ws_next, ↓ws_bk, ↓ws_ct, ↓ws_rt, ↓ws_nx, ↓ws_seq, ↓ws_drop, ↓ws_ret, ↓ws_if, ↓ws_set, ↓wSet_d, ↓wSet_fresh, ↓wSet_plc, ↓ws_asg, ↓wt_name, ↓wt_nil, ↓wt_cons, ↓wt_tup, ↓wt_lst, ↓wPar_two, ↓ws_par, ↓wLstS_own, ↓wInt_int, ↓ws_item, ↓ws_for, ↓w_zip, ↓w_iter, ↓wItems_lst, ↓wItems_tup, ↓w_rng, ↓wRet_d, ↓wRet_fresh, ↓wRet_plc, ↓wRetS_val, ↓wRetS_own, ↓wRetS_ownS, ↓wI_some, ↓wI_none, ↓wI_ite, List.getElem?_cons_zero, List.getElem?_cons_succ, List.set_cons_zero, List.set_cons_succ, p_ix0, o_eq, tru_bl]
    split
    · simp (disch := assumption) only [↓w_var, ↓wVar_val, ↓wVar_own, ↓w_c, ↓w_nil, ↓w_cons, ↓w_app, ↓wViews_nil, ↓wViews_cons, ↓wView_d, ↓wView_fresh, ↓wView_plc, ↓wSlot_val, ↓wSlot_own, ↓wEsc_d, ↓wEsc_fresh, ↓wEsc_plc, ↓wEscS_val, ↓wEscS_own, ↓wEscs_nil, ↓wEscs_cons, ↓w_frz, ↓w_tup, ↓w_lst, ↓w_bool, ↓w_tru, ↓w_notT, ↓w_andT, ↓w_orT, ↓w_if, ↓w_and, ↓w_or, ↓w_not, ↓w_chain, ↓wB_bl, ↓w_noPart, ↓w_part, ↓w_slice, ↓w_call, ↓wPlc_cons, ↓wOwn_own, ↓w_callIo, ↓isLst_lst, ↓w_meth, ↓w_ext, ↓wExt_ok, ↓ws_next, ↓ws_bk, ↓ws_ct, ↓ws_rt, ↓ws_nx, ↓ws_seq, ↓ws_drop, ↓ws_ret, ↓ws_if, ↓ws_set, ↓wSet_d, ↓wSet_fresh, ↓wSet_plc, ↓ws_asg, ↓wt_name, ↓wt_nil, ↓wt_cons, ↓wt_tup, ↓wt_lst, ↓wPar_two, ↓ws_par, ↓wLstS_own, ↓wInt_int, ↓ws_item, ↓ws_for, ↓w_zip, ↓w_iter, ↓wItems_lst, ↓wItems_tup, ↓w_rng, ↓wRet_d, ↓wRet_fresh, ↓wRet_plc, ↓wRetS_val, ↓wRetS_own, ↓wRetS_ownS, ↓wI_some, ↓wI_none, ↓wI_ite, List.getElem?_cons_zero, List.getElem?_cons_succ, List.set_cons_zero, List.set_cons_succ, p_ix1, four_ix0, fr_zero, fr_one, fr_eq, tru_bl]
      split
      · simp (disch := assumption) only [↓w_var, ↓wVar_val, ↓wVar_own, ↓w_c, ↓w_nil, ↓w_cons, ↓w_app, ↓wViews_nil, ↓wViews_cons, ↓wView_d, ↓wView_fresh, ↓wView_plc, ↓wSlot_val, ↓wSlot_own, ↓wEsc_d, ↓wEsc_fresh, ↓wEsc_plc, ↓wEscS_val, ↓wEscS_own, ↓wEscs_nil, ↓wEscs_cons, ↓w_frz, ↓w_tup, ↓w_lst, ↓w_bool, ↓w_tru, ↓w_notT, ↓w_andT, ↓w_orT, ↓w_if, ↓w_and, ↓w_or, ↓w_not, ↓w_chain, ↓wB_bl, ↓w_noPart, ↓w_part, ↓w_slice, ↓w_call, ↓wPlc_cons, ↓wOwn_own, ↓w_callIo, ↓isLst_lst, ↓w_meth, ↓w_ext, ↓wExt_ok, ↓ws_next, ↓ws_bk, ↓ws_ct, ↓ws_rt, ↓ws_nx, ↓ws_seq, ↓ws_drop, ↓ws_ret, ↓ws_if, ↓ws_set, ↓wSet_d, ↓wSet_fresh, ↓wSet_plc, ↓ws_asg, ↓wt_name, ↓wt_nil, ↓wt_cons, ↓wt_tup, ↓wt_lst, ↓wPar_two, ↓ws_par, ↓wLstS_own, ↓wInt_int, ↓ws_item, ↓ws_for, ↓w_zip, ↓w_iter, ↓wItems_lst, ↓wItems_tup, ↓w_rng, ↓wRet_d, ↓wRet_fresh, ↓wRet_plc, ↓wRetS_val, ↓wRetS_own, ↓wRetS_ownS, ↓wI_some, ↓wI_none, ↓wI_ite, List.getElem?_cons_zero, List.getElem?_cons_succ, List.set_cons_zero, List.set_cons_succ, fr_one, o_inT]
        exact ⟨_, rfl⟩
      · try simp only [↓w_var, ↓wVar_val, ↓wVar_own, ↓w_c, ↓w_nil, ↓w_cons, ↓w_app, ↓wViews_nil, ↓wViews_cons, ↓wView_d, ↓wView_fresh, ↓wView_plc, ↓wSlot_val, ↓wSlot_own, ↓wEsc_d, ↓wEsc_fresh, ↓wEsc_plc, ↓wEscS_val, ↓wEscS_own, ↓wEscs_nil, ↓wEscs_cons, ↓w_frz, ↓w_tup, ↓w_lst, ↓w_bool, ↓w_tru, ↓w_notT, ↓w_andT, ↓w_orT, ↓w_if, ↓w_and, ↓w_or, ↓w_not, ↓w_chain, ↓wB_bl, ↓w_noPart, ↓w_part, ↓w_slice, ↓w_call, ↓wPlc_cons, ↓wOwn_own, ↓w_callIo, ↓isLst_lst, ↓w_meth, ↓w_ext, ↓wExt_ok, ↓ws_next, ↓ws_bk, ↓ws_ct, ↓ws_rt, ↓ws_nx, ↓ws_seq, ↓ws_drop, ↓ws_ret, ↓ws_if, ↓ws_set, ↓wSet_d, ↓wSet_fresh, ↓wSet_plc, ↓ws_asg, ↓wt_name, ↓wt_nil, ↓wt_cons, ↓wt_tup, ↓wt_lst, ↓wPar_two, ↓ws_par, ↓wLstS_own, ↓wInt_int, ↓ws_item, ↓ws_for, ↓w_zip, ↓w_iter, ↓wItems_lst, ↓wItems_tup, ↓w_rng, ↓wRet_d, ↓wRet_fresh, ↓wRet_plc, ↓wRetS_val, ↓wRetS_own, ↓wRetS_ownS, ↓wI_some, ↓wI_none, ↓wI_ite, List.getElem?_cons_zero, List.getElem?_cons_succ, List.set_cons_zero, List.set_cons_succ]
        exact ⟨_, rfl⟩
    · try simp only [↓w_var, ↓wVar_val, ↓wVar_own, ↓w_c, ↓w_nil, ↓w_cons, ↓w_app, ↓wViews_nil, ↓wViews_cons, ↓wView_d, ↓wView_fresh, ↓wView_plc, ↓wSlot_val, ↓wSlot_own, ↓wEsc_d, ↓wEsc_fresh, ↓wEsc_plc, ↓wEscS_val, ↓wEscS_own, ↓wEscs_nil, ↓wEscs_cons, ↓w_frz, ↓w_tup, ↓w_lst, ↓w_bool, ↓w_tru, ↓w_notT, ↓w_andT, ↓w_orT, ↓w_if, ↓w_and, ↓w_or, ↓w_not, ↓w_chain, ↓wB_bl, ↓w_noPart, ↓w_part, ↓w_slice, ↓w_call, ↓wPlc_cons, ↓wOwn_own, ↓w_callIo, ↓isLst_lst, ↓w_meth, ↓w_ext, ↓wExt_ok, ↓ws_next, ↓ws_bk, ↓ws_ct, ↓ws_rt, ↓ws_nx, ↓ws_seq, ↓ws_drop, ↓ws_ret, ↓ws_if, ↓ws_set, ↓wSet_d, ↓wSet_fresh, ↓wSet_plc, ↓ws_asg, ↓wt_name, ↓wt_nil, ↓wt_cons, ↓wt_tup, ↓wt_lst, ↓wPar_two, ↓ws_par, ↓wLstS_own, ↓wInt_int, ↓ws_item, ↓ws_for, ↓w_zip, ↓w_iter, ↓wItems_lst, ↓wItems_tup, ↓w_rng, ↓wRet_d, ↓wRet_fresh, ↓wRet_plc, ↓wRetS_val, ↓wRetS_own, ↓wRetS_ownS, ↓wI_some, ↓wI_none, ↓wI_ite, List.getElem?_cons_zero, List.getElem?_cons_succ, List.set_cons_zero, List.set_cons_succ]
      exact ⟨_, rfl⟩
  obtain ⟨r, e, b, rfl⟩ := ex_of_w key
  exact ⟨b, e⟩
/-! ### drawn: heights, growths -/
def hc : Nat → Nat
  | 0 => 8
  | k + 1 => 2 * hc k + 28
noncomputable def heightB (N G B U : List D → FRes) : SDen :=
 sSeq (sSet 2 (dTup []))
 (sSeq (sIf (dAndT (dBool (dApp oGt [dVar 1, dC (.int 0)])) (dBool (dApp oEq [dCallIo N [dVar 0, dC (.int 3)], dC (.int 0)])))
 (sSet 2 (dApp oTuple [dComp [3] (dIter (dCallIo G [dVar 0, dC (.int 2), dApp oSub [dVar 1, dC (.int 1)]])) (tName 3) (dNotT (dTru (dCall B [dApp oIx [dVar 3, dC (.int 0)]]))) (dVar 3)]))
 (sNext))
 (sRet (dTup [dVar 2, dCallIo U [dVar 0]])))
noncomputable def growthB (N H W : List D → FRes) : SDen :=
 sSeq (sSet 3 (dLst []))
 (sSeq (sFor (dRng [dCallIo N [dVar 0, dApp oAdd [dVar 1, dC (.int 1)]]]) (tName 4)
 (sSeq (sSet 5 (dCallIo H [dVar 0, dVar 2]))
 (sSet 3 (dApp oAdd [dComp [6] (dIter (dVar 3)) (tName 6) (dBool (dApp oNe [dApp oIx [dVar 6, dC (.int 0)], dVar 5])) (dVar 6), dLst [dTup [dVar 5, dCallIo W [dVar 0]]]]))))
 (sRet (dApp oTuple [dApp oSorted [dVar 3]])))
def HeightS (k : Nat) (c : List D → FRes) : Prop := ∀ (b : Nat) (f : D) (Q : RV → D → Prop) (E : Exn → D → Prop), Fd b f → b + 100 * hc k ≤ 1000000000 → (∀ d f', Fd (b + hc k) f' → IsH k d → Q (.d d) f') → wF1 (c [f, .int (k : Nat)]) Q E
def GrowthS (k : Nat) (c : List D → FRes) : Prop := ∀ (b m : Nat) (f : D) (Q : RV → D → Prop) (E : Exn → D → Prop), Fd b f → m ≤ 5 → b + 110 * (hc k + 9) ≤ 1000000000 → (∀ l f', Fd (b + 1 + m * (hc k + 9)) f' → l.length ≤ m → (∀ p ∈ l, IsP k p) → Q (.d (.tup l)) f') → wF1 (c [f, .int (m : Nat), .int (k : Nat)]) Q E
def first : D → D
  | .tup (h :: _) => h
  | d => d
noncomputable def okB (B : List D → FRes) (d : D) : Bool := match B [first d] with
  | .ok (.d (.bl b)) none => !b
  | _ => false
theorem height0_s {N G B U : List D → FRes} (hU : UpsS U) : HeightS 0 (runFn 4 2 true (heightB N G B U)) := by
  intro b f Q E hf hb h
  refine w_run1 rfl ?_
  show wS (heightB _ _ _ _ [Sl.own f, .val (.int (0 : Nat)), .no, .no]) _
  unfold heightB
  have h0 : decide ((0 : Int) < ((0 : Nat) : Int)) = false := rfl
  simp only [↓w_var, ↓wVar_val, ↓wVar_own, ↓w_c, ↓w_nil, ↓w_cons, ↓w_app, ↓wViews_nil, ↓wViews_cons, ↓wView_d, ↓wView_fresh, ↓wView_plc, ↓wSlot_val, ↓wSlot_own, ↓wEsc_d, ↓wEsc_fresh, ↓wEsc_plc, ↓wEscS_val, ↓wEscS_own, ↓wEscs_nil, ↓wEscs_cons, ↓w_frz, ↓w_tup, ↓w_lst, ↓w_bool, ↓w_tru, ↓w_notT, ↓w_andT, ↓w_orT, ↓w_if, ↓w_and, ↓w_or, ↓w_not, ↓w_chain, ↓wB_bl, ↓w_noPart, ↓w_part, ↓w_slice, ↓w_call, ↓wPlc_cons, ↓wOwn_own, ↓w_callIo, ↓isLst_lst, ↓w_meth, ↓w_ext, ↓wExt_ok, ↓ws_next, ↓ws_bk, ↓ws_ct, ↓ws_rt, ↓ws_nx, ↓ws_seq, ↓ws_drop, ↓ws_ret, ↓ws_if, ↓ws_set, ↓wSet_d, ↓wSet_fresh, ↓wSet_plc, ↓ws_asg, ↓wt_name, ↓wt_nil, ↓wt_cons, ↓wt_tup, ↓wt_lst, ↓wPar_two, ↓ws_par, ↓wLstS_own, ↓wInt_int, ↓ws_item, ↓ws_for, ↓w_zip, ↓w_iter, ↓wItems_lst, ↓wItems_tup, ↓w_rng, ↓wRet_d, ↓wRet_fresh, ↓wRet_plc, ↓wRetS_val, ↓wRetS_own, ↓wRetS_ownS, ↓wI_some, ↓wI_none, ↓wI_ite, List.getElem?_cons_zero, List.getElem?_cons_succ, List.set_cons_zero, List.set_cons_succ, o_gt, h0, Bool.false_eq_true, ↓reduceIte]
  refine hU _ _ _ _ hf (by omega) fun u f1 hf1 hu => ?_
  simp only [↓w_var, ↓wVar_val, ↓wVar_own, ↓w_c, ↓w_nil, ↓w_cons, ↓w_app, ↓wViews_nil, ↓wViews_cons, ↓wView_d, ↓wView_fresh, ↓wView_plc, ↓wSlot_val, ↓wSlot_own, ↓wEsc_d, ↓wEsc_fresh, ↓wEsc_plc, ↓wEscS_val, ↓wEscS_own, ↓wEscs_nil, ↓wEscs_cons, ↓w_frz, ↓w_tup, ↓w_lst, ↓w_bool, ↓w_tru, ↓w_notT, ↓w_andT, ↓w_orT, ↓w_if, ↓w_and, ↓w_or, ↓w_not, ↓w_chain, ↓wB_bl, ↓w_noPart, ↓w_part, ↓w_slice, ↓w_call, ↓wPlc_cons, ↓wOwn_own, ↓w_callIo, ↓isLst_lst, ↓w_meth, ↓w_ext, ↓wExt_ok, ↓ws_next, ↓ws_bk, ↓ws_ct, ↓ws_rt, ↓ws_nx, ↓ws_seq, ↓ws_drop, ↓ws_ret, ↓ws_if, ↓ws_set, ↓wSet_d, ↓wSet_fresh, ↓wSet_plc, ↓ws_asg, ↓wt_name, ↓wt_nil, ↓wt_cons, ↓wt_tup, ↓wt_lst, ↓wPar_two, ↓ws_par, ↓wLstS_own, ↓wInt_int, ↓ws_item, ↓ws_for, ↓w_zip, ↓w_iter, ↓wItems_lst, ↓wItems_tup, ↓w_rng, ↓wRet_d, ↓wRet_fresh, ↓wRet_plc, ↓wRetS_val, ↓wRetS_own, ↓wRetS_ownS, ↓wI_some, ↓wI_none, ↓wI_ite, List.getElem?_cons_zero, List.getElem?_cons_succ, List.set_cons_zero, List.set_cons_succ]
  exact h _ f1 hf1 ⟨u, rfl, hu⟩
theorem height_s {k : Nat} {N G B U : List D → FRes} (hk : k < 10) (hN : NextS N) (hG : GrowthS k G) (hB : BarredS B) (hU : UpsS U) : HeightS (k + 1) (runFn 4 2 true (heightB N G B U)) := by
  intro b f Q E hf hb h
  have ec : hc (k + 1) = 2 * hc k + 28 := rfl
  rw [ec] at hb h
  refine w_run1 rfl ?_
  show wS (heightB _ _ _ _ [Sl.own f, .val (.int ((k + 1 : Nat) : Int)), .no, .no]) _
  unfold heightB
  refine ws_cut (fun ρ => ρ = [Sl.own f, .val (.int ((k + 1 : Nat) : Int)), .val (.tup []), .no]) ?_ ?_
  · simp only [↓w_var, ↓wVar_val, ↓wVar_own, ↓w_c, ↓w_nil, ↓w_cons, ↓w_app, ↓wViews_nil, ↓wViews_cons, ↓wView_d, ↓wView_fresh, ↓wView_plc, ↓wSlot_val, ↓wSlot_own, ↓wEsc_d, ↓wEsc_fresh, ↓wEsc_plc, ↓wEscS_val, ↓wEscS_own, ↓wEscs_nil, ↓wEscs_cons, ↓w_frz, ↓w_tup, ↓w_lst, ↓w_bool, ↓w_tru, ↓w_notT, ↓w_andT, ↓w_orT, ↓w_if, ↓w_and, ↓w_or, ↓w_not, ↓w_chain, ↓wB_bl, ↓w_noPart, ↓w_part, ↓w_slice, ↓w_call, ↓wPlc_cons, ↓wOwn_own, ↓w_callIo, ↓isLst_lst, ↓w_meth, ↓w_ext, ↓wExt_ok, ↓ws_next, ↓ws_bk, ↓ws_ct, ↓ws_rt, ↓ws_nx, ↓ws_seq, ↓ws_drop, ↓ws_ret, ↓ws_if, ↓ws_set, ↓wSet_d, ↓wSet_fresh, ↓wSet_plc, ↓ws_asg, ↓wt_name, ↓wt_nil, ↓wt_cons, ↓wt_tup, ↓wt_lst, ↓wPar_two, ↓ws_par, ↓wLstS_own, ↓wInt_int, ↓ws_item, ↓ws_for, ↓w_zip, ↓w_iter, ↓wItems_lst, ↓wItems_tup, ↓w_rng, ↓wRet_d, ↓wRet_fresh, ↓wRet_plc, ↓wRetS_val, ↓wRetS_own, ↓wRetS_ownS, ↓wI_some, ↓wI_none, ↓wI_ite, List.getElem?_cons_zero, List.getElem?_cons_succ, List.set_cons_zero, List.set_cons_succ]
  rintro _ rfl
  refine ws_cut (fun ρ => ∃ l f, l.length ≤ 2 ∧ (∀ p ∈ l, IsP k p) ∧ Fd (b + (2 * hc k + 20)) f ∧ ρ = [Sl.own f, .val (.int ((k + 1 : Nat) : Int)), .val (.tup l), .no]) ?_ ?_
  · have h0 : decide ((0 : Int) < ((k + 1 : Nat) : Int)) = true := decide_eq_true (by omega)
    have ek : ((k + 1 : Nat) : Int) - 1 = (k : Nat) := by omega
    simp only [↓w_var, ↓wVar_val, ↓wVar_own, ↓w_c, ↓w_nil, ↓w_cons, ↓w_app, ↓wViews_nil, ↓wViews_cons, ↓wView_d, ↓wView_fresh, ↓wView_plc, ↓wSlot_val, ↓wSlot_own, ↓wEsc_d, ↓wEsc_fresh, ↓wEsc_plc, ↓wEscS_val, ↓wEscS_own, ↓wEscs_nil, ↓wEscs_cons, ↓w_frz, ↓w_tup, ↓w_lst, ↓w_bool, ↓w_tru, ↓w_notT, ↓w_andT, ↓w_orT, ↓w_if, ↓w_and, ↓w_or, ↓w_not, ↓w_chain, ↓wB_bl, ↓w_noPart, ↓w_part, ↓w_slice, ↓w_call, ↓wPlc_cons, ↓wOwn_own, ↓w_callIo, ↓isLst_lst, ↓w_meth, ↓w_ext, ↓wExt_ok, ↓ws_next, ↓ws_bk, ↓ws_ct, ↓ws_rt, ↓ws_nx, ↓ws_seq, ↓ws_drop, ↓ws_ret, ↓ws_if, ↓ws_set, ↓wSet_d, ↓wSet_fresh, ↓wSet_plc, ↓ws_asg, ↓wt_name, ↓wt_nil, ↓wt_cons, ↓wt_tup, ↓wt_lst, ↓wPar_two, ↓ws_par, ↓wLstS_own, ↓wInt_int, ↓ws_item, ↓ws_for, ↓w_zip, ↓w_iter, ↓wItems_lst, ↓wItems_tup, ↓w_rng, ↓wRet_d, ↓wRet_fresh, ↓wRet_plc, ↓wRetS_val, ↓wRetS_own, ↓wRetS_ownS, ↓wI_some, ↓wI_none, ↓wI_ite, List.getElem?_cons_zero, List.getElem?_cons_succ, List.set_cons_zero, List.set_cons_succ, o_gt, h0, ↓reduceIte]
    refine hN _ _ _ _ _ hf (by omega) (by omega) (by omega) fun r f1 hf1 r0 r1 => ?_
    simp only [↓w_var, ↓wVar_val, ↓wVar_own, ↓w_c, ↓w_nil, ↓w_cons, ↓w_app, ↓wViews_nil, ↓wViews_cons, ↓wView_d, ↓wView_fresh, ↓wView_plc, ↓wSlot_val, ↓wSlot_own, ↓wEsc_d, ↓wEsc_fresh, ↓wEsc_plc, ↓wEscS_val, ↓wEscS_own, ↓wEscs_nil, ↓wEscs_cons, ↓w_frz, ↓w_tup, ↓w_lst, ↓w_bool, ↓w_tru, ↓w_notT, ↓w_andT, ↓w_orT, ↓w_if, ↓w_and, ↓w_or, ↓w_not, ↓w_chain, ↓wB_bl, ↓w_noPart, ↓w_part, ↓w_slice, ↓w_call, ↓wPlc_cons, ↓wOwn_own, ↓w_callIo, ↓isLst_lst, ↓w_meth, ↓w_ext, ↓wExt_ok, ↓ws_next, ↓ws_bk, ↓ws_ct, ↓ws_rt, ↓ws_nx, ↓ws_seq, ↓ws_drop, ↓ws_ret, ↓ws_if, ↓ws_set, ↓wSet_d, ↓wSet_fresh, ↓wSet_plc, ↓ws_asg, ↓wt_name, ↓wt_nil, ↓wt_cons, ↓wt_tup, ↓wt_lst, ↓wPar_two, ↓ws_par, ↓wLstS_own, ↓wInt_int, ↓ws_item, ↓ws_for, ↓w_zip, ↓w_iter, ↓wItems_lst, ↓wItems_tup, ↓w_rng, ↓wRet_d, ↓wRet_fresh, ↓wRet_plc, ↓wRetS_val, ↓wRetS_own, ↓wRetS_ownS, ↓wI_some, ↓wI_none, ↓wI_ite, List.getElem?_cons_zero, List.getElem?_cons_succ, List.set_cons_zero, List.set_cons_succ, o_eqI, decide_eq_true_eq]
    split
    · try simp only [↓w_var, ↓wVar_val, ↓wVar_own, ↓w_c, ↓w_nil, ↓w_cons, ↓w_app, ↓wViews_nil, ↓wViews_cons, ↓wView_d, ↓wView_fresh, ↓wView_plc, ↓wSlot_val, ↓wSlot_own, ↓wEsc_d, ↓wEsc_fresh, ↓wEsc_plc, ↓wEscS_val, ↓wEscS_own, ↓wEscs_nil, ↓wEscs_cons, ↓w_frz, ↓w_tup, ↓w_lst, ↓w_bool, ↓w_tru, ↓w_notT, ↓w_andT, ↓w_orT, ↓w_if, ↓w_and, ↓w_or, ↓w_not, ↓w_chain, ↓wB_bl, ↓w_noPart, ↓w_part, ↓w_slice, ↓w_call, ↓wPlc_cons, ↓wOwn_own, ↓w_callIo, ↓isLst_lst, ↓w_meth, ↓w_ext, ↓wExt_ok, ↓ws_next, ↓ws_bk, ↓ws_ct, ↓ws_rt, ↓ws_nx, ↓ws_seq, ↓ws_drop, ↓ws_ret, ↓ws_if, ↓ws_set, ↓wSet_d, ↓wSet_fresh, ↓wSet_plc, ↓ws_asg, ↓wt_name, ↓wt_nil, ↓wt_cons, ↓wt_tup, ↓wt_lst, ↓wPar_two, ↓ws_par, ↓wLstS_own, ↓wInt_int, ↓ws_item, ↓ws_for, ↓w_zip, ↓w_iter, ↓wItems_lst, ↓wItems_tup, ↓w_rng, ↓wRet_d, ↓wRet_fresh, ↓wRet_plc, ↓wRetS_val, ↓wRetS_own, ↓wRetS_ownS, ↓wI_some, ↓wI_none, ↓wI_ite, List.getElem?_cons_zero, List.getElem?_cons_succ, List.set_cons_zero, List.set_cons_succ]
      refine comp_fil (okB B) id ?_
      simp only [↓w_var, ↓wVar_val, ↓wVar_own, ↓w_c, ↓w_nil, ↓w_cons, ↓w_app, ↓wViews_nil, ↓wViews_cons, ↓wView_d, ↓wView_fresh, ↓wView_plc, ↓wSlot_val, ↓wSlot_own, ↓wEsc_d, ↓wEsc_fresh, ↓wEsc_plc, ↓wEscS_val, ↓wEscS_own, ↓wEscs_nil, ↓wEscs_cons, ↓w_frz, ↓w_tup, ↓w_lst, ↓w_bool, ↓w_tru, ↓w_notT, ↓w_andT, ↓w_orT, ↓w_if, ↓w_and, ↓w_or, ↓w_not, ↓w_chain, ↓wB_bl, ↓w_noPart, ↓w_part, ↓w_slice, ↓w_call, ↓wPlc_cons, ↓wOwn_own, ↓w_callIo, ↓isLst_lst, ↓w_meth, ↓w_ext, ↓wExt_ok, ↓ws_next, ↓ws_bk, ↓ws_ct, ↓ws_rt, ↓ws_nx, ↓ws_seq, ↓ws_drop, ↓ws_ret, ↓ws_if, ↓ws_set, ↓wSet_d, ↓wSet_fresh, ↓wSet_plc, ↓ws_asg, ↓wt_name, ↓wt_nil, ↓wt_cons, ↓wt_tup, ↓wt_lst, ↓wPar_two, ↓ws_par, ↓wLstS_own, ↓wInt_int, ↓ws_item, ↓ws_for, ↓w_zip, ↓w_iter, ↓wItems_lst, ↓wItems_tup, ↓w_rng, ↓wRet_d, ↓wRet_fresh, ↓wRet_plc, ↓wRetS_val, ↓wRetS_own, ↓wRetS_ownS, ↓wI_some, ↓wI_none, ↓wI_ite, List.getElem?_cons_zero, List.getElem?_cons_succ, List.set_cons_zero, List.set_cons_succ, o_sub, ek]
      refine hG (b + 1) 2 f1 _ _ hf1 (by omega) (by omega) fun l f2 hf2 hl hp => ?_
      simp only [↓w_var, ↓wVar_val, ↓wVar_own, ↓w_c, ↓w_nil, ↓w_cons, ↓w_app, ↓wViews_nil, ↓wViews_cons, ↓wView_d, ↓wView_fresh, ↓wView_plc, ↓wSlot_val, ↓wSlot_own, ↓wEsc_d, ↓wEsc_fresh, ↓wEsc_plc, ↓wEscS_val, ↓wEscS_own, ↓wEscs_nil, ↓wEscs_cons, ↓w_frz, ↓w_tup, ↓w_lst, ↓w_bool, ↓w_tru, ↓w_notT, ↓w_andT, ↓w_orT, ↓w_if, ↓w_and, ↓w_or, ↓w_not, ↓w_chain, ↓wB_bl, ↓w_noPart, ↓w_part, ↓w_slice, ↓w_call, ↓wPlc_cons, ↓wOwn_own, ↓w_callIo, ↓isLst_lst, ↓w_meth, ↓w_ext, ↓wExt_ok, ↓ws_next, ↓ws_bk, ↓ws_ct, ↓ws_rt, ↓ws_nx, ↓ws_seq, ↓ws_drop, ↓ws_ret, ↓ws_if, ↓ws_set, ↓wSet_d, ↓wSet_fresh, ↓wSet_plc, ↓ws_asg, ↓wt_name, ↓wt_nil, ↓wt_cons, ↓wt_tup, ↓wt_lst, ↓wPar_two, ↓ws_par, ↓wLstS_own, ↓wInt_int, ↓ws_item, ↓ws_for, ↓w_zip, ↓w_iter, ↓wItems_lst, ↓wItems_tup, ↓w_rng, ↓wRet_d, ↓wRet_fresh, ↓wRet_plc, ↓wRetS_val, ↓wRetS_own, ↓wRetS_ownS, ↓wI_some, ↓wI_none, ↓wI_ite, List.getElem?_cons_zero, List.getElem?_cons_succ, List.set_cons_zero, List.set_cons_succ]
      refine ⟨by omega, fun d hd => ?_, fun d hd _ => ?_, ?_⟩
      · obtain ⟨h1, x, rfl, hx, hh⟩ := hp d hd
        obtain ⟨bb, eb⟩ := hB k h1 hh (by omega)
        simp only [↓w_var, ↓wVar_val, ↓wVar_own, ↓w_c, ↓w_nil, ↓w_cons, ↓w_app, ↓wViews_nil, ↓wViews_cons, ↓wView_d, ↓wView_fresh, ↓wView_plc, ↓wSlot_val, ↓wSlot_own, ↓wEsc_d, ↓wEsc_fresh, ↓wEsc_plc, ↓wEscS_val, ↓wEscS_own, ↓wEscs_nil, ↓wEscs_cons, ↓w_frz, ↓w_tup, ↓w_lst, ↓w_bool, ↓w_tru, ↓w_notT, ↓w_andT, ↓w_orT, ↓w_if, ↓w_and, ↓w_or, ↓w_not, ↓w_chain, ↓wB_bl, ↓w_noPart, ↓w_part, ↓w_slice, ↓w_call, ↓wPlc_cons, ↓wOwn_own, ↓w_callIo, ↓isLst_lst, ↓w_meth, ↓w_ext, ↓wExt_ok, ↓ws_next, ↓ws_bk, ↓ws_ct, ↓ws_rt, ↓ws_nx, ↓ws_seq, ↓ws_drop, ↓ws_ret, ↓ws_if, ↓ws_set, ↓wSet_d, ↓wSet_fresh, ↓wSet_plc, ↓ws_asg, ↓wt_name, ↓wt_nil, ↓wt_cons, ↓wt_tup, ↓wt_lst, ↓wPar_two, ↓ws_par, ↓wLstS_own, ↓wInt_int, ↓ws_item, ↓ws_for, ↓w_zip, ↓w_iter, ↓wItems_lst, ↓wItems_tup, ↓w_rng, ↓wRet_d, ↓wRet_fresh, ↓wRet_plc, ↓wRetS_val, ↓wRetS_own, ↓wRetS_ownS, ↓wI_some, ↓wI_none, ↓wI_ite, List.getElem?_cons_zero, List.getElem?_cons_succ, List.set_cons_zero, List.set_cons_succ, p_ix0, eb, wF0_ok, tru_bl]
        refine ⟨?_, trivial⟩
        have : okB B (.tup [h1, fr x]) = (match B [h1] with | .ok (.d (.bl b)) none => !b | _ => false) := rfl
        rw [this, eb]
      · try simp only [↓w_var, ↓wVar_val, ↓wVar_own, ↓w_c, ↓w_nil, ↓w_cons, ↓w_app, ↓wViews_nil, ↓wViews_cons, ↓wView_d, ↓wView_fresh, ↓wView_plc, ↓wSlot_val, ↓wSlot_own, ↓wEsc_d, ↓wEsc_fresh, ↓wEsc_plc, ↓wEscS_val, ↓wEscS_own, ↓wEscs_nil, ↓wEscs_cons, ↓w_frz, ↓w_tup, ↓w_lst, ↓w_bool, ↓w_tru, ↓w_notT, ↓w_andT, ↓w_orT, ↓w_if, ↓w_and, ↓w_or, ↓w_not, ↓w_chain, ↓wB_bl, ↓w_noPart, ↓w_part, ↓w_slice, ↓w_call, ↓wPlc_cons, ↓wOwn_own, ↓w_callIo, ↓isLst_lst, ↓w_meth, ↓w_ext, ↓wExt_ok, ↓ws_next, ↓ws_bk, ↓ws_ct, ↓ws_rt, ↓ws_nx, ↓ws_seq, ↓ws_drop, ↓ws_ret, ↓ws_if, ↓ws_set, ↓wSet_d, ↓wSet_fresh, ↓wSet_plc, ↓ws_asg, ↓wt_name, ↓wt_nil, ↓wt_cons, ↓wt_tup, ↓wt_lst, ↓wPar_two, ↓ws_par, ↓wLstS_own, ↓wInt_int, ↓ws_item, ↓ws_for, ↓w_zip, ↓w_iter, ↓wItems_lst, ↓wItems_tup, ↓w_rng, ↓wRet_d, ↓wRet_fresh, ↓wRet_plc, ↓wRetS_val, ↓wRetS_own, ↓wRetS_ownS, ↓wI_some, ↓wI_none, ↓wI_ite, List.getElem?_cons_zero, List.getElem?_cons_succ, List.set_cons_zero, List.set_cons_succ]
        exact ⟨rfl, trivial⟩
      · simp only [↓w_var, ↓wVar_val, ↓wVar_own, ↓w_c, ↓w_nil, ↓w_cons, ↓w_app, ↓wViews_nil, ↓wViews_cons, ↓wView_d, ↓wView_fresh, ↓wView_plc, ↓wSlot_val, ↓wSlot_own, ↓wEsc_d, ↓wEsc_fresh, ↓wEsc_plc, ↓wEscS_val, ↓wEscS_own, ↓wEscs_nil, ↓wEscs_cons, ↓w_frz, ↓w_tup, ↓w_lst, ↓w_bool, ↓w_tru, ↓w_notT, ↓w_andT, ↓w_orT, ↓w_if, ↓w_and, ↓w_or, ↓w_not, ↓w_chain, ↓wB_bl, ↓w_noPart, ↓w_part, ↓w_slice, ↓w_call, ↓wPlc_cons, ↓wOwn_own, ↓w_callIo, ↓isLst_lst, ↓w_meth, ↓w_ext, ↓wExt_ok, ↓ws_next, ↓ws_bk, ↓ws_ct, ↓ws_rt, ↓ws_nx, ↓ws_seq, ↓ws_drop, ↓ws_ret, ↓ws_if, ↓ws_set, ↓wSet_d, ↓wSet_fresh, ↓wSet_plc, ↓ws_asg, ↓wt_name, ↓wt_nil, ↓wt_cons, ↓wt_tup, ↓wt_lst, ↓wPar_two, ↓ws_par, ↓wLstS_own, ↓wInt_int, ↓ws_item, ↓ws_for, ↓w_zip, ↓w_iter, ↓wItems_lst, ↓wItems_tup, ↓w_rng, ↓wRet_d, ↓wRet_fresh, ↓wRet_plc, ↓wRetS_val, ↓wRetS_own, ↓wRetS_ownS, ↓wI_some, ↓wI_none, ↓wI_ite, List.getElem?_cons_zero, List.getElem?_cons_succ, List.set_cons_zero, List.set_cons_succ, tup_of]
        refine ⟨_, f2, ?_, fun p hp' => ?_, hf2.mono (by omega), rfl⟩
        · rw [List.map_id]
          exact Nat.le_trans (List.length_filter_le _ _) hl
        · rw [List.map_id] at hp'
          exact hp p (List.mem_filter.mp hp').1
    · exact ⟨[], f1, by simp, (fun p hp => by cases hp), hf1.mono (by omega), rfl⟩
  rintro _ ⟨l, f, hl, hp, hf, rfl⟩
  simp only [↓w_var, ↓wVar_val, ↓wVar_own, ↓w_c, ↓w_nil, ↓w_cons, ↓w_app, ↓wViews_nil, ↓wViews_cons, ↓wView_d, ↓wView_fresh, ↓wView_plc, ↓wSlot_val, ↓wSlot_own, ↓wEsc_d, ↓wEsc_fresh, ↓wEsc_plc, ↓wEscS_val, ↓wEscS_own, ↓wEscs_nil, ↓wEscs_cons, ↓w_frz, ↓w_tup, ↓w_lst, ↓w_bool, ↓w_tru, ↓w_notT, ↓w_andT, ↓w_orT, ↓w_if, ↓w_and, ↓w_or, ↓w_not, ↓w_chain, ↓wB_bl, ↓w_noPart, ↓w_part, ↓w_slice, ↓w_call, ↓wPlc_cons, ↓wOwn_own, ↓w_callIo, ↓isLst_lst, ↓w_meth, ↓w_ext, ↓wExt_ok, ↓ws_next, ↓ws_bk, ↓ws_ct, ↓ws_rt, ↓ws_nx, ↓ws_seq, ↓ws_drop, ↓ws_ret, ↓ws_if, ↓ws_set, ↓wSet_d, ↓wSet_fresh, ↓wSet_plc, ↓ws_asg, ↓wt_name, ↓wt_nil, ↓wt_cons, ↓wt_tup, ↓wt_lst, ↓wPar_two, ↓ws_par, ↓wLstS_own, ↓wInt_int, ↓ws_item, ↓ws_for, ↓w_zip, ↓w_iter, ↓wItems_lst, ↓wItems_tup, ↓w_rng, ↓wRet_d, ↓wRet_fresh, ↓wRet_plc, ↓wRetS_val, ↓wRetS_own, ↓wRetS_ownS, ↓wI_some, ↓wI_none, ↓wI_ite, List.getElem?_cons_zero, List.getElem?_cons_succ, List.set_cons_zero, List.set_cons_succ]
  refine hU _ _ _ _ hf (by omega) fun u f1 hf1 hu => ?_
  simp only [↓w_var, ↓wVar_val, ↓wVar_own, ↓w_c, ↓w_nil, ↓w_cons, ↓w_app, ↓wViews_nil, ↓wViews_cons, ↓wView_d, ↓wView_fresh, ↓wView_plc, ↓wSlot_val, ↓wSlot_own, ↓wEsc_d, ↓wEsc_fresh, ↓wEsc_plc, ↓wEscS_val, ↓wEscS_own, ↓wEscs_nil, ↓wEscs_cons, ↓w_frz, ↓w_tup, ↓w_lst, ↓w_bool, ↓w_tru, ↓w_notT, ↓w_andT, ↓w_orT, ↓w_if, ↓w_and, ↓w_or, ↓w_not, ↓w_chain, ↓wB_bl, ↓w_noPart, ↓w_part, ↓w_slice, ↓w_call, ↓wPlc_cons, ↓wOwn_own, ↓w_callIo, ↓isLst_lst, ↓w_meth, ↓w_ext, ↓wExt_ok, ↓ws_next, ↓ws_bk, ↓ws_ct, ↓ws_rt, ↓ws_nx, ↓ws_seq, ↓ws_drop, ↓ws_ret, ↓ws_if, ↓ws_set, ↓wSet_d, ↓wSet_fresh, ↓wSet_plc, ↓ws_asg, ↓wt_name, ↓wt_nil, ↓wt_cons, ↓wt_tup, ↓wt_lst, ↓wPar_two, ↓ws_par, ↓wLstS_own, ↓wInt_int, ↓ws_item, ↓ws_for, ↓w_zip, ↓w_iter, ↓wItems_lst, ↓wItems_tup, ↓w_rng, ↓wRet_d, ↓wRet_fresh, ↓wRet_plc, ↓wRetS_val, ↓wRetS_own, ↓wRetS_ownS, ↓wI_some, ↓wI_none, ↓wI_ite, List.getElem?_cons_zero, List.getElem?_cons_succ, List.set_cons_zero, List.set_cons_succ]
  exact h _ f1 (hf1.mono (by omega)) ⟨l, u, rfl, hu, hl, hp⟩
theorem growth_s {k : Nat} {N H W : List D → FRes} (hk : k ≤ 10) (hN : NextS N) (hH : HeightS k H) (hW : ShareS W) : GrowthS k (runFn 7 3 true (growthB N H W)) := by
  intro b m f Q E hf hm hb h
  refine w_run1 rfl ?_
  show wS (growthB _ _ _ [Sl.own f, .val (.int (m : Nat)), .val (.int (k : Nat)), .no, .no, .no, .no]) _
  unfold growthB
  simp only [↓w_var, ↓wVar_val, ↓wVar_own, ↓w_c, ↓w_nil, ↓w_cons, ↓w_app, ↓wViews_nil, ↓wViews_cons, ↓wView_d, ↓wView_fresh, ↓wView_plc, ↓wSlot_val, ↓wSlot_own, ↓wEsc_d, ↓wEsc_fresh, ↓wEsc_plc, ↓wEscS_val, ↓wEscS_own, ↓wEscs_nil, ↓wEscs_cons, ↓w_frz, ↓w_tup, ↓w_lst, ↓w_bool, ↓w_tru, ↓w_notT, ↓w_andT, ↓w_orT, ↓w_if, ↓w_and, ↓w_or, ↓w_not, ↓w_chain, ↓wB_bl, ↓w_noPart, ↓w_part, ↓w_slice, ↓w_call, ↓wPlc_cons, ↓wOwn_own, ↓w_callIo, ↓isLst_lst, ↓w_meth, ↓w_ext, ↓wExt_ok, ↓ws_next, ↓ws_bk, ↓ws_ct, ↓ws_rt, ↓ws_nx, ↓ws_seq, ↓ws_drop, ↓ws_ret, ↓ws_if, ↓ws_set, ↓wSet_d, ↓wSet_fresh, ↓wSet_plc, ↓ws_asg, ↓wt_name, ↓wt_nil, ↓wt_cons, ↓wt_tup, ↓wt_lst, ↓wPar_two, ↓ws_par, ↓wLstS_own, ↓wInt_int, ↓ws_item, ↓ws_for, ↓w_zip, ↓w_iter, ↓wItems_lst, ↓wItems_tup, ↓w_rng, ↓wRet_d, ↓wRet_fresh, ↓wRet_plc, ↓wRetS_val, ↓wRetS_own, ↓wRetS_ownS, ↓wI_some, ↓wI_none, ↓wI_ite, List.getElem?_cons_zero, List.getElem?_cons_succ, List.set_cons_zero, List.set_cons_succ, o_add]
  refine hN _ _ _ _ _ hf (by omega) (by omega) (by omega) fun r f1 hf1 r0 r1 => ?_
  simp (disch := omega) only [↓w_var, ↓wVar_val, ↓wVar_own, ↓w_c, ↓w_nil, ↓w_cons, ↓w_app, ↓wViews_nil, ↓wViews_cons, ↓wView_d, ↓wView_fresh, ↓wView_plc, ↓wSlot_val, ↓wSlot_own, ↓wEsc_d, ↓wEsc_fresh, ↓wEsc_plc, ↓wEscS_val, ↓wEscS_own, ↓wEscs_nil, ↓wEscs_cons, ↓w_frz, ↓w_tup, ↓w_lst, ↓w_bool, ↓w_tru, ↓w_notT, ↓w_andT, ↓w_orT, ↓w_if, ↓w_and, ↓w_or, ↓w_not, ↓w_chain, ↓wB_bl, ↓w_noPart, ↓w_part, ↓w_slice, ↓w_call, ↓wPlc_cons, ↓wOwn_own, ↓w_callIo, ↓isLst_lst, ↓w_meth, ↓w_ext, ↓wExt_ok, ↓ws_next, ↓ws_bk, ↓ws_ct, ↓ws_rt, ↓ws_nx, ↓ws_seq, ↓ws_drop, ↓ws_ret, ↓ws_if, ↓ws_set, ↓wSet_d, ↓wSet_fresh, ↓wSet_plc, ↓ws_asg, ↓wt_name, ↓wt_nil, ↓wt_cons, ↓wt_tup, ↓wt_lst, ↓wPar_two, ↓ws_par, ↓wLstS_own, ↓wInt_int, ↓ws_item, ↓ws_for, ↓w_zip, ↓w_iter, ↓wItems_lst, ↓wItems_tup, ↓w_rng, ↓wRet_d, ↓wRet_fresh, ↓wRet_plc, ↓wRetS_val, ↓wRetS_own, ↓wRetS_ownS, ↓wI_some, ↓wI_none, ↓wI_ite, List.getElem?_cons_zero, List.getElem?_cons_succ, List.set_cons_zero, List.set_cons_succ, intsR1, rngD1]
  refine for_inv (fun ds ρ => ∃ (l : List D) (f : D) (u : Sl) (z4 z5 : Sl), l.length + ds.length ≤ m ∧ (∀ p ∈ l, IsP k p) ∧ Fd (b + 1 + (m - ds.length) * (hc k + 9)) f ∧ u = Sl.own (.lst l) ∧ ρ = [Sl.own f, .val (.int (m : Nat)), .val (.int (k : Nat)), u, z4, z5, .no])
    ⟨[], f1, _, .no, .no, by simp [rangeD]; omega, (fun p hp => by cases hp), hf1.mono (by omega), rfl, rfl⟩ ?_ ?_
  · rintro d ds ρ ⟨l, f, u, z4, z5, hl, hp, hf, rfl, rfl⟩
    rw [List.length_cons] at hl hf
    have t5 : (m - (ds.length + 1)) * (hc k + 9) ≤ 5 * (hc k + 9) := Nat.mul_le_mul_right _ (by omega)
    have te : (m - ds.length) * (hc k + 9) = (m - (ds.length + 1)) * (hc k + 9) + (hc k + 9) := by
      rw [show m - ds.length = (m - (ds.length + 1)) + 1 by omega, Nat.add_mul, Nat.one_mul]
    simp only [↓w_var, ↓wVar_val, ↓wVar_own, ↓w_c, ↓w_nil, ↓w_cons, ↓w_app, ↓wViews_nil, ↓wViews_cons, ↓wView_d, ↓wView_fresh, ↓wView_plc, ↓wSlot_val, ↓wSlot_own, ↓wEsc_d, ↓wEsc_fresh, ↓wEsc_plc, ↓wEscS_val, ↓wEscS_own, ↓wEscs_nil, ↓wEscs_cons, ↓w_frz, ↓w_tup, ↓w_lst, ↓w_bool, ↓w_tru, ↓w_notT, ↓w_andT, ↓w_orT, ↓w_if, ↓w_and, ↓w_or, ↓w_not, ↓w_chain, ↓wB_bl, ↓w_noPart, ↓w_part, ↓w_slice, ↓w_call, ↓wPlc_cons, ↓wOwn_own, ↓w_callIo, ↓isLst_lst, ↓w_meth, ↓w_ext, ↓wExt_ok, ↓ws_next, ↓ws_bk, ↓ws_ct, ↓ws_rt, ↓ws_nx, ↓ws_seq, ↓ws_drop, ↓ws_ret, ↓ws_if, ↓ws_set, ↓wSet_d, ↓wSet_fresh, ↓wSet_plc, ↓ws_asg, ↓wt_name, ↓wt_nil, ↓wt_cons, ↓wt_tup, ↓wt_lst, ↓wPar_two, ↓ws_par, ↓wLstS_own, ↓wInt_int, ↓ws_item, ↓ws_for, ↓w_zip, ↓w_iter, ↓wItems_lst, ↓wItems_tup, ↓w_rng, ↓wRet_d, ↓wRet_fresh, ↓wRet_plc, ↓wRetS_val, ↓wRetS_own, ↓wRetS_ownS, ↓wI_some, ↓wI_none, ↓wI_ite, List.getElem?_cons_zero, List.getElem?_cons_succ, List.set_cons_zero, List.set_cons_succ]
    refine hH _ _ _ _ hf (by omega) fun hd f1 hf1 hh => ?_
    simp only [↓w_var, ↓wVar_val, ↓wVar_own, ↓w_c, ↓w_nil, ↓w_cons, ↓w_app, ↓wViews_nil, ↓wViews_cons, ↓wView_d, ↓wView_fresh, ↓wView_plc, ↓wSlot_val, ↓wSlot_own, ↓wEsc_d, ↓wEsc_fresh, ↓wEsc_plc, ↓wEscS_val, ↓wEscS_own, ↓wEscs_nil, ↓wEscs_cons, ↓w_frz, ↓w_tup, ↓w_lst, ↓w_bool, ↓w_tru, ↓w_notT, ↓w_andT, ↓w_orT, ↓w_if, ↓w_and, ↓w_or, ↓w_not, ↓w_chain, ↓wB_bl, ↓w_noPart, ↓w_part, ↓w_slice, ↓w_call, ↓wPlc_cons, ↓wOwn_own, ↓w_callIo, ↓isLst_lst, ↓w_meth, ↓w_ext, ↓wExt_ok, ↓ws_next, ↓ws_bk, ↓ws_ct, ↓ws_rt, ↓ws_nx, ↓ws_seq, ↓ws_drop, ↓ws_ret, ↓ws_if, ↓ws_set, ↓wSet_d, ↓wSet_fresh, ↓wSet_plc, ↓ws_asg, ↓wt_name, ↓wt_nil, ↓wt_cons, ↓wt_tup, ↓wt_lst, ↓wPar_two, ↓ws_par, ↓wLstS_own, ↓wInt_int, ↓ws_item, ↓ws_for, ↓w_zip, ↓w_iter, ↓wItems_lst, ↓wItems_tup, ↓w_rng, ↓wRet_d, ↓wRet_fresh, ↓wRet_plc, ↓wRetS_val, ↓wRetS_own, ↓wRetS_ownS, ↓wI_some, ↓wI_none, ↓wI_ite, List.getElem?_cons_zero, List.getElem?_cons_succ, List.set_cons_zero, List.set_cons_succ]
    refine comp_fil (fun d => !eqP (first d) hd) id ?_
    simp only [↓w_var, ↓wVar_val, ↓wVar_own, ↓w_c, ↓w_nil, ↓w_cons, ↓w_app, ↓wViews_nil, ↓wViews_cons, ↓wView_d, ↓wView_fresh, ↓wView_plc, ↓wSlot_val, ↓wSlot_own, ↓wEsc_d, ↓wEsc_fresh, ↓wEsc_plc, ↓wEscS_val, ↓wEscS_own, ↓wEscs_nil, ↓wEscs_cons, ↓w_frz, ↓w_tup, ↓w_lst, ↓w_bool, ↓w_tru, ↓w_notT, ↓w_andT, ↓w_orT, ↓w_if, ↓w_and, ↓w_or, ↓w_not, ↓w_chain, ↓wB_bl, ↓w_noPart, ↓w_part, ↓w_slice, ↓w_call, ↓wPlc_cons, ↓wOwn_own, ↓w_callIo, ↓isLst_lst, ↓w_meth, ↓w_ext, ↓wExt_ok, ↓ws_next, ↓ws_bk, ↓ws_ct, ↓ws_rt, ↓ws_nx, ↓ws_seq, ↓ws_drop, ↓ws_ret, ↓ws_if, ↓ws_set, ↓wSet_d, ↓wSet_fresh, ↓wSet_plc, ↓ws_asg, ↓wt_name, ↓wt_nil, ↓wt_cons, ↓wt_tup, ↓wt_lst, ↓wPar_two, ↓ws_par, ↓wLstS_own, ↓wInt_int, ↓ws_item, ↓ws_for, ↓w_zip, ↓w_iter, ↓wItems_lst, ↓wItems_tup, ↓w_rng, ↓wRet_d, ↓wRet_fresh, ↓wRet_plc, ↓wRetS_val, ↓wRetS_own, ↓wRetS_ownS, ↓wI_some, ↓wI_none, ↓wI_ite, List.getElem?_cons_zero, List.getElem?_cons_succ, List.set_cons_zero, List.set_cons_succ]
    refine ⟨by omega, fun d hd' => ?_, fun d hd _ => ?_, ?_⟩
    · obtain ⟨h1, x, rfl, hx, hh1⟩ := hp d hd'
      have s1 := shP_height hh1 hk
      have s2 := shP_height hh hk
      simp (disch := assumption) only [↓w_var, ↓wVar_val, ↓wVar_own, ↓w_c, ↓w_nil, ↓w_cons, ↓w_app, ↓wViews_nil, ↓wViews_cons, ↓wView_d, ↓wView_fresh, ↓wView_plc, ↓wSlot_val, ↓wSlot_own, ↓wEsc_d, ↓wEsc_fresh, ↓wEsc_plc, ↓wEscS_val, ↓wEscS_own, ↓wEscs_nil, ↓wEscs_cons, ↓w_frz, ↓w_tup, ↓w_lst, ↓w_bool, ↓w_tru, ↓w_notT, ↓w_andT, ↓w_orT, ↓w_if, ↓w_and, ↓w_or, ↓w_not, ↓w_chain, ↓wB_bl, ↓w_noPart, ↓w_part, ↓w_slice, ↓w_call, ↓wPlc_cons, ↓wOwn_own, ↓w_callIo, ↓isLst_lst, ↓w_meth, ↓w_ext, ↓wExt_ok, ↓ws_next, ↓ws_bk, ↓ws_ct, ↓ws_rt, ↓ws_nx, ↓ws_seq, ↓ws_drop, ↓ws_ret, ↓ws_if, ↓ws_set, ↓wSet_d, ↓wSet_fresh, ↓wSet_plc, ↓ws_asg, ↓wt_name, ↓wt_nil, ↓wt_cons, ↓wt_tup, ↓wt_lst, ↓wPar_two, ↓ws_par, ↓wLstS_own, ↓wInt_int, ↓ws_item, ↓ws_for, ↓w_zip, ↓w_iter, ↓wItems_lst, ↓wItems_tup, ↓w_rng, ↓wRet_d, ↓wRet_fresh, ↓wRet_plc, ↓wRetS_val, ↓wRetS_own, ↓wRetS_ownS, ↓wI_some, ↓wI_none, ↓wI_ite, List.getElem?_cons_zero, List.getElem?_cons_succ, List.set_cons_zero, List.set_cons_succ, p_ix0, o_ne]
      exact ⟨rfl, trivial⟩
    · try simp only [↓w_var, ↓wVar_val, ↓wVar_own, ↓w_c, ↓w_nil, ↓w_cons, ↓w_app, ↓wViews_nil, ↓wViews_cons, ↓wView_d, ↓wView_fresh, ↓wView_plc, ↓wSlot_val, ↓wSlot_own, ↓wEsc_d, ↓wEsc_fresh, ↓wEsc_plc, ↓wEscS_val, ↓wEscS_own, ↓wEscs_nil, ↓wEscs_cons, ↓w_frz, ↓w_tup, ↓w_lst, ↓w_bool, ↓w_tru, ↓w_notT, ↓w_andT, ↓w_orT, ↓w_if, ↓w_and, ↓w_or, ↓w_not, ↓w_chain, ↓wB_bl, ↓w_noPart, ↓w_part, ↓w_slice, ↓w_call, ↓wPlc_cons, ↓wOwn_own, ↓w_callIo, ↓isLst_lst, ↓w_meth, ↓w_ext, ↓wExt_ok, ↓ws_next, ↓ws_bk, ↓ws_ct, ↓ws_rt, ↓ws_nx, ↓ws_seq, ↓ws_drop, ↓ws_ret, ↓ws_if, ↓ws_set, ↓wSet_d, ↓wSet_fresh, ↓wSet_plc, ↓ws_asg, ↓wt_name, ↓wt_nil, ↓wt_cons, ↓wt_tup, ↓wt_lst, ↓wPar_two, ↓ws_par, ↓wLstS_own, ↓wInt_int, ↓ws_item, ↓ws_for, ↓w_zip, ↓w_iter, ↓wItems_lst, ↓wItems_tup, ↓w_rng, ↓wRet_d, ↓wRet_fresh, ↓wRet_plc, ↓wRetS_val, ↓wRetS_own, ↓wRetS_ownS, ↓wI_some, ↓wI_none, ↓wI_ite, List.getElem?_cons_zero, List.getElem?_cons_succ, List.set_cons_zero, List.set_cons_succ]
      exact ⟨rfl, trivial⟩
    · try simp only [↓w_var, ↓wVar_val, ↓wVar_own, ↓w_c, ↓w_nil, ↓w_cons, ↓w_app, ↓wViews_nil, ↓wViews_cons, ↓wView_d, ↓wView_fresh, ↓wView_plc, ↓wSlot_val, ↓wSlot_own, ↓wEsc_d, ↓wEsc_fresh, ↓wEsc_plc, ↓wEscS_val, ↓wEscS_own, ↓wEscs_nil, ↓wEscs_cons, ↓w_frz, ↓w_tup, ↓w_lst, ↓w_bool, ↓w_tru, ↓w_notT, ↓w_andT, ↓w_orT, ↓w_if, ↓w_and, ↓w_or, ↓w_not, ↓w_chain, ↓wB_bl, ↓w_noPart, ↓w_part, ↓w_slice, ↓w_call, ↓wPlc_cons, ↓wOwn_own, ↓w_callIo, ↓isLst_lst, ↓w_meth, ↓w_ext, ↓wExt_ok, ↓ws_next, ↓ws_bk, ↓ws_ct, ↓ws_rt, ↓ws_nx, ↓ws_seq, ↓ws_drop, ↓ws_ret, ↓ws_if, ↓ws_set, ↓wSet_d, ↓wSet_fresh, ↓wSet_plc, ↓ws_asg, ↓wt_name, ↓wt_nil, ↓wt_cons, ↓wt_tup, ↓wt_lst, ↓wPar_two, ↓ws_par, ↓wLstS_own, ↓wInt_int, ↓ws_item, ↓ws_for, ↓w_zip, ↓w_iter, ↓wItems_lst, ↓wItems_tup, ↓w_rng, ↓wRet_d, ↓wRet_fresh, ↓wRet_plc, ↓wRetS_val, ↓wRetS_own, ↓wRetS_ownS, ↓wI_some, ↓wI_none, ↓wI_ite, List.getElem?_cons_zero, List.getElem?_cons_succ, List.set_cons_zero, List.set_cons_succ]
      refine hW _ _ _ _ hf1 (by omega) fun x f2 hf2 hx _ => ?_
      have ll := List.length_filter_le (fun d => !eqP (first d) hd) l
      simp only [↓w_var, ↓wVar_val, ↓wVar_own, ↓w_c, ↓w_nil, ↓w_cons, ↓w_app, ↓wViews_nil, ↓wViews_cons, ↓wView_d, ↓wView_fresh, ↓wView_plc, ↓wSlot_val, ↓wSlot_own, ↓wEsc_d, ↓wEsc_fresh, ↓wEsc_plc, ↓wEscS_val, ↓wEscS_own, ↓wEscs_nil, ↓wEscs_cons, ↓w_frz, ↓w_tup, ↓w_lst, ↓w_bool, ↓w_tru, ↓w_notT, ↓w_andT, ↓w_orT, ↓w_if, ↓w_and, ↓w_or, ↓w_not, ↓w_chain, ↓wB_bl, ↓w_noPart, ↓w_part, ↓w_slice, ↓w_call, ↓wPlc_cons, ↓wOwn_own, ↓w_callIo, ↓isLst_lst, ↓w_meth, ↓w_ext, ↓wExt_ok, ↓ws_next, ↓ws_bk, ↓ws_ct, ↓ws_rt, ↓ws_nx, ↓ws_seq, ↓ws_drop, ↓ws_ret, ↓ws_if, ↓ws_set, ↓wSet_d, ↓wSet_fresh, ↓wSet_plc, ↓ws_asg, ↓wt_name, ↓wt_nil, ↓wt_cons, ↓wt_tup, ↓wt_lst, ↓wPar_two, ↓ws_par, ↓wLstS_own, ↓wInt_int, ↓ws_item, ↓ws_for, ↓w_zip, ↓w_iter, ↓wItems_lst, ↓wItems_tup, ↓w_rng, ↓wRet_d, ↓wRet_fresh, ↓wRet_plc, ↓wRetS_val, ↓wRetS_own, ↓wRetS_ownS, ↓wI_some, ↓wI_none, ↓wI_ite, List.getElem?_cons_zero, List.getElem?_cons_succ, List.set_cons_zero, List.set_cons_succ]
      rw [o_addL (by rw [List.map_id]; simp only [List.length_cons, List.length_nil]; omega)]
      simp only [↓w_var, ↓wVar_val, ↓wVar_own, ↓w_c, ↓w_nil, ↓w_cons, ↓w_app, ↓wViews_nil, ↓wViews_cons, ↓wView_d, ↓wView_fresh, ↓wView_plc, ↓wSlot_val, ↓wSlot_own, ↓wEsc_d, ↓wEsc_fresh, ↓wEsc_plc, ↓wEscS_val, ↓wEscS_own, ↓wEscs_nil, ↓wEscs_cons, ↓w_frz, ↓w_tup, ↓w_lst, ↓w_bool, ↓w_tru, ↓w_notT, ↓w_andT, ↓w_orT, ↓w_if, ↓w_and, ↓w_or, ↓w_not, ↓w_chain, ↓wB_bl, ↓w_noPart, ↓w_part, ↓w_slice, ↓w_call, ↓wPlc_cons, ↓wOwn_own, ↓w_callIo, ↓isLst_lst, ↓w_meth, ↓w_ext, ↓wExt_ok, ↓ws_next, ↓ws_bk, ↓ws_ct, ↓ws_rt, ↓ws_nx, ↓ws_seq, ↓ws_drop, ↓ws_ret, ↓ws_if, ↓ws_set, ↓wSet_d, ↓wSet_fresh, ↓wSet_plc, ↓ws_asg, ↓wt_name, ↓wt_nil, ↓wt_cons, ↓wt_tup, ↓wt_lst, ↓wPar_two, ↓ws_par, ↓wLstS_own, ↓wInt_int, ↓ws_item, ↓ws_for, ↓w_zip, ↓w_iter, ↓wItems_lst, ↓wItems_tup, ↓w_rng, ↓wRet_d, ↓wRet_fresh, ↓wRet_plc, ↓wRetS_val, ↓wRetS_own, ↓wRetS_ownS, ↓wI_some, ↓wI_none, ↓wI_ite, List.getElem?_cons_zero, List.getElem?_cons_succ, List.set_cons_zero, List.set_cons_succ]
      refine ⟨_, f2, _, _, _, ?_, fun p hp' => ?_, hf2.mono (by omega), rfl, rfl⟩
      · rw [List.map_id, List.length_append]
        simp only [List.length_cons, List.length_nil]
        omega
      · rw [List.map_id] at hp'
        rcases List.mem_append.mp hp' with q | q
        · exact hp p (List.mem_filter.mp q).1
        · rw [List.mem_singleton] at q
          exact ⟨hd, x, q, hx, hh⟩
  · rintro ρ ⟨l, f, u, z4, z5, hl, hp, hf, rfl, rfl⟩
    have so := sort_ok hk hp
    simp (disch := assumption) only [↓w_var, ↓wVar_val, ↓wVar_own, ↓w_c, ↓w_nil, ↓w_cons, ↓w_app, ↓wViews_nil, ↓wViews_cons, ↓wView_d, ↓wView_fresh, ↓wView_plc, ↓wSlot_val, ↓wSlot_own, ↓wEsc_d, ↓wEsc_fresh, ↓wEsc_plc, ↓wEscS_val, ↓wEscS_own, ↓wEscs_nil, ↓wEscs_cons, ↓w_frz, ↓w_tup, ↓w_lst, ↓w_bool, ↓w_tru, ↓w_notT, ↓w_andT, ↓w_orT, ↓w_if, ↓w_and, ↓w_or, ↓w_not, ↓w_chain, ↓wB_bl, ↓w_noPart, ↓w_part, ↓w_slice, ↓w_call, ↓wPlc_cons, ↓wOwn_own, ↓w_callIo, ↓isLst_lst, ↓w_meth, ↓w_ext, ↓wExt_ok, ↓ws_next, ↓ws_bk, ↓ws_ct, ↓ws_rt, ↓ws_nx, ↓ws_seq, ↓ws_drop, ↓ws_ret, ↓ws_if, ↓ws_set, ↓wSet_d, ↓wSet_fresh, ↓wSet_plc, ↓ws_asg, ↓wt_name, ↓wt_nil, ↓wt_cons, ↓wt_tup, ↓wt_lst, ↓wPar_two, ↓ws_par, ↓wLstS_own, ↓wInt_int, ↓ws_item, ↓ws_for, ↓w_zip, ↓w_iter, ↓wItems_lst, ↓wItems_tup, ↓w_rng, ↓wRet_d, ↓wRet_fresh, ↓wRet_plc, ↓wRetS_val, ↓wRetS_own, ↓wRetS_ownS, ↓wI_some, ↓wI_none, ↓wI_ite, List.getElem?_cons_zero, List.getElem?_cons_succ, List.set_cons_zero, List.set_cons_succ, o_sorted, tup_of]
    refine h _ f (hf.mono (by simp)) ?_ fun p hp' => hp p (List.mem_mergeSort.mp hp')
    rw [List.length_mergeSort]
    simp at hl
    omega
end DL
set_option maxHeartbeats 4000000
/-! DL, part 39: growths shown; how deep they go. -/
namespace DL
open PySem PySem.Spec PyProof.Rows L2
/-! ### shown -/
theorem rep_of {d : D} (h1 : shwB d = true) (h2 : shLen d ≤ 1000000) (h3 : shN d 64 = true) : repOk d = true := by
  unfold repOk
  rw [shwB_ok d h1, okLen_of (show (shownD d).length ≤ 1000000 from Nat.le_trans (shown_le d) h2), Nat.ble_eq_true_of_le (shN_ok _ _ h3).2]
  rfl
theorem o_reprK {d : D} {Q : RV → Prop} (h : repOk d = true) : wI (oRepr [d]) Q = Q (.d (.str (shownD d))) := by
  show wI (if repOk d = true then _ else none) Q = _
  rw [if_pos h]
  rfl
theorem fr_shown {x : Rat} {k : Nat} (h : rb x ≤ k) (hk : k ≤ 1920) : shwB (fr x) = true ∧ shLen (fr x) ≤ 2 * k + 9 := by
  have h1 := rb_num x
  have h2 := rb_den x
  have e : ((x.den : Int)).natAbs = x.den := rfl
  unfold fr
  refine ⟨?_, ?_⟩
  · simp only [shwB, shwBs, Bool.and_true, Bool.and_eq_true, decide_eq_true_eq, e]
    omega
  · simp only [shLen, shLens, e]
    omega
theorem shwBs_all : ∀ {l : List D}, (∀ d ∈ l, shwB d = true) → shwBs l = true
  | [], _ => rfl
  | d :: l, h => by
    rw [shwBs, h d List.mem_cons_self, shwBs_all fun e he => h e (List.mem_cons_of_mem _ he)]
    rfl
theorem shLens_le {n : Nat} : ∀ {l : List D}, (∀ d ∈ l, shLen d ≤ n) → shLens l ≤ l.length * (n + 2)
  | [], _ => by simp [shLens]
  | d :: l, h => by
    have h1 := h d List.mem_cons_self
    have h2 := shLens_le fun e he => h e (List.mem_cons_of_mem _ he)
    rw [shLens, List.length_cons, Nat.add_mul, Nat.one_mul]
    omega
theorem four_shown {q : Nat → Rat} (h : ∀ j, j < 4 → rb (q j) ≤ 10) : shwB (fourD q) = true ∧ shLen (fourD q) ≤ 127 := by
  have h0 := fr_shown (h 0 (by omega)) (by omega)
  have h1 := fr_shown (h 1 (by omega)) (by omega)
  have h2 := fr_shown (h 2 (by omega)) (by omega)
  have h3 := fr_shown (h 3 (by omega)) (by omega)
  unfold fourD
  refine ⟨?_, ?_⟩
  · simp only [shwB, shwBs, h0.1, h1.1, h2.1, h3.1, Bool.and_self]
  · simp only [shLen, shLens]
    omega
def hl : Nat → Nat
  | 0 => 137
  | k + 1 => 2 * hl k + 1013
theorem height_shown : ∀ {k : Nat} {d : D}, IsH k d → shwB d = true ∧ shLen d ≤ hl k
  | 0, d, h => by
    obtain ⟨_, rfl, q, rfl, hq⟩ := h
    have h4 := four_shown hq
    refine ⟨?_, ?_⟩
    · simp only [shwB, shwBs, h4.1, Bool.and_self]
    · simp only [shLen, shLens, hl]
      omega
  | k + 1, d, h => by
    obtain ⟨o, _, rfl, ⟨q, rfl, hq⟩, ho, hp⟩ := h
    have h4 := four_shown hq
    have hs : ∀ p ∈ o, shwB p = true ∧ shLen p ≤ hl k + 436 := fun p hm => by
      obtain ⟨h1, x, rfl, hx, hh⟩ := hp p hm
      have a := height_shown hh
      have b := fr_shown hx (by omega)
      refine ⟨?_, ?_⟩
      · simp only [shwB, shwBs, a.1, b.1, Bool.and_self]
      · simp only [shLen, shLens]
        omega
    have hb := shwBs_all fun p hm => (hs p hm).1
    have hl2 := shLens_le fun p hm => (hs p hm).2
    have hl3 : o.length * (hl k + 436 + 2) ≤ 2 * (hl k + 436 + 2) := Nat.mul_le_mul_right _ ho
    refine ⟨?_, ?_⟩
    · simp only [shwB, shwBs, h4.1, hb, Bool.and_self]
    · simp only [shLen, shLens]
      rw [show hl (k + 1) = 2 * hl k + 1013 from rfl]
      omega
theorem hl_le {k : Nat} (h : k ≤ 5) : hl k ≤ 40000 := by
  match k, h with
  | 0, _ => decide
  | 1, _ => decide
  | 2, _ => decide
  | 3, _ => decide
  | 4, _ => decide
  | 5, _ => decide
theorem growth_rep {k : Nat} {l : List D} (hk : k ≤ 5) (hn : l.length ≤ 20) (h : ∀ p ∈ l, IsP k p) : repOk (.tup l) = true := by
  have hs : ∀ p ∈ l, shwB p = true ∧ shLen p ≤ 40436 := fun p hm => by
    obtain ⟨h1, x, rfl, hx, hh⟩ := h p hm
    have a := height_shown hh
    have b := fr_shown hx (by omega)
    have c := hl_le hk
    refine ⟨?_, ?_⟩
    · simp only [shwB, shwBs, a.1, b.1, Bool.and_self]
    · simp only [shLen, shLens]
      omega
  refine rep_of ?_ ?_ ?_
  · rw [shwB]
    exact shwBs_all fun p hm => (hs p hm).1
  · have hl2 := shLens_le fun p hm => (hs p hm).2
    have hl3 : l.length * (40436 + 2) ≤ 20 * (40436 + 2) := Nat.mul_le_mul_right _ hn
    rw [shLen]
    omega
  · rw [show (64 : Nat) = 63 + 1 from rfl, shN]
    exact shNs_of fun p hm => shN_mono _ _ _ (sh_part (h p hm)) (by omega)
/-! ### how deep -/
def mx (g : D → Nat) : List D → Nat
  | [] => 0
  | p :: ps => max (g p) (mx g ps)
/-- the depth of a height's over -/
def hD : Nat → D → Nat
  | 0, _ => 0
  | k + 1, d => match d with
    | .tup [.tup o, _] => if o.isEmpty then 0 else 1 + mx (fun p => hD k (first p)) o
    | _ => 0
theorem hD_le : ∀ (k : Nat) (d : D), hD k d ≤ k
  | 0, d => Nat.le_refl 0
  | k + 1, d => by
    unfold hD
    split
    · rename_i o _
      split
      · omega
      · have : ∀ l : List D, mx (fun p => hD k (first p)) l ≤ k := fun l => by
          induction l with
          | nil => exact Nat.zero_le _
          | cons p l ih => exact Nat.max_le.mpr ⟨hD_le k _, ih⟩
        have := this o
        omega
    · omega
theorem mx_le {g : D → Nat} {k : Nat} (h : ∀ d, g d ≤ k) : ∀ l : List D, mx g l ≤ k
  | [] => Nat.zero_le _
  | p :: l => Nat.max_le.mpr ⟨h p, mx_le h l⟩
noncomputable def depthB (A : List D → FRes) : SDen :=
 sSeq (sSet 1 (dC (.int 0)))
 (sSeq (sFor (dIter (dVar 0)) (tTupT 2 (tCons' (tName 2) (tCons' (tName 3) (tNil'))))
 (sIf (dBool (dApp oNe [dApp oIx [dVar 2, dC (.int 0)], dTup []]))
 (sSet 1 (dApp oMax [dVar 1, dApp oAdd [dC (.int 1), dCall A [dApp oIx [dVar 2, dC (.int 0)]]]]))
 (sNext)))
 (sRet (dVar 1)))
def DepthE (k : Nat) (A : List D → FRes) : Prop := ∀ l : List D, l.length ≤ 1000 → (∀ p ∈ l, IsP k p) → A [.tup l] = .ok (.d (.int (mx (fun p => hD k (first p)) l : Nat))) none
theorem eq_nil {l : List D} : eqP (.tup l) (.tup []) = l.isEmpty := by
  rw [eq_tt]
  cases l <;> (unfold eqPs; simp [toPs, PyData.eqvAll])
theorem depth_e {k : Nat} {A : List D → FRes} (hk : k ≤ 10) (hA : k = 0 ∨ DepthE (k - 1) A) : DepthE k (runFn 4 1 false (depthB A)) := by
  intro l hl hp
  refine eq_of_w ?_
  refine w_run0 rfl ?_
  show wS (depthB _ [Sl.val (.tup l), .no, .no, .no]) _
  unfold depthB
  simp only [↓w_var, ↓wVar_val, ↓wVar_own, ↓w_c, ↓w_nil, ↓w_cons, ↓w_app, ↓wViews_nil, ↓wViews_cons, ↓wView_d, ↓wView_fresh, ↓wView_plc, ↓wSlot_val, ↓wSlot_own, ↓wEsc_d, ↓wEsc_fresh, ↓wEsc_plc, ↓wEscS_val, ↓wEscS_own, ↓wEscs_nil, ↓wEscs_cons, ↓w_frz, ↓w_tup, ↓w_lst, ↓w_bool, ↓w_tru, ↓w_notT, ↓w_andT, ↓w_orT, ↓w_if, ↓w_and, ↓w_or, ↓w_not, ↓w_chain, ↓wB_bl, ↓w_noPart, ↓w_part, ↓w_slice, ↓w_call, ↓wPlc_cons, ↓wOwn_own, ↓w_callIo, ↓isLst_lst, ↓w_meth, ↓w_ext, ↓wExt_ok, ↓ws_next, ↓ws_bk, ↓ws_ct, ↓ws_rt, ↓ws_nx, ↓ws_seq, ↓ws_drop, ↓ws_ret, ↓ws_if, ↓ws_set, ↓wSet_d, ↓wSet_fresh, ↓wSet_plc, ↓ws_asg, ↓wt_name, ↓wt_nil, ↓wt_cons, ↓wt_tup, ↓wt_lst, ↓wPar_two, ↓ws_par, ↓wLstS_own, ↓wInt_int, ↓ws_item, ↓ws_for, ↓w_zip, ↓w_iter, ↓wItems_lst, ↓wItems_tup, ↓w_rng, ↓wRet_d, ↓wRet_fresh, ↓wRet_plc, ↓wRetS_val, ↓wRetS_own, ↓wRetS_ownS, ↓wI_some, ↓wI_none, ↓wI_ite, List.getElem?_cons_zero, List.getElem?_cons_succ, List.set_cons_zero, List.set_cons_succ]
  refine for_inv (fun ds ρ => ∃ (a : Nat) (z2 z3 : Sl), (∀ p ∈ ds, IsP k p) ∧ max a (mx (fun p => hD k (first p)) ds) = mx (fun p => hD k (first p)) l ∧ ρ = [Sl.val (.tup l), .val (.int (a : Nat)), z2, z3]) ⟨0, .no, .no, hp, by simp, rfl⟩ ?_ ?_
  · rintro p ds ρ ⟨a, z2, z3, hp, hm, rfl⟩
    obtain ⟨h1, x, rfl, hx, hh⟩ := hp p List.mem_cons_self
    obtain ⟨o, q, rfl, ho, hop, h0, hq⟩ := hh.parts
    have so := shP_over (k := k - 1) (by omega) hop
    have s0 : shP (.tup []) = true := shT0
    have e2 : (([.tup [.tup o, fourD q], fr x] : List D).length == 2) = true := rfl
    simp (disch := assumption) only [↓w_var, ↓wVar_val, ↓wVar_own, ↓w_c, ↓w_nil, ↓w_cons, ↓w_app, ↓wViews_nil, ↓wViews_cons, ↓wView_d, ↓wView_fresh, ↓wView_plc, ↓wSlot_val, ↓wSlot_own, ↓wEsc_d, ↓wEsc_fresh, ↓wEsc_plc, ↓wEscS_val, ↓wEscS_own, ↓wEscs_nil, ↓wEscs_cons, ↓w_frz, ↓w_tup, ↓w_lst, ↓w_bool, ↓w_tru, ↓w_notT, ↓w_andT, ↓w_orT, ↓w_if, ↓w_and, ↓w_or, ↓w_not, ↓w_chain, ↓wB_bl, ↓w_noPart, ↓w_part, ↓w_slice, ↓w_call, ↓wPlc_cons, ↓wOwn_own, ↓w_callIo, ↓isLst_lst, ↓w_meth, ↓w_ext, ↓wExt_ok, ↓ws_next, ↓ws_bk, ↓ws_ct, ↓ws_rt, ↓ws_nx, ↓ws_seq, ↓ws_drop, ↓ws_ret, ↓ws_if, ↓ws_set, ↓wSet_d, ↓wSet_fresh, ↓wSet_plc, ↓ws_asg, ↓wt_name, ↓wt_nil, ↓wt_cons, ↓wt_tup, ↓wt_lst, ↓wPar_two, ↓ws_par, ↓wLstS_own, ↓wInt_int, ↓ws_item, ↓ws_for, ↓w_zip, ↓w_iter, ↓wItems_lst, ↓wItems_tup, ↓w_rng, ↓wRet_d, ↓wRet_fresh, ↓wRet_plc, ↓wRetS_val, ↓wRetS_own, ↓wRetS_ownS, ↓wI_some, ↓wI_none, ↓wI_ite, List.getElem?_cons_zero, List.getElem?_cons_succ, List.set_cons_zero, List.set_cons_succ, e2, ↓reduceIte, p_ix0, o_ne, eq_nil]
    have hm' : max a (max (hD k (.tup [.tup o, fourD q])) (mx (fun p => hD k (first p)) ds)) = mx (fun p => hD k (first p)) l := hm
    cases he : o.isEmpty with
    | true =>
      have e0 : hD k (.tup [.tup o, fourD q]) = 0 := by
        cases k with
        | zero => rfl
        | succ k =>
          show (if o.isEmpty = true then 0 else _) = 0
          rw [if_pos he]
      simp only [Bool.not_true, Bool.false_eq_true, ↓reduceIte, ↓w_var, ↓wVar_val, ↓wVar_own, ↓w_c, ↓w_nil, ↓w_cons, ↓w_app, ↓wViews_nil, ↓wViews_cons, ↓wView_d, ↓wView_fresh, ↓wView_plc, ↓wSlot_val, ↓wSlot_own, ↓wEsc_d, ↓wEsc_fresh, ↓wEsc_plc, ↓wEscS_val, ↓wEscS_own, ↓wEscs_nil, ↓wEscs_cons, ↓w_frz, ↓w_tup, ↓w_lst, ↓w_bool, ↓w_tru, ↓w_notT, ↓w_andT, ↓w_orT, ↓w_if, ↓w_and, ↓w_or, ↓w_not, ↓w_chain, ↓wB_bl, ↓w_noPart, ↓w_part, ↓w_slice, ↓w_call, ↓wPlc_cons, ↓wOwn_own, ↓w_callIo, ↓isLst_lst, ↓w_meth, ↓w_ext, ↓wExt_ok, ↓ws_next, ↓ws_bk, ↓ws_ct, ↓ws_rt, ↓ws_nx, ↓ws_seq, ↓ws_drop, ↓ws_ret, ↓ws_if, ↓ws_set, ↓wSet_d, ↓wSet_fresh, ↓wSet_plc, ↓ws_asg, ↓wt_name, ↓wt_nil, ↓wt_cons, ↓wt_tup, ↓wt_lst, ↓wPar_two, ↓ws_par, ↓wLstS_own, ↓wInt_int, ↓ws_item, ↓ws_for, ↓w_zip, ↓w_iter, ↓wItems_lst, ↓wItems_tup, ↓w_rng, ↓wRet_d, ↓wRet_fresh, ↓wRet_plc, ↓wRetS_val, ↓wRetS_own, ↓wRetS_ownS, ↓wI_some, ↓wI_none, ↓wI_ite, List.getElem?_cons_zero, List.getElem?_cons_succ, List.set_cons_zero, List.set_cons_succ]
      exact ⟨a, _, _, fun p hp' => hp p (List.mem_cons_of_mem _ hp'), by rw [e0] at hm'; omega, rfl⟩
    | false =>
      have k0 : k ≠ 0 := fun e => by
        rw [h0 e] at he
        cases he
      have hA' : DepthE (k - 1) A := hA.resolve_left k0
      have ea := hA' o (by omega) hop
      have e1 : hD k (.tup [.tup o, fourD q]) = 1 + mx (fun p => hD (k - 1) (first p)) o := by
        cases k with
        | zero => exact absurd rfl k0
        | succ k =>
          show (if o.isEmpty = true then 0 else _) = _
          rw [he]
          rfl
      simp only [Bool.not_false, ↓reduceIte, ↓w_var, ↓wVar_val, ↓wVar_own, ↓w_c, ↓w_nil, ↓w_cons, ↓w_app, ↓wViews_nil, ↓wViews_cons, ↓wView_d, ↓wView_fresh, ↓wView_plc, ↓wSlot_val, ↓wSlot_own, ↓wEsc_d, ↓wEsc_fresh, ↓wEsc_plc, ↓wEscS_val, ↓wEscS_own, ↓wEscs_nil, ↓wEscs_cons, ↓w_frz, ↓w_tup, ↓w_lst, ↓w_bool, ↓w_tru, ↓w_notT, ↓w_andT, ↓w_orT, ↓w_if, ↓w_and, ↓w_or, ↓w_not, ↓w_chain, ↓wB_bl, ↓w_noPart, ↓w_part, ↓w_slice, ↓w_call, ↓wPlc_cons, ↓wOwn_own, ↓w_callIo, ↓isLst_lst, ↓w_meth, ↓w_ext, ↓wExt_ok, ↓ws_next, ↓ws_bk, ↓ws_ct, ↓ws_rt, ↓ws_nx, ↓ws_seq, ↓ws_drop, ↓ws_ret, ↓ws_if, ↓ws_set, ↓wSet_d, ↓wSet_fresh, ↓wSet_plc, ↓ws_asg, ↓wt_name, ↓wt_nil, ↓wt_cons, ↓wt_tup, ↓wt_lst, ↓wPar_two, ↓ws_par, ↓wLstS_own, ↓wInt_int, ↓ws_item, ↓ws_for, ↓w_zip, ↓w_iter, ↓wItems_lst, ↓wItems_tup, ↓w_rng, ↓wRet_d, ↓wRet_fresh, ↓wRet_plc, ↓wRetS_val, ↓wRetS_own, ↓wRetS_ownS, ↓wI_some, ↓wI_none, ↓wI_ite, List.getElem?_cons_zero, List.getElem?_cons_succ, List.set_cons_zero, List.set_cons_succ, p_ix0, ea, wF0_ok, o_add, max_r]
      have em : ∀ M : Nat, (if (a : Int) < 1 + (M : Int) then 1 + (M : Int) else (a : Int)) = ((max a (1 + M) : Nat) : Int) := fun M => by split <;> omega
      rw [em]
      exact ⟨_, _, _, fun p hp' => hp p (List.mem_cons_of_mem _ hp'), by rw [e1] at hm'; omega, rfl⟩
  · rintro ρ ⟨a, z2, z3, hp, hm, rfl⟩
    have : a = mx (fun p => hD k (first p)) l := by
      have : mx (fun p => hD k (first p)) [] = 0 := rfl
      omega
    subst this
    simp only [↓w_var, ↓wVar_val, ↓wVar_own, ↓w_c, ↓w_nil, ↓w_cons, ↓w_app, ↓wViews_nil, ↓wViews_cons, ↓wView_d, ↓wView_fresh, ↓wView_plc, ↓wSlot_val, ↓wSlot_own, ↓wEsc_d, ↓wEsc_fresh, ↓wEsc_plc, ↓wEscS_val, ↓wEscS_own, ↓wEscs_nil, ↓wEscs_cons, ↓w_frz, ↓w_tup, ↓w_lst, ↓w_bool, ↓w_tru, ↓w_notT, ↓w_andT, ↓w_orT, ↓w_if, ↓w_and, ↓w_or, ↓w_not, ↓w_chain, ↓wB_bl, ↓w_noPart, ↓w_part, ↓w_slice, ↓w_call, ↓wPlc_cons, ↓wOwn_own, ↓w_callIo, ↓isLst_lst, ↓w_meth, ↓w_ext, ↓wExt_ok, ↓ws_next, ↓ws_bk, ↓ws_ct, ↓ws_rt, ↓ws_nx, ↓ws_seq, ↓ws_drop, ↓ws_ret, ↓ws_if, ↓ws_set, ↓wSet_d, ↓wSet_fresh, ↓wSet_plc, ↓ws_asg, ↓wt_name, ↓wt_nil, ↓wt_cons, ↓wt_tup, ↓wt_lst, ↓wPar_two, ↓ws_par, ↓wLstS_own, ↓wInt_int, ↓ws_item, ↓ws_for, ↓w_zip, ↓w_iter, ↓wItems_lst, ↓wItems_tup, ↓w_rng, ↓wRet_d, ↓wRet_fresh, ↓wRet_plc, ↓wRetS_val, ↓wRetS_own, ↓wRetS_ownS, ↓wI_some, ↓wI_none, ↓wI_ite, List.getElem?_cons_zero, List.getElem?_cons_succ, List.set_cons_zero, List.set_cons_succ]
theorem mx_app {g : D → Nat} : ∀ {l m : List D}, mx g (l ++ m) = max (mx g l) (mx g m)
  | [], m => by simp [mx]
  | d :: l, m => by
    show max (g d) (mx g (l ++ m)) = max (max (g d) (mx g l)) (mx g m)
    rw [mx_app]
    omega
/-- a height with an over -/
def neO : D → Bool
  | .tup (.tup o :: _) => !o.isEmpty
  | _ => false
theorem hD_no {k : Nat} {d : D} (h : IsH k d) (e : neO d = false) : hD k d = 0 := by
  obtain ⟨o, q, rfl, _⟩ := h.parts
  cases k with
  | zero => rfl
  | succ k =>
    have e : (!o.isEmpty) = false := e
    show (if o.isEmpty = true then 0 else _) = 0
    rw [if_pos (by simpa using e)]
theorem hD_yes {k : Nat} {o : List D} {q : Nat → Rat} (e : neO (.tup [.tup o, fourD q]) = true) : hD (k + 1) (.tup [.tup o, fourD q]) = 1 + mx (fun p => hD k (first p)) o := by
  have e : (!o.isEmpty) = true := e
  show (if o.isEmpty = true then 0 else _) = _
  rw [if_neg (by simpa using e)]
theorem neO_succ {k : Nat} {d : D} (h : IsH k d) (e : neO d = true) : ∃ j, k = j + 1 := by
  cases k with
  | zero =>
    obtain ⟨_, rfl, _⟩ := h
    cases e
  | succ k => exact ⟨k, rfl⟩
theorem mx_filter {k : Nat} : ∀ {o : List D}, (∀ p ∈ o, IsP k p) → mx (hD k) ((o.filter fun p => neO (first p)).map first) = mx (fun p => hD k (first p)) o
  | [], _ => rfl
  | p :: o, h => by
    have ih := mx_filter fun q hq => h q (List.mem_cons_of_mem _ hq)
    obtain ⟨h1, x, rfl, _, hh⟩ := h p List.mem_cons_self
    show _ = max (hD k h1) (mx (fun p => hD k (first p)) o)
    cases e : neO h1 with
    | true =>
      rw [List.filter_cons_of_pos (by exact e), List.map_cons]
      show max (hD k h1) _ = _
      rw [ih]
    | false =>
      rw [List.filter_cons_of_neg (by show ¬ neO h1 = true; rw [e]; decide), ih, hD_no hh e]
      omega
theorem eq_nilL {l : List D} : eqP (.lst l) (.lst []) = l.isEmpty := by
  rw [eq_ll]
  cases l <;> (unfold eqPs; simp [toPs, PyData.eqvAll])
noncomputable def layersB : SDen :=
 sSeq (sSet 1 (dC (.int 0)))
 (sSeq (sSet 2 (dComp [4, 5] (dIter (dVar 0)) (tTupT 2 (tCons' (tName 4) (tCons' (tName 5) (tNil')))) (dBool (dApp oNe [dApp oIx [dVar 4, dC (.int 0)], dTup []])) (dVar 4)))
 (sSeq (sWhile (dBool (dApp oNe [dVar 2, dLst []]))
 (sSeq (sSet 1 (dApp oAdd [dVar 1, dC (.int 1)]))
 (sSeq (sSet 3 (dLst []))
 (sSeq (sFor (dIter (dVar 2)) (tName 4)
 (sDrop (dExtend 3 [dComp [6] (dIter (dApp oIx [dVar 4, dC (.int 0)])) (tName 6) (dBool (dApp oNe [dApp oIx [dApp oIx [dVar 6, dC (.int 0)], dC (.int 0)], dTup []])) (dApp oIx [dVar 6, dC (.int 0)])])))
 (sSet 2 (dVar 3))))))
 (sRet (dVar 1))))
def LayersE (A : List D → FRes) : Prop := ∀ (k : Nat) (l : List D), k ≤ 6 → l.length ≤ 100 → (∀ p ∈ l, IsP k p) → A [.tup l] = .ok (.d (.int (mx (fun p => hD k (first p)) l : Nat))) none
theorem layers_e : LayersE (runFn 7 1 false layersB) := by
  intro k l hk hl hp
  refine eq_of_w ?_
  refine w_run0 rfl ?_
  show wS (layersB [Sl.val (.tup l), .no, .no, .no, .no, .no, .no]) _
  unfold layersB
  have s0 : shP (.tup []) = true := shT0
  refine ws_cut (fun ρ => ρ = [Sl.val (.tup l), .val (.int (0 : Nat)), .no, .no, .no, .no, .no]) ?_ ?_
  · simp only [↓w_var, ↓wVar_val, ↓wVar_own, ↓w_c, ↓w_nil, ↓w_cons, ↓w_app, ↓wViews_nil, ↓wViews_cons, ↓wView_d, ↓wView_fresh, ↓wView_plc, ↓wSlot_val, ↓wSlot_own, ↓wEsc_d, ↓wEsc_fresh, ↓wEsc_plc, ↓wEscS_val, ↓wEscS_own, ↓wEscs_nil, ↓wEscs_cons, ↓w_frz, ↓w_tup, ↓w_lst, ↓w_bool, ↓w_tru, ↓w_notT, ↓w_andT, ↓w_orT, ↓w_if, ↓w_and, ↓w_or, ↓w_not, ↓w_chain, ↓wB_bl, ↓w_noPart, ↓w_part, ↓w_slice, ↓w_call, ↓wPlc_cons, ↓wOwn_own, ↓w_callIo, ↓isLst_lst, ↓w_meth, ↓w_ext, ↓wExt_ok, ↓ws_next, ↓ws_bk, ↓ws_ct, ↓ws_rt, ↓ws_nx, ↓ws_seq, ↓ws_drop, ↓ws_ret, ↓ws_if, ↓ws_set, ↓wSet_d, ↓wSet_fresh, ↓wSet_plc, ↓ws_asg, ↓wt_name, ↓wt_nil, ↓wt_cons, ↓wt_tup, ↓wt_lst, ↓wPar_two, ↓ws_par, ↓wLstS_own, ↓wInt_int, ↓ws_item, ↓ws_for, ↓w_zip, ↓w_iter, ↓wItems_lst, ↓wItems_tup, ↓w_rng, ↓wRet_d, ↓wRet_fresh, ↓wRet_plc, ↓wRetS_val, ↓wRetS_own, ↓wRetS_ownS, ↓wI_some, ↓wI_none, ↓wI_ite, List.getElem?_cons_zero, List.getElem?_cons_succ, List.set_cons_zero, List.set_cons_succ]
    rfl
  rintro _ rfl
  refine ws_cut (fun ρ => ∃ L : List D, (∀ h ∈ L, IsH k h ∧ neO h = true) ∧ L.length ≤ l.length ∧ mx (hD k) L = mx (fun p => hD k (first p)) l ∧ ρ = [Sl.val (.tup l), .val (.int (0 : Nat)), .own (.lst L), .no, .no, .no, .no]) ?_ ?_
  · rw [ws_set, w_comp]
    simp only [↓w_var, ↓wVar_val, ↓wVar_own, ↓w_c, ↓w_nil, ↓w_cons, ↓w_app, ↓wViews_nil, ↓wViews_cons, ↓wView_d, ↓wView_fresh, ↓wView_plc, ↓wSlot_val, ↓wSlot_own, ↓wEsc_d, ↓wEsc_fresh, ↓wEsc_plc, ↓wEscS_val, ↓wEscS_own, ↓wEscs_nil, ↓wEscs_cons, ↓w_frz, ↓w_tup, ↓w_lst, ↓w_bool, ↓w_tru, ↓w_notT, ↓w_andT, ↓w_orT, ↓w_if, ↓w_and, ↓w_or, ↓w_not, ↓w_chain, ↓wB_bl, ↓w_noPart, ↓w_part, ↓w_slice, ↓w_call, ↓wPlc_cons, ↓wOwn_own, ↓w_callIo, ↓isLst_lst, ↓w_meth, ↓w_ext, ↓wExt_ok, ↓ws_next, ↓ws_bk, ↓ws_ct, ↓ws_rt, ↓ws_nx, ↓ws_seq, ↓ws_drop, ↓ws_ret, ↓ws_if, ↓ws_set, ↓wSet_d, ↓wSet_fresh, ↓wSet_plc, ↓ws_asg, ↓wt_name, ↓wt_nil, ↓wt_cons, ↓wt_tup, ↓wt_lst, ↓wPar_two, ↓ws_par, ↓wLstS_own, ↓wInt_int, ↓ws_item, ↓ws_for, ↓w_zip, ↓w_iter, ↓wItems_lst, ↓wItems_tup, ↓w_rng, ↓wRet_d, ↓wRet_fresh, ↓wRet_plc, ↓wRetS_val, ↓wRetS_own, ↓wRetS_ownS, ↓wI_some, ↓wI_none, ↓wI_ite, List.getElem?_cons_zero, List.getElem?_cons_succ, List.set_cons_zero, List.set_cons_succ]
    refine comp_inv (ds := l) (acc := []) (fun rest acc ρ => (∀ p ∈ rest, IsP k p) ∧ (∀ h ∈ acc, IsH k h ∧ neO h = true) ∧ acc.length + rest.length ≤ l.length ∧ max (mx (hD k) acc) (mx (fun p => hD k (first p)) rest) = mx (fun p => hD k (first p)) l ∧ ∃ z4 z5, ρ = [Sl.val (.tup l), .val (.int (0 : Nat)), .no, .no, z4, z5, .no]) ⟨hp, (fun h hh => by cases hh), by simp, by simp [mx], _, _, rfl⟩ ?_ ?_
    · rintro p rest acc ρ ⟨hp, ha, hn, hm, z4, z5, rfl⟩
      rw [List.length_cons] at hn
      obtain ⟨h1, x, rfl, hx, hh⟩ := hp p List.mem_cons_self
      have hm : max (mx (hD k) acc) (max (hD k h1) (mx (fun p => hD k (first p)) rest)) = mx (fun p => hD k (first p)) l := hm
      have hrest := fun q hq => hp q (List.mem_cons_of_mem _ hq)
      obtain ⟨o, q, rfl, ho, hop, h0, hq⟩ := hh.parts
      have so := shP_over (k := k - 1) (by omega) hop
      have hw : ∀ {a b c d e f g : Sl}, wipeD [a, b, c, d, e, f, g] [4, 5] = [a, b, c, d, .no, .no, g] := fun {a b c d e f g} => rfl
      have e2 : (([.tup [.tup o, fourD q], fr x] : List D).length == 2) = true := rfl
      rw [hw]
      simp (disch := assumption) only [↓w_var, ↓wVar_val, ↓wVar_own, ↓w_c, ↓w_nil, ↓w_cons, ↓w_app, ↓wViews_nil, ↓wViews_cons, ↓wView_d, ↓wView_fresh, ↓wView_plc, ↓wSlot_val, ↓wSlot_own, ↓wEsc_d, ↓wEsc_fresh, ↓wEsc_plc, ↓wEscS_val, ↓wEscS_own, ↓wEscs_nil, ↓wEscs_cons, ↓w_frz, ↓w_tup, ↓w_lst, ↓w_bool, ↓w_tru, ↓w_notT, ↓w_andT, ↓w_orT, ↓w_if, ↓w_and, ↓w_or, ↓w_not, ↓w_chain, ↓wB_bl, ↓w_noPart, ↓w_part, ↓w_slice, ↓w_call, ↓wPlc_cons, ↓wOwn_own, ↓w_callIo, ↓isLst_lst, ↓w_meth, ↓w_ext, ↓wExt_ok, ↓ws_next, ↓ws_bk, ↓ws_ct, ↓ws_rt, ↓ws_nx, ↓ws_seq, ↓ws_drop, ↓ws_ret, ↓ws_if, ↓ws_set, ↓wSet_d, ↓wSet_fresh, ↓wSet_plc, ↓ws_asg, ↓wt_name, ↓wt_nil, ↓wt_cons, ↓wt_tup, ↓wt_lst, ↓wPar_two, ↓ws_par, ↓wLstS_own, ↓wInt_int, ↓ws_item, ↓ws_for, ↓w_zip, ↓w_iter, ↓wItems_lst, ↓wItems_tup, ↓w_rng, ↓wRet_d, ↓wRet_fresh, ↓wRet_plc, ↓wRetS_val, ↓wRetS_own, ↓wRetS_ownS, ↓wI_some, ↓wI_none, ↓wI_ite, List.getElem?_cons_zero, List.getElem?_cons_succ, List.set_cons_zero, List.set_cons_succ, e2, ↓reduceIte, p_ix0, o_ne, eq_nil]
      cases he : o.isEmpty with
      | true =>
        have e0 := hD_no hh (show (!o.isEmpty) = false by rw [he]; rfl)
        simp only [Bool.not_true, Bool.false_eq_true, ↓reduceIte]
        exact ⟨hrest, ha, by omega, by rw [e0] at hm; omega, _, _, rfl⟩
      | false =>
        have hk : okLen acc.length = true := okLen_of (by omega)
        simp only [Bool.not_false, ↓reduceIte, ↓w_var, ↓wVar_val, ↓wVar_own, ↓w_c, ↓w_nil, ↓w_cons, ↓w_app, ↓wViews_nil, ↓wViews_cons, ↓wView_d, ↓wView_fresh, ↓wView_plc, ↓wSlot_val, ↓wSlot_own, ↓wEsc_d, ↓wEsc_fresh, ↓wEsc_plc, ↓wEscS_val, ↓wEscS_own, ↓wEscs_nil, ↓wEscs_cons, ↓w_frz, ↓w_tup, ↓w_lst, ↓w_bool, ↓w_tru, ↓w_notT, ↓w_andT, ↓w_orT, ↓w_if, ↓w_and, ↓w_or, ↓w_not, ↓w_chain, ↓wB_bl, ↓w_noPart, ↓w_part, ↓w_slice, ↓w_call, ↓wPlc_cons, ↓wOwn_own, ↓w_callIo, ↓isLst_lst, ↓w_meth, ↓w_ext, ↓wExt_ok, ↓ws_next, ↓ws_bk, ↓ws_ct, ↓ws_rt, ↓ws_nx, ↓ws_seq, ↓ws_drop, ↓ws_ret, ↓ws_if, ↓ws_set, ↓wSet_d, ↓wSet_fresh, ↓wSet_plc, ↓ws_asg, ↓wt_name, ↓wt_nil, ↓wt_cons, ↓wt_tup, ↓wt_lst, ↓wPar_two, ↓ws_par, ↓wLstS_own, ↓wInt_int, ↓ws_item, ↓ws_for, ↓w_zip, ↓w_iter, ↓wItems_lst, ↓wItems_tup, ↓w_rng, ↓wRet_d, ↓wRet_fresh, ↓wRet_plc, ↓wRetS_val, ↓wRetS_own, ↓wRetS_ownS, ↓wI_some, ↓wI_none, ↓wI_ite, List.getElem?_cons_zero, List.getElem?_cons_succ, List.set_cons_zero, List.set_cons_succ]
        refine ⟨hk, hrest, fun h hh' => ?_, by simp; omega, ?_, _, _, rfl⟩
        · rcases List.mem_append.mp hh' with q' | q'
          · exact ha h q'
          · rw [List.mem_singleton.mp q']
            exact ⟨hh, by show (!o.isEmpty) = true; rw [he]; rfl⟩
        · rw [mx_app]
          have : mx (hD k) [.tup [.tup o, fourD q]] = hD k (.tup [.tup o, fourD q]) := by simp [mx]
          omega
    · rintro acc ρ ⟨_, ha, hn, hm, z4, z5, rfl⟩
      have hu : ∀ {a b c d e f g a2 b2 c2 d2 e2 f2 g2 : Sl}, unw [a, b, c, d, e, f, g] [a2, b2, c2, d2, e2, f2, g2] [4, 5] = [a2, b2, c2, d2, e, f, g2] := fun {a b c d e f g a2 b2 c2 d2 e2 f2 g2} => rfl
      simp only [hu, ↓w_var, ↓wVar_val, ↓wVar_own, ↓w_c, ↓w_nil, ↓w_cons, ↓w_app, ↓wViews_nil, ↓wViews_cons, ↓wView_d, ↓wView_fresh, ↓wView_plc, ↓wSlot_val, ↓wSlot_own, ↓wEsc_d, ↓wEsc_fresh, ↓wEsc_plc, ↓wEscS_val, ↓wEscS_own, ↓wEscs_nil, ↓wEscs_cons, ↓w_frz, ↓w_tup, ↓w_lst, ↓w_bool, ↓w_tru, ↓w_notT, ↓w_andT, ↓w_orT, ↓w_if, ↓w_and, ↓w_or, ↓w_not, ↓w_chain, ↓wB_bl, ↓w_noPart, ↓w_part, ↓w_slice, ↓w_call, ↓wPlc_cons, ↓wOwn_own, ↓w_callIo, ↓isLst_lst, ↓w_meth, ↓w_ext, ↓wExt_ok, ↓ws_next, ↓ws_bk, ↓ws_ct, ↓ws_rt, ↓ws_nx, ↓ws_seq, ↓ws_drop, ↓ws_ret, ↓ws_if, ↓ws_set, ↓wSet_d, ↓wSet_fresh, ↓wSet_plc, ↓ws_asg, ↓wt_name, ↓wt_nil, ↓wt_cons, ↓wt_tup, ↓wt_lst, ↓wPar_two, ↓ws_par, ↓wLstS_own, ↓wInt_int, ↓ws_item, ↓ws_for, ↓w_zip, ↓w_iter, ↓wItems_lst, ↓wItems_tup, ↓w_rng, ↓wRet_d, ↓wRet_fresh, ↓wRet_plc, ↓wRetS_val, ↓wRetS_own, ↓wRetS_ownS, ↓wI_some, ↓wI_none, ↓wI_ite, List.getElem?_cons_zero, List.getElem?_cons_succ, List.set_cons_zero, List.set_cons_succ]
      refine ⟨acc, ha, by simpa using hn, ?_, rfl⟩
      have : mx (fun p => hD k (first p)) [] = 0 := rfl
      omega
  rintro _ ⟨L, hL, hLl, hM, rfl⟩
  have pk : 2 ^ k ≤ 64 := Nat.pow_le_pow_right (show 0 < 2 by omega) hk
  have hb : l.length * 2 ^ k ≤ 100 * 64 := Nat.mul_le_mul hl pk
  refine ws_cut (fun ρ => ∃ z2 z3 z4, ρ = [Sl.val (.tup l), .val (.int (mx (fun p => hD k (first p)) l : Nat)), z2, z3, z4, .no, .no]) ?_ ?_
  · refine while_inv (n := k) (fun j ρ => ∃ (t : Nat) (L : List D) (u z3 z4 : Sl), (u = .own (.lst L) ∨ u = .val (.lst L)) ∧ j ≤ k ∧ (∀ h ∈ L, IsH j h ∧ neO h = true) ∧ L.length * 2 ^ j ≤ l.length * 2 ^ k ∧ t + mx (hD j) L = mx (fun p => hD k (first p)) l ∧ ρ = [Sl.val (.tup l), .val (.int (t : Nat)), u, z3, z4, .no, .no])
      ⟨0, L, _, .no, .no, .inl rfl, Nat.le_refl _, hL, Nat.mul_le_mul_right _ hLl, by omega, rfl⟩ ?_
    rintro j ρ ⟨t, L, u, z3, z4, hu, hj, hL, hlen, hM, rfl⟩
    have p1 := Nat.two_pow_pos j
    have hLb : L.length ≤ 6400 := by
      have := Nat.le_mul_of_pos_right L.length p1
      omega
    have sL : shP (.lst L) = true := shP_of (k := 3 * j + 3 + 1) (by
      rw [shN]
      exact shNs_of fun d hd => sh_height (hL d hd).1) (by omega)
    have hc : wO (dBool (dApp oNe [dVar 2, dLst []]) [Sl.val (.tup l), .val (.int (t : Nat)), u, z3, z4, .no, .no]) (fun b ρ1 => b = !L.isEmpty ∧ ρ1 = [Sl.val (.tup l), .val (.int (t : Nat)), u, z3, z4, .no, .no]) fun _ _ => False := by
      have s00 := sh00
      rcases hu with rfl | rfl <;>
      · simp (disch := assumption) only [↓w_var, ↓wVar_val, ↓wVar_own, ↓w_c, ↓w_nil, ↓w_cons, ↓w_app, ↓wViews_nil, ↓wViews_cons, ↓wView_d, ↓wView_fresh, ↓wView_plc, ↓wSlot_val, ↓wSlot_own, ↓wEsc_d, ↓wEsc_fresh, ↓wEsc_plc, ↓wEscS_val, ↓wEscS_own, ↓wEscs_nil, ↓wEscs_cons, ↓w_frz, ↓w_tup, ↓w_lst, ↓w_bool, ↓w_tru, ↓w_notT, ↓w_andT, ↓w_orT, ↓w_if, ↓w_and, ↓w_or, ↓w_not, ↓w_chain, ↓wB_bl, ↓w_noPart, ↓w_part, ↓w_slice, ↓w_call, ↓wPlc_cons, ↓wOwn_own, ↓w_callIo, ↓isLst_lst, ↓w_meth, ↓w_ext, ↓wExt_ok, ↓ws_next, ↓ws_bk, ↓ws_ct, ↓ws_rt, ↓ws_nx, ↓ws_seq, ↓ws_drop, ↓ws_ret, ↓ws_if, ↓ws_set, ↓wSet_d, ↓wSet_fresh, ↓wSet_plc, ↓ws_asg, ↓wt_name, ↓wt_nil, ↓wt_cons, ↓wt_tup, ↓wt_lst, ↓wPar_two, ↓ws_par, ↓wLstS_own, ↓wInt_int, ↓ws_item, ↓ws_for, ↓w_zip, ↓w_iter, ↓wItems_lst, ↓wItems_tup, ↓w_rng, ↓wRet_d, ↓wRet_fresh, ↓wRet_plc, ↓wRetS_val, ↓wRetS_own, ↓wRetS_ownS, ↓wI_some, ↓wI_none, ↓wI_ite, List.getElem?_cons_zero, List.getElem?_cons_succ, List.set_cons_zero, List.set_cons_succ, o_ne, eq_nilL]
        exact ⟨trivial, trivial⟩
    refine wO_mono hc (fun b ρ1 ⟨eb, er⟩ => ?_) fun _ _ z => z.elim
    subst eb er
    cases L with
    | nil =>
      simp only [List.isEmpty_nil, Bool.not_true, Bool.false_eq_true, ↓reduceIte]
      have : mx (hD j) [] = 0 := rfl
      exact ⟨u, z3, z4, by rw [← hM, this, Nat.add_zero]⟩
    | cons h0 L0 =>
      obtain ⟨j, rfl⟩ := neO_succ (hL h0 List.mem_cons_self).1 (hL h0 List.mem_cons_self).2
      generalize hLe : h0 :: L0 = L at *
      have hLn : L.isEmpty = false := by rw [← hLe]; rfl
      have hL1 : 1 ≤ mx (hD (j + 1)) L := by
        rw [← hLe]
        obtain ⟨o, q, e, _⟩ := (hL h0 (by rw [← hLe]; exact List.mem_cons_self)).1.parts
        have hn := (hL h0 (by rw [← hLe]; exact List.mem_cons_self)).2
        subst e
        have := hD_yes (k := j) hn
        show 1 ≤ max (hD (j + 1) _) _
        omega
      simp only [hLn, Bool.not_false, ↓reduceIte]
      refine ws_cut (fun ρ => ρ = [Sl.val (.tup l), .val (.int ((t + 1 : Nat) : Int)), u, z3, z4, .no, .no]) ?_ ?_
      · simp only [↓w_var, ↓wVar_val, ↓wVar_own, ↓w_c, ↓w_nil, ↓w_cons, ↓w_app, ↓wViews_nil, ↓wViews_cons, ↓wView_d, ↓wView_fresh, ↓wView_plc, ↓wSlot_val, ↓wSlot_own, ↓wEsc_d, ↓wEsc_fresh, ↓wEsc_plc, ↓wEscS_val, ↓wEscS_own, ↓wEscs_nil, ↓wEscs_cons, ↓w_frz, ↓w_tup, ↓w_lst, ↓w_bool, ↓w_tru, ↓w_notT, ↓w_andT, ↓w_orT, ↓w_if, ↓w_and, ↓w_or, ↓w_not, ↓w_chain, ↓wB_bl, ↓w_noPart, ↓w_part, ↓w_slice, ↓w_call, ↓wPlc_cons, ↓wOwn_own, ↓w_callIo, ↓isLst_lst, ↓w_meth, ↓w_ext, ↓wExt_ok, ↓ws_next, ↓ws_bk, ↓ws_ct, ↓ws_rt, ↓ws_nx, ↓ws_seq, ↓ws_drop, ↓ws_ret, ↓ws_if, ↓ws_set, ↓wSet_d, ↓wSet_fresh, ↓wSet_plc, ↓ws_asg, ↓wt_name, ↓wt_nil, ↓wt_cons, ↓wt_tup, ↓wt_lst, ↓wPar_two, ↓ws_par, ↓wLstS_own, ↓wInt_int, ↓ws_item, ↓ws_for, ↓w_zip, ↓w_iter, ↓wItems_lst, ↓wItems_tup, ↓w_rng, ↓wRet_d, ↓wRet_fresh, ↓wRet_plc, ↓wRetS_val, ↓wRetS_own, ↓wRetS_ownS, ↓wI_some, ↓wI_none, ↓wI_ite, List.getElem?_cons_zero, List.getElem?_cons_succ, List.set_cons_zero, List.set_cons_succ, o_add]
        first | rfl | trivial
      rintro _ rfl
      refine ws_cut (fun ρ => ρ = [Sl.val (.tup l), .val (.int ((t + 1 : Nat) : Int)), u, .own (.lst []), z4, .no, .no]) ?_ ?_
      · simp only [↓w_var, ↓wVar_val, ↓wVar_own, ↓w_c, ↓w_nil, ↓w_cons, ↓w_app, ↓wViews_nil, ↓wViews_cons, ↓wView_d, ↓wView_fresh, ↓wView_plc, ↓wSlot_val, ↓wSlot_own, ↓wEsc_d, ↓wEsc_fresh, ↓wEsc_plc, ↓wEscS_val, ↓wEscS_own, ↓wEscs_nil, ↓wEscs_cons, ↓w_frz, ↓w_tup, ↓w_lst, ↓w_bool, ↓w_tru, ↓w_notT, ↓w_andT, ↓w_orT, ↓w_if, ↓w_and, ↓w_or, ↓w_not, ↓w_chain, ↓wB_bl, ↓w_noPart, ↓w_part, ↓w_slice, ↓w_call, ↓wPlc_cons, ↓wOwn_own, ↓w_callIo, ↓isLst_lst, ↓w_meth, ↓w_ext, ↓wExt_ok, ↓ws_next, ↓ws_bk, ↓ws_ct, ↓ws_rt, ↓ws_nx, ↓ws_seq, ↓ws_drop, ↓ws_ret, ↓ws_if, ↓ws_set, ↓wSet_d, ↓wSet_fresh, ↓wSet_plc, ↓ws_asg, ↓wt_name, ↓wt_nil, ↓wt_cons, ↓wt_tup, ↓wt_lst, ↓wPar_two, ↓ws_par, ↓wLstS_own, ↓wInt_int, ↓ws_item, ↓ws_for, ↓w_zip, ↓w_iter, ↓wItems_lst, ↓wItems_tup, ↓w_rng, ↓wRet_d, ↓wRet_fresh, ↓wRet_plc, ↓wRetS_val, ↓wRetS_own, ↓wRetS_ownS, ↓wI_some, ↓wI_none, ↓wI_ite, List.getElem?_cons_zero, List.getElem?_cons_succ, List.set_cons_zero, List.set_cons_succ]
      rintro _ rfl
      have e2 : L.length * 2 ^ (j + 1) = 2 * L.length * 2 ^ j := by rw [Nat.pow_succ]; grind
      refine ws_cut (fun ρ => ∃ (L' : List D) (u z4 : Sl), (∀ h ∈ L', IsH j h ∧ neO h = true) ∧ L'.length ≤ 2 * L.length ∧ 1 + mx (hD j) L' = mx (hD (j + 1)) L ∧ ρ = [Sl.val (.tup l), .val (.int ((t + 1 : Nat) : Int)), u, .own (.lst L'), z4, .no, .no]) ?_ ?_
      · have fin : ∀ u, wS (forL (tName 4) (sDrop (dExtend 3 [dComp [6] (dIter (dApp oIx [dVar 4, dC (.int 0)])) (tName 6) (dBool (dApp oNe [dApp oIx [dApp oIx [dVar 6, dC (.int 0)], dC (.int 0)], dTup []])) (dApp oIx [dVar 6, dC (.int 0)])])) L [Sl.val (.tup l), .val (.int ((t + 1 : Nat) : Int)), u, .own (.lst []), z4, .no, .no])
            ⟨fun ρ => ∃ (L' : List D) (u z4 : Sl), (∀ h ∈ L', IsH j h ∧ neO h = true) ∧ L'.length ≤ 2 * L.length ∧ 1 + mx (hD j) L' = mx (hD (j + 1)) L ∧ ρ = [Sl.val (.tup l), .val (.int ((t + 1 : Nat) : Int)), u, .own (.lst L'), z4, .no, .no], fun _ _ => False, fun _ => False, fun _ => False, fun _ _ => False⟩ := fun u => by
          refine for_inv (fun ds ρ => ∃ (L' : List D) (z4 : Sl), (∀ h ∈ L', IsH j h ∧ neO h = true) ∧ (∀ h ∈ ds, IsH (j + 1) h ∧ neO h = true) ∧ L'.length + 2 * ds.length ≤ 2 * L.length ∧ max (1 + mx (hD j) L') (mx (hD (j + 1)) ds) = mx (hD (j + 1)) L ∧ ρ = [Sl.val (.tup l), .val (.int ((t + 1 : Nat) : Int)), u, .own (.lst L'), z4, .no, .no]) ⟨[], z4, (fun h hh => by cases hh), hL, by simp, by simp [mx]; omega, rfl⟩ ?_ ?_
          · rintro h ds ρ ⟨L', z4, hL', hds, hlen, hm, rfl⟩
            rw [List.length_cons] at hlen
            obtain ⟨hh, hn⟩ := hds h List.mem_cons_self
            obtain ⟨o, q, rfl, ho, hop, _, hq⟩ := hh.parts
            have hop : ∀ p ∈ o, IsP j p := hop
            have hm : max (1 + mx (hD j) L') (max (hD (j + 1) (.tup [.tup o, fourD q])) (mx (hD (j + 1)) ds)) = mx (hD (j + 1)) L := hm
            rw [hD_yes hn, ← mx_filter hop] at hm
            simp only [↓w_var, ↓wVar_val, ↓wVar_own, ↓w_c, ↓w_nil, ↓w_cons, ↓w_app, ↓wViews_nil, ↓wViews_cons, ↓wView_d, ↓wView_fresh, ↓wView_plc, ↓wSlot_val, ↓wSlot_own, ↓wEsc_d, ↓wEsc_fresh, ↓wEsc_plc, ↓wEscS_val, ↓wEscS_own, ↓wEscs_nil, ↓wEscs_cons, ↓w_frz, ↓w_tup, ↓w_lst, ↓w_bool, ↓w_tru, ↓w_notT, ↓w_andT, ↓w_orT, ↓w_if, ↓w_and, ↓w_or, ↓w_not, ↓w_chain, ↓wB_bl, ↓w_noPart, ↓w_part, ↓w_slice, ↓w_call, ↓wPlc_cons, ↓wOwn_own, ↓w_callIo, ↓isLst_lst, ↓w_meth, ↓w_ext, ↓wExt_ok, ↓ws_next, ↓ws_bk, ↓ws_ct, ↓ws_rt, ↓ws_nx, ↓ws_seq, ↓ws_drop, ↓ws_ret, ↓ws_if, ↓ws_set, ↓wSet_d, ↓wSet_fresh, ↓wSet_plc, ↓ws_asg, ↓wt_name, ↓wt_nil, ↓wt_cons, ↓wt_tup, ↓wt_lst, ↓wPar_two, ↓ws_par, ↓wLstS_own, ↓wInt_int, ↓ws_item, ↓ws_for, ↓w_zip, ↓w_iter, ↓wItems_lst, ↓wItems_tup, ↓w_rng, ↓wRet_d, ↓wRet_fresh, ↓wRet_plc, ↓wRetS_val, ↓wRetS_own, ↓wRetS_ownS, ↓wI_some, ↓wI_none, ↓wI_ite, List.getElem?_cons_zero, List.getElem?_cons_succ, List.set_cons_zero, List.set_cons_succ]
            refine comp_fil (fun p => neO (first p)) first ?_
            simp only [↓w_var, ↓wVar_val, ↓wVar_own, ↓w_c, ↓w_nil, ↓w_cons, ↓w_app, ↓wViews_nil, ↓wViews_cons, ↓wView_d, ↓wView_fresh, ↓wView_plc, ↓wSlot_val, ↓wSlot_own, ↓wEsc_d, ↓wEsc_fresh, ↓wEsc_plc, ↓wEscS_val, ↓wEscS_own, ↓wEscs_nil, ↓wEscs_cons, ↓w_frz, ↓w_tup, ↓w_lst, ↓w_bool, ↓w_tru, ↓w_notT, ↓w_andT, ↓w_orT, ↓w_if, ↓w_and, ↓w_or, ↓w_not, ↓w_chain, ↓wB_bl, ↓w_noPart, ↓w_part, ↓w_slice, ↓w_call, ↓wPlc_cons, ↓wOwn_own, ↓w_callIo, ↓isLst_lst, ↓w_meth, ↓w_ext, ↓wExt_ok, ↓ws_next, ↓ws_bk, ↓ws_ct, ↓ws_rt, ↓ws_nx, ↓ws_seq, ↓ws_drop, ↓ws_ret, ↓ws_if, ↓ws_set, ↓wSet_d, ↓wSet_fresh, ↓wSet_plc, ↓ws_asg, ↓wt_name, ↓wt_nil, ↓wt_cons, ↓wt_tup, ↓wt_lst, ↓wPar_two, ↓ws_par, ↓wLstS_own, ↓wInt_int, ↓ws_item, ↓ws_for, ↓w_zip, ↓w_iter, ↓wItems_lst, ↓wItems_tup, ↓w_rng, ↓wRet_d, ↓wRet_fresh, ↓wRet_plc, ↓wRetS_val, ↓wRetS_own, ↓wRetS_ownS, ↓wI_some, ↓wI_none, ↓wI_ite, List.getElem?_cons_zero, List.getElem?_cons_succ, List.set_cons_zero, List.set_cons_succ, p_ix0]
            refine ⟨by omega, fun p hp => ?_, fun p hp _ => ?_, ?_⟩
            · obtain ⟨h1, x, rfl, hx, hh1⟩ := hop p hp
              obtain ⟨o1, q1, rfl, _, hop1, _, _⟩ := hh1.parts
              have so := shP_over (k := j - 1) (by omega) hop1
              simp (disch := assumption) only [↓w_var, ↓wVar_val, ↓wVar_own, ↓w_c, ↓w_nil, ↓w_cons, ↓w_app, ↓wViews_nil, ↓wViews_cons, ↓wView_d, ↓wView_fresh, ↓wView_plc, ↓wSlot_val, ↓wSlot_own, ↓wEsc_d, ↓wEsc_fresh, ↓wEsc_plc, ↓wEscS_val, ↓wEscS_own, ↓wEscs_nil, ↓wEscs_cons, ↓w_frz, ↓w_tup, ↓w_lst, ↓w_bool, ↓w_tru, ↓w_notT, ↓w_andT, ↓w_orT, ↓w_if, ↓w_and, ↓w_or, ↓w_not, ↓w_chain, ↓wB_bl, ↓w_noPart, ↓w_part, ↓w_slice, ↓w_call, ↓wPlc_cons, ↓wOwn_own, ↓w_callIo, ↓isLst_lst, ↓w_meth, ↓w_ext, ↓wExt_ok, ↓ws_next, ↓ws_bk, ↓ws_ct, ↓ws_rt, ↓ws_nx, ↓ws_seq, ↓ws_drop, ↓ws_ret, ↓ws_if, ↓ws_set, ↓wSet_d, ↓wSet_fresh, ↓wSet_plc, ↓ws_asg, ↓wt_name, ↓wt_nil, ↓wt_cons, ↓wt_tup, ↓wt_lst, ↓wPar_two, ↓ws_par, ↓wLstS_own, ↓wInt_int, ↓ws_item, ↓ws_for, ↓w_zip, ↓w_iter, ↓wItems_lst, ↓wItems_tup, ↓w_rng, ↓wRet_d, ↓wRet_fresh, ↓wRet_plc, ↓wRetS_val, ↓wRetS_own, ↓wRetS_ownS, ↓wI_some, ↓wI_none, ↓wI_ite, List.getElem?_cons_zero, List.getElem?_cons_succ, List.set_cons_zero, List.set_cons_succ, p_ix0, o_ne, eq_nil]
              exact ⟨rfl, trivial⟩
            · obtain ⟨h1, x, rfl, hx, hh1⟩ := hop p hp
              simp only [↓w_var, ↓wVar_val, ↓wVar_own, ↓w_c, ↓w_nil, ↓w_cons, ↓w_app, ↓wViews_nil, ↓wViews_cons, ↓wView_d, ↓wView_fresh, ↓wView_plc, ↓wSlot_val, ↓wSlot_own, ↓wEsc_d, ↓wEsc_fresh, ↓wEsc_plc, ↓wEscS_val, ↓wEscS_own, ↓wEscs_nil, ↓wEscs_cons, ↓w_frz, ↓w_tup, ↓w_lst, ↓w_bool, ↓w_tru, ↓w_notT, ↓w_andT, ↓w_orT, ↓w_if, ↓w_and, ↓w_or, ↓w_not, ↓w_chain, ↓wB_bl, ↓w_noPart, ↓w_part, ↓w_slice, ↓w_call, ↓wPlc_cons, ↓wOwn_own, ↓w_callIo, ↓isLst_lst, ↓w_meth, ↓w_ext, ↓wExt_ok, ↓ws_next, ↓ws_bk, ↓ws_ct, ↓ws_rt, ↓ws_nx, ↓ws_seq, ↓ws_drop, ↓ws_ret, ↓ws_if, ↓ws_set, ↓wSet_d, ↓wSet_fresh, ↓wSet_plc, ↓ws_asg, ↓wt_name, ↓wt_nil, ↓wt_cons, ↓wt_tup, ↓wt_lst, ↓wPar_two, ↓ws_par, ↓wLstS_own, ↓wInt_int, ↓ws_item, ↓ws_for, ↓w_zip, ↓w_iter, ↓wItems_lst, ↓wItems_tup, ↓w_rng, ↓wRet_d, ↓wRet_fresh, ↓wRet_plc, ↓wRetS_val, ↓wRetS_own, ↓wRetS_ownS, ↓wI_some, ↓wI_none, ↓wI_ite, List.getElem?_cons_zero, List.getElem?_cons_succ, List.set_cons_zero, List.set_cons_succ, p_ix0]
              exact ⟨rfl, trivial⟩
            · have ll := List.length_filter_le (fun p => neO (first p)) o
              try simp only [↓w_var, ↓wVar_val, ↓wVar_own, ↓w_c, ↓w_nil, ↓w_cons, ↓w_app, ↓wViews_nil, ↓wViews_cons, ↓wView_d, ↓wView_fresh, ↓wView_plc, ↓wSlot_val, ↓wSlot_own, ↓wEsc_d, ↓wEsc_fresh, ↓wEsc_plc, ↓wEscS_val, ↓wEscS_own, ↓wEscs_nil, ↓wEscs_cons, ↓w_frz, ↓w_tup, ↓w_lst, ↓w_bool, ↓w_tru, ↓w_notT, ↓w_andT, ↓w_orT, ↓w_if, ↓w_and, ↓w_or, ↓w_not, ↓w_chain, ↓wB_bl, ↓w_noPart, ↓w_part, ↓w_slice, ↓w_call, ↓wPlc_cons, ↓wOwn_own, ↓w_callIo, ↓isLst_lst, ↓w_meth, ↓w_ext, ↓wExt_ok, ↓ws_next, ↓ws_bk, ↓ws_ct, ↓ws_rt, ↓ws_nx, ↓ws_seq, ↓ws_drop, ↓ws_ret, ↓ws_if, ↓ws_set, ↓wSet_d, ↓wSet_fresh, ↓wSet_plc, ↓ws_asg, ↓wt_name, ↓wt_nil, ↓wt_cons, ↓wt_tup, ↓wt_lst, ↓wPar_two, ↓ws_par, ↓wLstS_own, ↓wInt_int, ↓ws_item, ↓ws_for, ↓w_zip, ↓w_iter, ↓wItems_lst, ↓wItems_tup, ↓w_rng, ↓wRet_d, ↓wRet_fresh, ↓wRet_plc, ↓wRetS_val, ↓wRetS_own, ↓wRetS_ownS, ↓wI_some, ↓wI_none, ↓wI_ite, List.getElem?_cons_zero, List.getElem?_cons_succ, List.set_cons_zero, List.set_cons_succ]
              refine ⟨okLen_of (by rw [List.length_map]; omega), _, _, fun h hh' => ?_, fun h hh' => hds h (List.mem_cons_of_mem _ hh'), ?_, ?_, rfl⟩
              · rcases List.mem_append.mp hh' with q' | q'
                · exact hL' h q'
                · obtain ⟨p, hp, rfl⟩ := List.mem_map.mp q'
                  obtain ⟨hp, hn⟩ := List.mem_filter.mp hp
                  obtain ⟨h1, x, rfl, _, hh1⟩ := hop p hp
                  exact ⟨hh1, hn⟩
              · rw [List.length_append, List.length_map]
                omega
              · rw [mx_app]
                omega
          · rintro ρ ⟨L', z4, hL', _, hlen, hm, rfl⟩
            have : mx (hD (j + 1)) [] = 0 := rfl
            exact ⟨L', _, z4, hL', by simpa using hlen, by omega, rfl⟩
        rcases hu with rfl | rfl
        · simp only [↓w_var, ↓wVar_val, ↓wVar_own, ↓w_c, ↓w_nil, ↓w_cons, ↓w_app, ↓wViews_nil, ↓wViews_cons, ↓wView_d, ↓wView_fresh, ↓wView_plc, ↓wSlot_val, ↓wSlot_own, ↓wEsc_d, ↓wEsc_fresh, ↓wEsc_plc, ↓wEscS_val, ↓wEscS_own, ↓wEscs_nil, ↓wEscs_cons, ↓w_frz, ↓w_tup, ↓w_lst, ↓w_bool, ↓w_tru, ↓w_notT, ↓w_andT, ↓w_orT, ↓w_if, ↓w_and, ↓w_or, ↓w_not, ↓w_chain, ↓wB_bl, ↓w_noPart, ↓w_part, ↓w_slice, ↓w_call, ↓wPlc_cons, ↓wOwn_own, ↓w_callIo, ↓isLst_lst, ↓w_meth, ↓w_ext, ↓wExt_ok, ↓ws_next, ↓ws_bk, ↓ws_ct, ↓ws_rt, ↓ws_nx, ↓ws_seq, ↓ws_drop, ↓ws_ret, ↓ws_if, ↓ws_set, ↓wSet_d, ↓wSet_fresh, ↓wSet_plc, ↓ws_asg, ↓wt_name, ↓wt_nil, ↓wt_cons, ↓wt_tup, ↓wt_lst, ↓wPar_two, ↓ws_par, ↓wLstS_own, ↓wInt_int, ↓ws_item, ↓ws_for, ↓w_zip, ↓w_iter, ↓wItems_lst, ↓wItems_tup, ↓w_rng, ↓wRet_d, ↓wRet_fresh, ↓wRet_plc, ↓wRetS_val, ↓wRetS_own, ↓wRetS_ownS, ↓wI_some, ↓wI_none, ↓wI_ite, List.getElem?_cons_zero, List.getElem?_cons_succ, List.set_cons_zero, List.set_cons_succ]
          exact wS_mono (fin _) (fun _ h => h) (fun _ _ h => h.elim) (fun _ h => h.elim) (fun _ h => h.elim) fun _ _ h => h.elim
        · simp only [↓w_var, ↓wVar_val, ↓wVar_own, ↓w_c, ↓w_nil, ↓w_cons, ↓w_app, ↓wViews_nil, ↓wViews_cons, ↓wView_d, ↓wView_fresh, ↓wView_plc, ↓wSlot_val, ↓wSlot_own, ↓wEsc_d, ↓wEsc_fresh, ↓wEsc_plc, ↓wEscS_val, ↓wEscS_own, ↓wEscs_nil, ↓wEscs_cons, ↓w_frz, ↓w_tup, ↓w_lst, ↓w_bool, ↓w_tru, ↓w_notT, ↓w_andT, ↓w_orT, ↓w_if, ↓w_and, ↓w_or, ↓w_not, ↓w_chain, ↓wB_bl, ↓w_noPart, ↓w_part, ↓w_slice, ↓w_call, ↓wPlc_cons, ↓wOwn_own, ↓w_callIo, ↓isLst_lst, ↓w_meth, ↓w_ext, ↓wExt_ok, ↓ws_next, ↓ws_bk, ↓ws_ct, ↓ws_rt, ↓ws_nx, ↓ws_seq, ↓ws_drop, ↓ws_ret, ↓ws_if, ↓ws_set, ↓wSet_d, ↓wSet_fresh, ↓wSet_plc, ↓ws_asg, ↓wt_name, ↓wt_nil, ↓wt_cons, ↓wt_tup, ↓wt_lst, ↓wPar_two, ↓ws_par, ↓wLstS_own, ↓wInt_int, ↓ws_item, ↓ws_for, ↓w_zip, ↓w_iter, ↓wItems_lst, ↓wItems_tup, ↓w_rng, ↓wRet_d, ↓wRet_fresh, ↓wRet_plc, ↓wRetS_val, ↓wRetS_own, ↓wRetS_ownS, ↓wI_some, ↓wI_none, ↓wI_ite, List.getElem?_cons_zero, List.getElem?_cons_succ, List.set_cons_zero, List.set_cons_succ]
          exact wS_mono (fin _) (fun _ h => h) (fun _ _ h => h.elim) (fun _ h => h.elim) (fun _ h => h.elim) fun _ _ h => h.elim
      rintro _ ⟨L', u', z4', hL', hlen', hm', rfl⟩
      simp only [↓w_var, ↓wVar_val, ↓wVar_own, ↓w_c, ↓w_nil, ↓w_cons, ↓w_app, ↓wViews_nil, ↓wViews_cons, ↓wView_d, ↓wView_fresh, ↓wView_plc, ↓wSlot_val, ↓wSlot_own, ↓wEsc_d, ↓wEsc_fresh, ↓wEsc_plc, ↓wEscS_val, ↓wEscS_own, ↓wEscs_nil, ↓wEscs_cons, ↓w_frz, ↓w_tup, ↓w_lst, ↓w_bool, ↓w_tru, ↓w_notT, ↓w_andT, ↓w_orT, ↓w_if, ↓w_and, ↓w_or, ↓w_not, ↓w_chain, ↓wB_bl, ↓w_noPart, ↓w_part, ↓w_slice, ↓w_call, ↓wPlc_cons, ↓wOwn_own, ↓w_callIo, ↓isLst_lst, ↓w_meth, ↓w_ext, ↓wExt_ok, ↓ws_next, ↓ws_bk, ↓ws_ct, ↓ws_rt, ↓ws_nx, ↓ws_seq, ↓ws_drop, ↓ws_ret, ↓ws_if, ↓ws_set, ↓wSet_d, ↓wSet_fresh, ↓wSet_plc, ↓ws_asg, ↓wt_name, ↓wt_nil, ↓wt_cons, ↓wt_tup, ↓wt_lst, ↓wPar_two, ↓ws_par, ↓wLstS_own, ↓wInt_int, ↓ws_item, ↓ws_for, ↓w_zip, ↓w_iter, ↓wItems_lst, ↓wItems_tup, ↓w_rng, ↓wRet_d, ↓wRet_fresh, ↓wRet_plc, ↓wRetS_val, ↓wRetS_own, ↓wRetS_ownS, ↓wI_some, ↓wI_none, ↓wI_ite, List.getElem?_cons_zero, List.getElem?_cons_succ, List.set_cons_zero, List.set_cons_succ]
      refine ⟨j, by omega, t + 1, L', _, _, _, .inr rfl, by omega, hL', ?_, by omega, rfl⟩
      have := Nat.mul_le_mul_right (2 ^ j) hlen'
      omega
  rintro _ ⟨z2, z3, z4, rfl⟩
  simp only [↓w_var, ↓wVar_val, ↓wVar_own, ↓w_c, ↓w_nil, ↓w_cons, ↓w_app, ↓wViews_nil, ↓wViews_cons, ↓wView_d, ↓wView_fresh, ↓wView_plc, ↓wSlot_val, ↓wSlot_own, ↓wEsc_d, ↓wEsc_fresh, ↓wEsc_plc, ↓wEscS_val, ↓wEscS_own, ↓wEscs_nil, ↓wEscs_cons, ↓w_frz, ↓w_tup, ↓w_lst, ↓w_bool, ↓w_tru, ↓w_notT, ↓w_andT, ↓w_orT, ↓w_if, ↓w_and, ↓w_or, ↓w_not, ↓w_chain, ↓wB_bl, ↓w_noPart, ↓w_part, ↓w_slice, ↓w_call, ↓wPlc_cons, ↓wOwn_own, ↓w_callIo, ↓isLst_lst, ↓w_meth, ↓w_ext, ↓wExt_ok, ↓ws_next, ↓ws_bk, ↓ws_ct, ↓ws_rt, ↓ws_nx, ↓ws_seq, ↓ws_drop, ↓ws_ret, ↓ws_if, ↓ws_set, ↓wSet_d, ↓wSet_fresh, ↓wSet_plc, ↓ws_asg, ↓wt_name, ↓wt_nil, ↓wt_cons, ↓wt_tup, ↓wt_lst, ↓wPar_two, ↓ws_par, ↓wLstS_own, ↓wInt_int, ↓ws_item, ↓ws_for, ↓w_zip, ↓w_iter, ↓wItems_lst, ↓wItems_tup, ↓w_rng, ↓wRet_d, ↓wRet_fresh, ↓wRet_plc, ↓wRetS_val, ↓wRetS_own, ↓wRetS_ownS, ↓wI_some, ↓wI_none, ↓wI_ite, List.getElem?_cons_zero, List.getElem?_cons_succ, List.set_cons_zero, List.set_cons_succ]
end DL
set_option maxHeartbeats 2000000
/-! DL, part 40: cuts that keep the rest closed (what is wanted of it is not reckoned out by the elaborator). -/
namespace DL
open PySem PySem.Spec PyProof.Rows L2
@[irreducible] def wZ (o : SOut) (P : Post) : Prop := wS o P
theorem wz_of {o : SOut} {P : Post} (h : wS o P) : wZ o P := by
  unfold wZ
  exact h
theorem of_wz {o : SOut} {P : Post} (h : wZ o P) : wS o P := by
  unfold wZ at h
  exact h
theorem wz_cut {f g : SDen} {ρ : DEnv} {P : Post} (N : DEnv → Prop) (h1 : wS (f ρ) ⟨N, P.R, P.B, P.C, P.E⟩) (h2 : ∀ ρ1, N ρ1 → wZ (g ρ1) P) : wZ (sSeq f g ρ) P :=
  wz_of (ws_cut N h1 fun ρ1 h => of_wz (h2 ρ1 h))
end DL
set_option maxHeartbeats 0
namespace K08
open PySem PySem.Spec PyProof.Rows L2 DL
abbrev prog : PySem.Program := PySem.Challenge.pw_ladder_k08_rungs_and_depths
def top (i : Nat) : Stmt := PySem.Challenge.pw_ladder_k08_rungs_and_depths.main.body.getD i (.Pass ⟨0, 0, 0, 0⟩)
def f0 : FnDat := ⟨⟨("is_whole", none), "is_whole", "is_whole", defArgs (top 1), defBody (top 1), defScope (top 1), [], []⟩, ["thing"], ["thing"], false⟩
def f1 : FnDat := ⟨⟨("common_of", none), "common_of", "common_of", defArgs (top 2), defBody (top 2), defScope (top 2), [], []⟩, ["one", "other"], ["one", "other"], false⟩
def f2 : FnDat := ⟨⟨("is_fraction", none), "is_fraction", "is_fraction", defArgs (top 3), defBody (top 3), defScope (top 3), [], []⟩, ["thing"], ["thing"], false⟩
def f3 : FnDat := ⟨⟨("is_barred", none), "is_barred", "is_barred", defArgs (top 8), defBody (top 8), defScope (top 8), [], []⟩, ["height"], ["height"], false⟩
def f4 : FnDat := ⟨⟨("is_height_so_deep", none), "is_height_so_deep", "is_height_so_deep", defArgs (top 9), defBody (top 9), defScope (top 9), [], []⟩, ["thing", "depth", "over", "ups", "part", "one"], ["thing", "depth"], false⟩
def f5 : FnDat := ⟨⟨("is_part_so_deep", none), "is_part_so_deep", "is_part_so_deep", defArgs (top 10), defBody (top 10), defScope (top 10), [], []⟩, ["thing", "depth"], ["thing", "depth"], false⟩
def f6 : FnDat := ⟨⟨("is_growth_so_deep", none), "is_growth_so_deep", "is_growth_so_deep", defArgs (top 11), defBody (top 11), defScope (top 11), [], []⟩, ["thing", "depth", "one", "other", "part"], ["thing", "depth"], false⟩
def f7 : FnDat := ⟨⟨("is_height", none), "is_height", "is_height", defArgs (top 12), defBody (top 12), defScope (top 12), [], []⟩, ["thing"], ["thing"], false⟩
def f8 : FnDat := ⟨⟨("depth_of", none), "depth_of", "depth_of", defArgs (top 13), defBody (top 13), defScope (top 13), [], []⟩, ["growth", "depth", "height", "share"], ["growth"], false⟩
def f9 : FnDat := ⟨⟨("_law_feed", none), "_law_feed", "_law_feed", defArgs (top 15), defBody (top 15), defScope (top 15), [], []⟩, ["_law_script"], ["_law_script"], false⟩
def f10 : FnDat := ⟨⟨("_law_next", none), "_law_next", "_law_next", defArgs (top 16), defBody (top 16), defScope (top 16), [], []⟩, ["_law_feed_here", "_law_many", "_law_found", "_law_at", "_law_cell", "_law_first"], ["_law_feed_here", "_law_many"], true⟩
def f11 : FnDat := ⟨⟨("_law_ratio", none), "_law_ratio", "_law_ratio", defArgs (top 17), defBody (top 17), defScope (top 17), [], []⟩, ["_law_top", "_law_bottom", "_law_one", "_law_other"], ["_law_top", "_law_bottom"], false⟩
def f12 : FnDat := ⟨⟨("_law_number", none), "_law_number", "_law_number", defArgs (top 18), defBody (top 18), defScope (top 18), [], []⟩, ["_law_feed_here", "_law_way"], ["_law_feed_here"], true⟩
def f13 : FnDat := ⟨⟨("_law_drawn", none), "_law_drawn", "_law_drawn", defArgs (top 19), defBody (top 19), defScope (top 19), [], []⟩, ["_law_feed_here"], ["_law_feed_here"], true⟩
def f14 : FnDat := ⟨⟨("_law_up", none), "_law_up", "_law_up", defArgs (top 20), defBody (top 20), defScope (top 20), [], []⟩, ["_law_feed_here", "_law_some"], ["_law_feed_here"], true⟩
def f15 : FnDat := ⟨⟨("_law_ups", none), "_law_ups", "_law_ups", defArgs (top 21), defBody (top 21), defScope (top 21), [], []⟩, ["_law_feed_here", "_law_k"], ["_law_feed_here"], true⟩
def f16 : FnDat := ⟨⟨("_law_share", none), "_law_share", "_law_share", defArgs (top 22), defBody (top 22), defScope (top 22), [], []⟩, ["_law_feed_here", "_law_one"], ["_law_feed_here"], true⟩
def f17 : FnDat := ⟨⟨("_law_is_barred", none), "_law_is_barred", "_law_is_barred", defArgs (top 23), defBody (top 23), defScope (top 23), [], []⟩, ["_law_height_here", "_law_left", "_law_up_here"], ["_law_height_here"], false⟩
def f18 : FnDat := ⟨⟨("_law_height", none), "_law_height", "_law_height", defArgs (top 24), defBody (top 24), defScope (top 24), [], []⟩, ["_law_feed_here", "_law_deep_here", "_law_over", "_law_part"], ["_law_feed_here", "_law_deep_here"], true⟩
def f19 : FnDat := ⟨⟨("_law_growth", none), "_law_growth", "_law_growth", defArgs (top 25), defBody (top 25), defScope (top 25), [], []⟩, ["_law_feed_here", "_law_most", "_law_deep_here", "_law_found", "_law_k", "_law_height_here", "_law_part"], ["_law_feed_here", "_law_most", "_law_deep_here"], true⟩
def f20 : FnDat := ⟨⟨("_law_deep", none), "_law_deep", "_law_deep", defArgs (top 26), defBody (top 26), defScope (top 26), [], []⟩, ["_law_feed_here", "_law_depth_here", "_law_height_here", "_law_k"], ["_law_feed_here", "_law_depth_here"], true⟩
def f21 : FnDat := ⟨⟨("_law_depth", none), "_law_depth", "_law_depth", defArgs (top 27), defBody (top 27), defScope (top 27), [], []⟩, ["_law_growth_here", "_law_depth_here", "_law_layer", "_law_inner", "_law_height_here", "_law_share_here", "_law_part"], ["_law_growth_here"], false⟩
def f22 : FnDat := ⟨⟨("law", none), "law", "law", defArgs (top 28), defBody (top 28), defScope (top 28), [], []⟩, ["_law_script", "_law_feed_here", "_law_nought", "_law_due", "_law_k", "_law_some", "_law_height_here", "_law_growth_here", "_law_kept", "_law_part"], ["_law_script"], false⟩
def T : List FnDat := [f0, f1, f2, f3, f4, f5, f6, f7, f8, f9, f10, f11, f12, f13, f14, f15, f16, f17, f18, f19, f20, f21, f22]
def kMOSTPARTS : D := .int 60
def kMOSTDEPTH : D := .int 4
def kRUNGS : D := .tup [.tup [.tup [], .tup [.tup [.int 0, .int 1], .tup [.int 0, .int 1], .tup [.int 0, .int 1], .tup [.int 0, .int 1]]], .tup [.tup [], .tup [.tup [.int 1, .int 1], .tup [.int 0, .int 1], .tup [.int 0, .int 1], .tup [.int 0, .int 1]]], .tup [.tup [], .tup [.tup [.int 0, .int 1], .tup [.int 1, .int 1], .tup [.int 0, .int 1], .tup [.int 0, .int 1]]], .tup [.tup [], .tup [.tup [.int 0, .int 1], .tup [.int 0, .int 1], .tup [.int 1, .int 1], .tup [.int 0, .int 1]]], .tup [.tup [], .tup [.tup [.int 0, .int 1], .tup [.int 0, .int 1], .tup [.int 0, .int 1], .tup [.int 1, .int 1]]]]
def ks : List (Str × D) := [("MOST_PARTS", kMOSTPARTS), ("MOST_DEPTH", kMOSTDEPTH), ("RUNGS", kRUNGS)]
theorem okT : T.all FnDat.plain = true := by kernel_rfl
theorem bndT : ∀ t ∈ T, BindOk t := by
  intro t ht kV doc pm an cdv ct us hl
  simp only [T, List.mem_cons, List.not_mem_nil, or_false] at ht
  rcases ht with rfl | rfl | rfl | rfl | rfl | rfl | rfl | rfl | rfl | rfl | rfl | rfl | rfl | rfl | rfl | rfl | rfl | rfl | rfl | rfl | rfl | rfl | rfl
  · match us, hl with
    | [_], _ => rfl
  · match us, hl with
    | [_, _], _ => rfl
  · match us, hl with
    | [_], _ => rfl
  · match us, hl with
    | [_], _ => rfl
  · match us, hl with
    | [_, _], _ => rfl
  · match us, hl with
    | [_, _], _ => rfl
  · match us, hl with
    | [_, _], _ => rfl
  · match us, hl with
    | [_], _ => rfl
  · match us, hl with
    | [_], _ => rfl
  · match us, hl with
    | [_], _ => rfl
  · match us, hl with
    | [_, _], _ => rfl
  · match us, hl with
    | [_, _], _ => rfl
  · match us, hl with
    | [_], _ => rfl
  · match us, hl with
    | [_], _ => rfl
  · match us, hl with
    | [_], _ => rfl
  · match us, hl with
    | [_], _ => rfl
  · match us, hl with
    | [_], _ => rfl
  · match us, hl with
    | [_], _ => rfl
  · match us, hl with
    | [_, _], _ => rfl
  · match us, hl with
    | [_, _, _], _ => rfl
  · match us, hl with
    | [_, _], _ => rfl
  · match us, hl with
    | [_], _ => rfl
  · match us, hl with
    | [_], _ => rfl
@[irreducible] noncomputable def cc (n : Nat) : Nat → List D → FRes := callN 60 T ks n
/-- is_whole -/
noncomputable def b0 (c : Nat → List D → FRes) : SDen :=
 wholeB
theorem e0 (c : Nat → List D → FRes) : bodyD 60 T ks c f0 = b0 c := by kernel_rfl
theorem call0 (n : Nat) (ds : List D) : cc (n + 1) 0 ds = runFn 1 1 false (b0 (cc n)) ds := by
  unfold cc
  exact congrArg (fun b => runFn 1 1 false b ds) (e0 _)
/-- common_of -/
noncomputable def b1 (c : Nat → List D → FRes) : SDen :=
 commonB
theorem e1 (c : Nat → List D → FRes) : bodyD 60 T ks c f1 = b1 c := by kernel_rfl
theorem call1 (n : Nat) (ds : List D) : cc (n + 1) 1 ds = runFn 2 2 false (b1 (cc n)) ds := by
  unfold cc
  exact congrArg (fun b => runFn 2 2 false b ds) (e1 _)
/-- is_fraction -/
noncomputable def b2 (c : Nat → List D → FRes) : SDen :=
 fracB (c 0) (c 1)
theorem e2 (c : Nat → List D → FRes) : bodyD 60 T ks c f2 = b2 c := by kernel_rfl
theorem call2 (n : Nat) (ds : List D) : cc (n + 1) 2 ds = runFn 1 1 false (b2 (cc n)) ds := by
  unfold cc
  exact congrArg (fun b => runFn 1 1 false b ds) (e2 _)
/-- is_barred -/
noncomputable def b3 (c : Nat → List D → FRes) : SDen :=
 sRet (dAnd (dApp oIn [dVar 0, dC kRUNGS]) (dApp oNe [dVar 0, dApp oIx [dC kRUNGS, dC (.int 1)]]))
theorem e3 (c : Nat → List D → FRes) : bodyD 60 T ks c f3 = b3 c := by kernel_rfl
theorem call3 (n : Nat) (ds : List D) : cc (n + 1) 3 ds = runFn 1 1 false (b3 (cc n)) ds := by
  unfold cc
  exact congrArg (fun b => runFn 1 1 false b ds) (e3 _)
/-- is_height_so_deep -/
noncomputable def b4 (c : Nat → List D → FRes) : SDen :=
 sSeq (sIf (dOrT (dNotT (dTru (dApp (oIsi .tuple) [dVar 0]))) (dBool (dApp oNe [dApp oLen [dVar 0], dC (.int 2)])))
 (sRet (dC (.bl false)))
 (sNext))
 (sSeq (sAsg (dVar 0) (tTupT 2 (tCons' (tName 2) (tCons' (tName 3) (tNil')))))
 (sSeq (sIf (dOrT (dNotT (dTru (dApp (oIsi .tuple) [dVar 3]))) (dOrT (dBool (dApp oNe [dApp oLen [dVar 3], dC (.int 4)])) (dNotT (dTru (dApp oAll [dComp [5] (dIter (dVar 3)) (tName 5) (dYes) (dCall (c 2) [dVar 5])])))))
 (sRet (dC (.bl false)))
 (sNext))
 (sSeq (sIf (dBool (dApp oEq [dVar 2, dTup []]))
 (sRet (dC (.bl true)))
 (sNext))
 (sSeq (sIf (dOrT (dBool (dApp oEq [dVar 1, dC (.int 0)])) (dNotT (dTru (dCall (c 6) [dVar 2, dApp oSub [dVar 1, dC (.int 1)]]))))
 (sRet (dC (.bl false)))
 (sNext))
 (sRet (dNot (dApp oAny [dComp [4] (dIter (dVar 2)) (tName 4) (dYes) (dCall (c 3) [dApp oIx [dVar 4, dC (.int 0)]])])))))))
theorem e4 (c : Nat → List D → FRes) : bodyD 60 T ks c f4 = b4 c := by kernel_rfl
theorem call4 (n : Nat) (ds : List D) : cc (n + 1) 4 ds = runFn 6 2 false (b4 (cc n)) ds := by
  unfold cc
  exact congrArg (fun b => runFn 6 2 false b ds) (e4 _)
/-- is_part_so_deep -/
noncomputable def b5 (c : Nat → List D → FRes) : SDen :=
 sSeq (sIf (dOrT (dNotT (dTru (dApp (oIsi .tuple) [dVar 0]))) (dOrT (dBool (dApp oNe [dApp oLen [dVar 0], dC (.int 2)])) (dNotT (dTru (dCall (c 4) [dApp oIx [dVar 0, dC (.int 0)], dVar 1])))))
 (sRet (dC (.bl false)))
 (sNext))
 (sRet (dAnd (dCall (c 2) [dApp oIx [dVar 0, dC (.int 1)]]) (dApp oNe [dApp oIx [dApp oIx [dVar 0, dC (.int 1)], dC (.int 0)], dC (.int 0)])))
theorem e5 (c : Nat → List D → FRes) : bodyD 60 T ks c f5 = b5 c := by kernel_rfl
theorem call5 (n : Nat) (ds : List D) : cc (n + 1) 5 ds = runFn 2 2 false (b5 (cc n)) ds := by
  unfold cc
  exact congrArg (fun b => runFn 2 2 false b ds) (e5 _)
/-- is_growth_so_deep -/
noncomputable def b6 (c : Nat → List D → FRes) : SDen :=
 sSeq (sIf (dOrT (dNotT (dTru (dApp (oIsi .tuple) [dVar 0]))) (dBool (dApp oGt [dApp oLen [dVar 0], dC kMOSTPARTS])))
 (sRet (dC (.bl false)))
 (sNext))
 (sSeq (sIf (dNotT (dTru (dApp oAll [dComp [4] (dIter (dVar 0)) (tName 4) (dYes) (dCall (c 5) [dVar 4, dVar 1])])))
 (sRet (dC (.bl false)))
 (sNext))
 (sRet (dApp oAll [dComp [2, 3] (dZip [dVar 0, dSlice (dVar 0) (dPart (dC (.int 1))) (dNoPart)]) (tTupT 2 (tCons' (tName 2) (tCons' (tName 3) (tNil')))) (dYes) (dApp oLtI [dApp oIx [dVar 2, dC (.int 0)], dApp oIx [dVar 3, dC (.int 0)]])])))
theorem e6 (c : Nat → List D → FRes) : bodyD 60 T ks c f6 = b6 c := by kernel_rfl
theorem call6 (n : Nat) (ds : List D) : cc (n + 1) 6 ds = runFn 5 2 false (b6 (cc n)) ds := by
  unfold cc
  exact congrArg (fun b => runFn 5 2 false b ds) (e6 _)
/-- is_height -/
noncomputable def b7 (c : Nat → List D → FRes) : SDen :=
 sRet (dCall (c 4) [dVar 0, dC kMOSTDEPTH])
theorem e7 (c : Nat → List D → FRes) : bodyD 60 T ks c f7 = b7 c := by kernel_rfl
theorem call7 (n : Nat) (ds : List D) : cc (n + 1) 7 ds = runFn 1 1 false (b7 (cc n)) ds := by
  unfold cc
  exact congrArg (fun b => runFn 1 1 false b ds) (e7 _)
/-- depth_of -/
noncomputable def b8 (c : Nat → List D → FRes) : SDen :=
 sSeq (sSet 1 (dC (.int 0)))
 (sSeq (sFor (dIter (dVar 0)) (tTupT 2 (tCons' (tName 2) (tCons' (tName 3) (tNil'))))
 (sIf (dBool (dApp oNe [dApp oIx [dVar 2, dC (.int 0)], dTup []]))
 (sSet 1 (dApp oMax [dVar 1, dApp oAdd [dC (.int 1), dCall (c 8) [dApp oIx [dVar 2, dC (.int 0)]]]]))
 (sNext)))
 (sRet (dVar 1)))
theorem e8 (c : Nat → List D → FRes) : bodyD 60 T ks c f8 = b8 c := by kernel_rfl
theorem call8 (n : Nat) (ds : List D) : cc (n + 1) 8 ds = runFn 4 1 false (b8 (cc n)) ds := by
  unfold cc
  exact congrArg (fun b => runFn 4 1 false b ds) (e8 _)
/-- _law_feed -/
noncomputable def b9 (c : Nat → List D → FRes) : SDen :=
 feedB
theorem e9 (c : Nat → List D → FRes) : bodyD 60 T ks c f9 = b9 c := by kernel_rfl
theorem call9 (n : Nat) (ds : List D) : cc (n + 1) 9 ds = runFn 1 1 false (b9 (cc n)) ds := by
  unfold cc
  exact congrArg (fun b => runFn 1 1 false b ds) (e9 _)
/-- _law_next -/
noncomputable def b10 (c : Nat → List D → FRes) : SDen :=
 nextB
theorem e10 (c : Nat → List D → FRes) : bodyD 60 T ks c f10 = b10 c := by kernel_rfl
theorem call10 (n : Nat) (ds : List D) : cc (n + 1) 10 ds = runFn 6 2 true (b10 (cc n)) ds := by
  unfold cc
  exact congrArg (fun b => runFn 6 2 true b ds) (e10 _)
/-- _law_ratio -/
noncomputable def b11 (c : Nat → List D → FRes) : SDen :=
 ratioB
theorem e11 (c : Nat → List D → FRes) : bodyD 60 T ks c f11 = b11 c := by kernel_rfl
theorem call11 (n : Nat) (ds : List D) : cc (n + 1) 11 ds = runFn 4 2 false (b11 (cc n)) ds := by
  unfold cc
  exact congrArg (fun b => runFn 4 2 false b ds) (e11 _)
/-- _law_number -/
noncomputable def b12 (c : Nat → List D → FRes) : SDen :=
 numberB (c 10)
theorem e12 (c : Nat → List D → FRes) : bodyD 60 T ks c f12 = b12 c := by kernel_rfl
theorem call12 (n : Nat) (ds : List D) : cc (n + 1) 12 ds = runFn 2 1 true (b12 (cc n)) ds := by
  unfold cc
  exact congrArg (fun b => runFn 2 1 true b ds) (e12 _)
/-- _law_drawn -/
noncomputable def b13 (c : Nat → List D → FRes) : SDen :=
 drawnB (c 11) (c 12) (c 10)
theorem e13 (c : Nat → List D → FRes) : bodyD 60 T ks c f13 = b13 c := by kernel_rfl
theorem call13 (n : Nat) (ds : List D) : cc (n + 1) 13 ds = runFn 1 1 true (b13 (cc n)) ds := by
  unfold cc
  exact congrArg (fun b => runFn 1 1 true b ds) (e13 _)
/-- _law_up -/
noncomputable def b14 (c : Nat → List D → FRes) : SDen :=
 up2B (c 10)
theorem e14 (c : Nat → List D → FRes) : bodyD 60 T ks c f14 = b14 c := by kernel_rfl
theorem call14 (n : Nat) (ds : List D) : cc (n + 1) 14 ds = runFn 2 1 true (b14 (cc n)) ds := by
  unfold cc
  exact congrArg (fun b => runFn 2 1 true b ds) (e14 _)
/-- _law_ups -/
noncomputable def b15 (c : Nat → List D → FRes) : SDen :=
 upsB (c 10) (c 14)
theorem e15 (c : Nat → List D → FRes) : bodyD 60 T ks c f15 = b15 c := by kernel_rfl
theorem call15 (n : Nat) (ds : List D) : cc (n + 1) 15 ds = runFn 2 1 true (b15 (cc n)) ds := by
  unfold cc
  exact congrArg (fun b => runFn 2 1 true b ds) (e15 _)
/-- _law_share -/
noncomputable def b16 (c : Nat → List D → FRes) : SDen :=
 shareB (c 13)
theorem e16 (c : Nat → List D → FRes) : bodyD 60 T ks c f16 = b16 c := by kernel_rfl
theorem call16 (n : Nat) (ds : List D) : cc (n + 1) 16 ds = runFn 2 1 true (b16 (cc n)) ds := by
  unfold cc
  exact congrArg (fun b => runFn 2 1 true b ds) (e16 _)
/-- _law_is_barred -/
noncomputable def b17 (c : Nat → List D → FRes) : SDen :=
 barredB
theorem e17 (c : Nat → List D → FRes) : bodyD 60 T ks c f17 = b17 c := by kernel_rfl
theorem call17 (n : Nat) (ds : List D) : cc (n + 1) 17 ds = runFn 3 1 false (b17 (cc n)) ds := by
  unfold cc
  exact congrArg (fun b => runFn 3 1 false b ds) (e17 _)
/-- _law_height -/
noncomputable def b18 (c : Nat → List D → FRes) : SDen :=
 sSeq (sSet 2 (dTup []))
 (sSeq (sIf (dAndT (dBool (dApp oGt [dVar 1, dC (.int 0)])) (dBool (dApp oEq [dCallIo (c 10) [dVar 0, dC (.int 3)], dC (.int 0)])))
 (sSet 2 (dApp oTuple [dComp [3] (dIter (dCallIo (c 19) [dVar 0, dC (.int 2), dApp oSub [dVar 1, dC (.int 1)]])) (tName 3) (dNotT (dTru (dCall (c 17) [dApp oIx [dVar 3, dC (.int 0)]]))) (dVar 3)]))
 (sNext))
 (sRet (dTup [dVar 2, dCallIo (c 15) [dVar 0]])))
theorem e18 (c : Nat → List D → FRes) : bodyD 60 T ks c f18 = b18 c := by kernel_rfl
theorem call18 (n : Nat) (ds : List D) : cc (n + 1) 18 ds = runFn 4 2 true (b18 (cc n)) ds := by
  unfold cc
  exact congrArg (fun b => runFn 4 2 true b ds) (e18 _)
/-- _law_growth -/
noncomputable def b19 (c : Nat → List D → FRes) : SDen :=
 sSeq (sSet 3 (dLst []))
 (sSeq (sFor (dRng [dCallIo (c 10) [dVar 0, dApp oAdd [dVar 1, dC (.int 1)]]]) (tName 4)
 (sSeq (sSet 5 (dCallIo (c 18) [dVar 0, dVar 2]))
 (sSet 3 (dApp oAdd [dComp [6] (dIter (dVar 3)) (tName 6) (dBool (dApp oNe [dApp oIx [dVar 6, dC (.int 0)], dVar 5])) (dVar 6), dLst [dTup [dVar 5, dCallIo (c 16) [dVar 0]]]]))))
 (sRet (dApp oTuple [dApp oSorted [dVar 3]])))
theorem e19 (c : Nat → List D → FRes) : bodyD 60 T ks c f19 = b19 c := by kernel_rfl
theorem call19 (n : Nat) (ds : List D) : cc (n + 1) 19 ds = runFn 7 3 true (b19 (cc n)) ds := by
  unfold cc
  exact congrArg (fun b => runFn 7 3 true b ds) (e19 _)
/-- _law_deep -/
noncomputable def b20 (c : Nat → List D → FRes) : SDen :=
 sSeq (sSet 2 (dTup [dTup [], dApp oIx [dLst [dTup [dTup [dC (.int 1), dC (.int 1)], dTup [dC (.int 0), dC (.int 1)], dTup [dC (.int 0), dC (.int 1)], dTup [dC (.int 0), dC (.int 1)]], dTup [dTup [dC (.int 0), dC (.int 1)], dTup [dC (.int 2), dC (.int 1)], dTup [dC (.int 0), dC (.int 1)], dTup [dC (.int 0), dC (.int 1)]]], dCallIo (c 10) [dVar 0, dC (.int 2)]]]))
 (sSeq (sFor (dRng [dVar 1]) (tName 3)
 (sSet 2 (dTup [dTup [dTup [dVar 2, dCallIo (c 16) [dVar 0]]], dCallIo (c 15) [dVar 0]])))
 (sRet (dVar 2)))
theorem e20 (c : Nat → List D → FRes) : bodyD 60 T ks c f20 = b20 c := by kernel_rfl
theorem call20 (n : Nat) (ds : List D) : cc (n + 1) 20 ds = runFn 4 2 true (b20 (cc n)) ds := by
  unfold cc
  exact congrArg (fun b => runFn 4 2 true b ds) (e20 _)
/-- _law_depth -/
noncomputable def b21 (c : Nat → List D → FRes) : SDen :=
 layersB
theorem e21 (c : Nat → List D → FRes) : bodyD 60 T ks c f21 = b21 c := by kernel_rfl
theorem call21 (n : Nat) (ds : List D) : cc (n + 1) 21 ds = runFn 7 1 false (b21 (cc n)) ds := by
  unfold cc
  exact congrArg (fun b => runFn 7 1 false b ds) (e21 _)
/-- law -/
noncomputable def b22 (c : Nat → List D → FRes) : SDen :=
 sSeq (sSet 1 (dCall (c 9) [dVar 0]))
 (sSeq (sSet 2 (dTup [dC (.int 0), dC (.int 1)]))
 (sSeq (sSet 3 (dLst [dTup [dTup [], dTup [dVar 2, dVar 2, dVar 2, dVar 2]]]))
 (sSeq (sFor (dRng [dC (.int 4)]) (tName 4)
 (sDrop (dMeth 3 mAppend [dTup [dTup [], dApp oAdd [dApp oAdd [dApp oMul [dTup [dVar 2], dVar 4], dTup [dTup [dC (.int 1), dC (.int 1)]]], dApp oMul [dTup [dVar 2], dApp oSub [dC (.int 3), dVar 4]]]]])))
 (sSeq (sIf (dOrT (dBool (dApp oNe [dApp oRepr [dC kRUNGS], dApp oRepr [dApp oTuple [dVar 3]]])) (dBool (dApp oIn [dC (.bl false), dComp [6] (dIter (dC kRUNGS)) (tName 6) (dYes) (dCall (c 7) [dVar 6])])))
 (sRet (dC (.bl false)))
 (sNext))
 (sSeq (sFor (dRng [dC (.int 8)]) (tName 4)
 (sSeq (sSet 5 (dApp oList [dCallIo (c 19) [dVar 1, dC (.int 5), dC (.int 3)]]))
 (sSeq (sIf (dBool (dApp oEq [dCallIo (c 10) [dVar 1, dC (.int 2)], dC (.int 0)]))
 (sSeq (sSet 6 (dCallIo (c 20) [dVar 1, dCallIo (c 10) [dVar 1, dC (.int 5)]]))
 (sSet 5 (dApp oAdd [dComp [9] (dIter (dVar 5)) (tName 9) (dBool (dApp oNe [dApp oIx [dVar 9, dC (.int 0)], dVar 6])) (dVar 9), dLst [dTup [dVar 6, dTup [dC (.int 1), dC (.int 1)]]]])))
 (sNext))
 (sSeq (sSet 7 (dApp oTuple [dApp oSorted [dVar 5]]))
 (sSeq (sSet 8 (dApp oRepr [dVar 7]))
 (sIf (dOrT (dBool (dApp oNe [dApp oRepr [dCall (c 8) [dVar 7]], dApp oRepr [dCall (c 21) [dVar 7]]])) (dBool (dApp oNe [dApp oRepr [dVar 7], dVar 8])))
 (sRet (dC (.bl false)))
 (sNext)))))))
 (sRet (dApp oEq [dApp oRepr [dCall (c 8) [dTup []]], dC (.str "0")])))))))
theorem e22 (c : Nat → List D → FRes) : bodyD 60 T ks c f22 = b22 c := by kernel_rfl
theorem call22 (n : Nat) (ds : List D) : cc (n + 1) 22 ds = runFn 10 1 false (b22 (cc n)) ds := by
  unfold cc
  exact congrArg (fun b => runFn 10 1 false b ds) (e22 _)
theorem is_whole_i (n : Nat) : WholeE (cc (n + 1) 0) := inst (S := WholeE) (call0 (n + 0)) (whole_e)
theorem common_of_i (n : Nat) : CommonE (cc (n + 1) 1) := inst (S := CommonE) (call1 (n + 0)) (common_e)
theorem _law_feed_i (n : Nat) : FeedS (cc (n + 1) 9) := inst (S := FeedS) (call9 (n + 0)) (feed_s)
theorem _law_next_i (n : Nat) : NextS (cc (n + 1) 10) := inst (S := NextS) (call10 (n + 0)) (next_s)
theorem _law_ratio_i (n : Nat) : RatioE (cc (n + 1) 11) := inst (S := RatioE) (call11 (n + 0)) (ratio_e)
theorem _law_is_barred_i (n : Nat) : BarredS (cc (n + 1) 17) := inst (S := BarredS) (call17 (n + 0)) (barred_s)
theorem _law_depth_i (n : Nat) : LayersE (cc (n + 1) 21) := inst (S := LayersE) (call21 (n + 0)) (layers_e)
theorem is_fraction_i (n : Nat) : FracE (cc (n + 2) 2) := inst (S := FracE) (call2 (n + 1)) (frac_e (is_whole_i (n + 0)) (common_of_i (n + 0)))
theorem _law_number_i (n : Nat) : NumberS (cc (n + 2) 12) := inst (S := NumberS) (call12 (n + 1)) (number_s (_law_next_i (n + 0)))
theorem _law_up_i (n : Nat) : UpS (cc (n + 2) 14) := inst (S := UpS) (call14 (n + 1)) (up2_s (_law_next_i (n + 0)))
theorem _law_drawn_i (n : Nat) : DrawnS (cc (n + 3) 13) := inst (S := DrawnS) (call13 (n + 2)) (drawn_s (_law_ratio_i (n + 1)) (_law_number_i (n + 0)) (_law_next_i (n + 1)))
theorem _law_ups_i (n : Nat) : UpsS (cc (n + 3) 15) := inst (S := UpsS) (call15 (n + 2)) (ups_s (_law_next_i (n + 1)) (_law_up_i (n + 0)))
theorem _law_share_i (n : Nat) : ShareS (cc (n + 4) 16) := inst (S := ShareS) (call16 (n + 3)) (share_s (_law_drawn_i (n + 0)))
end K08
set_option maxHeartbeats 4000000
namespace K08
open PySem PySem.Spec PyProof.Rows L2 DL
theorem draws (n : Nat) : ∀ k, k ≤ 5 → HeightS k (cc (n + 2 * k + 5) 18) ∧ GrowthS k (cc (n + 2 * k + 6) 19)
  | 0, _ => by
    have hH : HeightS 0 (cc (n + 2 * 0 + 5) 18) := inst (S := HeightS 0) (call18 (n + 4)) (height0_s (_law_ups_i (n + 1)))
    exact ⟨hH, inst (S := GrowthS 0) (call19 (n + 5)) (growth_s (by omega) (_law_next_i (n + 4)) hH (_law_share_i (n + 1)))⟩
  | k + 1, hk => by
    have ih := draws n k (by omega)
    have e1 : n + 2 * (k + 1) + 5 = n + 2 * k + 6 + 1 := by omega
    have e2 : n + 2 * (k + 1) + 6 = n + 2 * k + 7 + 1 := by omega
    have hH : HeightS (k + 1) (cc (n + 2 * k + 6 + 1) 18) := inst (S := HeightS (k + 1)) (call18 (n + 2 * k + 6)) (height_s (by omega) (_law_next_i (n + 2 * k + 5)) ih.2 (_law_is_barred_i (n + 2 * k + 5)) (_law_ups_i (n + 2 * k + 3)))
    rw [e1, e2]
    exact ⟨hH, inst (S := GrowthS (k + 1)) (call19 (n + 2 * k + 7)) (growth_s (by omega) (_law_next_i (n + 2 * k + 6)) hH (_law_share_i (n + 2 * k + 3)))⟩
theorem depthE (n : Nat) : ∀ k, k ≤ 10 → DepthE k (cc (n + k + 1) 8)
  | 0, _ => inst (S := DepthE 0) (call8 (n + 0)) (depth_e (by omega) (.inl rfl))
  | k + 1, hk => inst (S := DepthE (k + 1)) (call8 (n + (k + 1))) (depth_e (by omega) (.inr (depthE n k (by omega))))
theorem bar_ix {l : List D} {r : Int} {Q : RV → Prop} (h0 : 0 ≤ r) (h : r < l.length) : wI (oIx [.lst l, .int r]) Q = ∀ d, l[r.toNat]? = some d → Q (.d d) := o_ixL h0 h
theorem deep1 (n : Nat) {b j : Nat} {f : D} {Q : RV → D → Prop} {E : Exn → D → Prop} (hf : Fd b f) (hb : b ≤ 1000000000) (hj : j ≤ 4) (h : ∀ d f', Fd (b + 100) f' → IsH 4 d → Q (.d d) f') : wF1 (cc (n + 6) 20 [f, .int (j : Nat)]) Q E := by
  have hN : NextS (cc (n + 5) 10) := _law_next_i (n + 4)
  have hU : UpsS (cc (n + 5) 15) := _law_ups_i (n + 2)
  have hW : ShareS (cc (n + 5) 16) := _law_share_i (n + 1)
  rw [call20]
  refine w_run1 rfl ?_
  show wS (b20 _ [Sl.own f, .val (.int (j : Nat)), .no, .no]) _
  unfold b20
  refine ws_cut (fun ρ => ∃ d f, IsH 0 d ∧ Fd (b + 1) f ∧ ρ = [Sl.own f, .val (.int (j : Nat)), .val d, .no]) ?_ ?_
  · simp only [↓w_var, ↓wVar_val, ↓wVar_own, ↓w_c, ↓w_nil, ↓w_cons, ↓w_app, ↓wViews_nil, ↓wViews_cons, ↓wView_d, ↓wView_fresh, ↓wView_plc, ↓wSlot_val, ↓wSlot_own, ↓wEsc_d, ↓wEsc_fresh, ↓wEsc_plc, ↓wEscS_val, ↓wEscS_own, ↓wEscs_nil, ↓wEscs_cons, ↓w_frz, ↓w_tup, ↓w_lst, ↓w_bool, ↓w_tru, ↓w_notT, ↓w_andT, ↓w_orT, ↓w_if, ↓w_and, ↓w_or, ↓w_not, ↓w_chain, ↓wB_bl, ↓w_noPart, ↓w_part, ↓w_slice, ↓w_call, ↓wPlc_cons, ↓wOwn_own, ↓w_callIo, ↓isLst_lst, ↓w_meth, ↓w_ext, ↓wExt_ok, ↓ws_next, ↓ws_bk, ↓ws_ct, ↓ws_rt, ↓ws_nx, ↓ws_seq, ↓ws_drop, ↓ws_ret, ↓ws_if, ↓ws_set, ↓wSet_d, ↓wSet_fresh, ↓wSet_plc, ↓ws_asg, ↓wt_name, ↓wt_nil, ↓wt_cons, ↓wt_tup, ↓wt_lst, ↓wPar_two, ↓ws_par, ↓wLstS_own, ↓wInt_int, ↓ws_item, ↓ws_for, ↓w_zip, ↓w_iter, ↓wItems_lst, ↓wItems_tup, ↓w_rng, ↓wRet_d, ↓wRet_fresh, ↓wRet_plc, ↓wRetS_val, ↓wRetS_own, ↓wRetS_ownS, ↓wI_some, ↓wI_none, ↓wI_ite, List.getElem?_cons_zero, List.getElem?_cons_succ, List.set_cons_zero, List.set_cons_succ]
    refine hN _ _ _ _ _ hf (by omega) (by omega) (by omega) fun r f1 hf1 r0 r1 => ?_
    simp (disch := first | assumption | (simp <;> omega) | omega) only [↓w_var, ↓wVar_val, ↓wVar_own, ↓w_c, ↓w_nil, ↓w_cons, ↓w_app, ↓wViews_nil, ↓wViews_cons, ↓wView_d, ↓wView_fresh, ↓wView_plc, ↓wSlot_val, ↓wSlot_own, ↓wEsc_d, ↓wEsc_fresh, ↓wEsc_plc, ↓wEscS_val, ↓wEscS_own, ↓wEscs_nil, ↓wEscs_cons, ↓w_frz, ↓w_tup, ↓w_lst, ↓w_bool, ↓w_tru, ↓w_notT, ↓w_andT, ↓w_orT, ↓w_if, ↓w_and, ↓w_or, ↓w_not, ↓w_chain, ↓wB_bl, ↓w_noPart, ↓w_part, ↓w_slice, ↓w_call, ↓wPlc_cons, ↓wOwn_own, ↓w_callIo, ↓isLst_lst, ↓w_meth, ↓w_ext, ↓wExt_ok, ↓ws_next, ↓ws_bk, ↓ws_ct, ↓ws_rt, ↓ws_nx, ↓ws_seq, ↓ws_drop, ↓ws_ret, ↓ws_if, ↓ws_set, ↓wSet_d, ↓wSet_fresh, ↓wSet_plc, ↓ws_asg, ↓wt_name, ↓wt_nil, ↓wt_cons, ↓wt_tup, ↓wt_lst, ↓wPar_two, ↓ws_par, ↓wLstS_own, ↓wInt_int, ↓ws_item, ↓ws_for, ↓w_zip, ↓w_iter, ↓wItems_lst, ↓wItems_tup, ↓w_rng, ↓wRet_d, ↓wRet_fresh, ↓wRet_plc, ↓wRetS_val, ↓wRetS_own, ↓wRetS_ownS, ↓wI_some, ↓wI_none, ↓wI_ite, List.getElem?_cons_zero, List.getElem?_cons_succ, List.set_cons_zero, List.set_cons_succ, o_ixL]
    intro x hx
    have := List.mem_of_getElem? hx
    simp only [List.mem_cons, List.not_mem_nil, or_false] at this
    try simp only [↓w_var, ↓wVar_val, ↓wVar_own, ↓w_c, ↓w_nil, ↓w_cons, ↓w_app, ↓wViews_nil, ↓wViews_cons, ↓wView_d, ↓wView_fresh, ↓wView_plc, ↓wSlot_val, ↓wSlot_own, ↓wEsc_d, ↓wEsc_fresh, ↓wEsc_plc, ↓wEscS_val, ↓wEscS_own, ↓wEscs_nil, ↓wEscs_cons, ↓w_frz, ↓w_tup, ↓w_lst, ↓w_bool, ↓w_tru, ↓w_notT, ↓w_andT, ↓w_orT, ↓w_if, ↓w_and, ↓w_or, ↓w_not, ↓w_chain, ↓wB_bl, ↓w_noPart, ↓w_part, ↓w_slice, ↓w_call, ↓wPlc_cons, ↓wOwn_own, ↓w_callIo, ↓isLst_lst, ↓w_meth, ↓w_ext, ↓wExt_ok, ↓ws_next, ↓ws_bk, ↓ws_ct, ↓ws_rt, ↓ws_nx, ↓ws_seq, ↓ws_drop, ↓ws_ret, ↓ws_if, ↓ws_set, ↓wSet_d, ↓wSet_fresh, ↓wSet_plc, ↓ws_asg, ↓wt_name, ↓wt_nil, ↓wt_cons, ↓wt_tup, ↓wt_lst, ↓wPar_two, ↓ws_par, ↓wLstS_own, ↓wInt_int, ↓ws_item, ↓ws_for, ↓w_zip, ↓w_iter, ↓wItems_lst, ↓wItems_tup, ↓w_rng, ↓wRet_d, ↓wRet_fresh, ↓wRet_plc, ↓wRetS_val, ↓wRetS_own, ↓wRetS_ownS, ↓wI_some, ↓wI_none, ↓wI_ite, List.getElem?_cons_zero, List.getElem?_cons_succ, List.set_cons_zero, List.set_cons_succ]
    refine ⟨_, f1, ⟨x, rfl, ?_⟩, hf1, rfl⟩
    rcases this with rfl | rfl
    · refine ⟨fun j => if j = 0 then 1 else 0, rfl, fun j hj => ?_⟩
      match j, hj with
      | 0, _ => decide
      | 1, _ => decide
      | 2, _ => decide
      | 3, _ => decide
    · refine ⟨fun j => if j = 1 then 2 else 0, rfl, fun j hj => ?_⟩
      match j, hj with
      | 0, _ => decide
      | 1, _ => decide
      | 2, _ => decide
      | 3, _ => decide
  rintro _ ⟨d, f, hd, hf, rfl⟩
  simp (disch := omega) only [↓w_var, ↓wVar_val, ↓wVar_own, ↓w_c, ↓w_nil, ↓w_cons, ↓w_app, ↓wViews_nil, ↓wViews_cons, ↓wView_d, ↓wView_fresh, ↓wView_plc, ↓wSlot_val, ↓wSlot_own, ↓wEsc_d, ↓wEsc_fresh, ↓wEsc_plc, ↓wEscS_val, ↓wEscS_own, ↓wEscs_nil, ↓wEscs_cons, ↓w_frz, ↓w_tup, ↓w_lst, ↓w_bool, ↓w_tru, ↓w_notT, ↓w_andT, ↓w_orT, ↓w_if, ↓w_and, ↓w_or, ↓w_not, ↓w_chain, ↓wB_bl, ↓w_noPart, ↓w_part, ↓w_slice, ↓w_call, ↓wPlc_cons, ↓wOwn_own, ↓w_callIo, ↓isLst_lst, ↓w_meth, ↓w_ext, ↓wExt_ok, ↓ws_next, ↓ws_bk, ↓ws_ct, ↓ws_rt, ↓ws_nx, ↓ws_seq, ↓ws_drop, ↓ws_ret, ↓ws_if, ↓ws_set, ↓wSet_d, ↓wSet_fresh, ↓wSet_plc, ↓ws_asg, ↓wt_name, ↓wt_nil, ↓wt_cons, ↓wt_tup, ↓wt_lst, ↓wPar_two, ↓ws_par, ↓wLstS_own, ↓wInt_int, ↓ws_item, ↓ws_for, ↓w_zip, ↓w_iter, ↓wItems_lst, ↓wItems_tup, ↓w_rng, ↓wRet_d, ↓wRet_fresh, ↓wRet_plc, ↓wRetS_val, ↓wRetS_own, ↓wRetS_ownS, ↓wI_some, ↓wI_none, ↓wI_ite, List.getElem?_cons_zero, List.getElem?_cons_succ, List.set_cons_zero, List.set_cons_succ, intsR1, rngD1, Int.toNat_natCast]
  refine for_inv (fun ds ρ => ∃ (i : Nat) (d f : D) (z : Sl), i + ds.length = j ∧ IsH i d ∧ Fd (b + 1 + 17 * i) f ∧ ρ = [Sl.own f, .val (.int (j : Nat)), .val d, z]) ⟨0, d, f, .no, by simp [rangeD], hd, hf, rfl⟩ ?_ ?_
  · rintro e ds ρ ⟨i, d, f, z, hi, hd, hf, rfl⟩
    rw [List.length_cons] at hi
    simp only [↓w_var, ↓wVar_val, ↓wVar_own, ↓w_c, ↓w_nil, ↓w_cons, ↓w_app, ↓wViews_nil, ↓wViews_cons, ↓wView_d, ↓wView_fresh, ↓wView_plc, ↓wSlot_val, ↓wSlot_own, ↓wEsc_d, ↓wEsc_fresh, ↓wEsc_plc, ↓wEscS_val, ↓wEscS_own, ↓wEscs_nil, ↓wEscs_cons, ↓w_frz, ↓w_tup, ↓w_lst, ↓w_bool, ↓w_tru, ↓w_notT, ↓w_andT, ↓w_orT, ↓w_if, ↓w_and, ↓w_or, ↓w_not, ↓w_chain, ↓wB_bl, ↓w_noPart, ↓w_part, ↓w_slice, ↓w_call, ↓wPlc_cons, ↓wOwn_own, ↓w_callIo, ↓isLst_lst, ↓w_meth, ↓w_ext, ↓wExt_ok, ↓ws_next, ↓ws_bk, ↓ws_ct, ↓ws_rt, ↓ws_nx, ↓ws_seq, ↓ws_drop, ↓ws_ret, ↓ws_if, ↓ws_set, ↓wSet_d, ↓wSet_fresh, ↓wSet_plc, ↓ws_asg, ↓wt_name, ↓wt_nil, ↓wt_cons, ↓wt_tup, ↓wt_lst, ↓wPar_two, ↓ws_par, ↓wLstS_own, ↓wInt_int, ↓ws_item, ↓ws_for, ↓w_zip, ↓w_iter, ↓wItems_lst, ↓wItems_tup, ↓w_rng, ↓wRet_d, ↓wRet_fresh, ↓wRet_plc, ↓wRetS_val, ↓wRetS_own, ↓wRetS_ownS, ↓wI_some, ↓wI_none, ↓wI_ite, List.getElem?_cons_zero, List.getElem?_cons_succ, List.set_cons_zero, List.set_cons_succ]
    refine hW _ _ _ _ hf (by omega) fun x f1 hf1 hx _ => ?_
    simp only [↓w_var, ↓wVar_val, ↓wVar_own, ↓w_c, ↓w_nil, ↓w_cons, ↓w_app, ↓wViews_nil, ↓wViews_cons, ↓wView_d, ↓wView_fresh, ↓wView_plc, ↓wSlot_val, ↓wSlot_own, ↓wEsc_d, ↓wEsc_fresh, ↓wEsc_plc, ↓wEscS_val, ↓wEscS_own, ↓wEscs_nil, ↓wEscs_cons, ↓w_frz, ↓w_tup, ↓w_lst, ↓w_bool, ↓w_tru, ↓w_notT, ↓w_andT, ↓w_orT, ↓w_if, ↓w_and, ↓w_or, ↓w_not, ↓w_chain, ↓wB_bl, ↓w_noPart, ↓w_part, ↓w_slice, ↓w_call, ↓wPlc_cons, ↓wOwn_own, ↓w_callIo, ↓isLst_lst, ↓w_meth, ↓w_ext, ↓wExt_ok, ↓ws_next, ↓ws_bk, ↓ws_ct, ↓ws_rt, ↓ws_nx, ↓ws_seq, ↓ws_drop, ↓ws_ret, ↓ws_if, ↓ws_set, ↓wSet_d, ↓wSet_fresh, ↓wSet_plc, ↓ws_asg, ↓wt_name, ↓wt_nil, ↓wt_cons, ↓wt_tup, ↓wt_lst, ↓wPar_two, ↓ws_par, ↓wLstS_own, ↓wInt_int, ↓ws_item, ↓ws_for, ↓w_zip, ↓w_iter, ↓wItems_lst, ↓wItems_tup, ↓w_rng, ↓wRet_d, ↓wRet_fresh, ↓wRet_plc, ↓wRetS_val, ↓wRetS_own, ↓wRetS_ownS, ↓wI_some, ↓wI_none, ↓wI_ite, List.getElem?_cons_zero, List.getElem?_cons_succ, List.set_cons_zero, List.set_cons_succ]
    refine hU _ _ _ _ hf1 (by omega) fun u f2 hf2 hu => ?_
    simp only [↓w_var, ↓wVar_val, ↓wVar_own, ↓w_c, ↓w_nil, ↓w_cons, ↓w_app, ↓wViews_nil, ↓wViews_cons, ↓wView_d, ↓wView_fresh, ↓wView_plc, ↓wSlot_val, ↓wSlot_own, ↓wEsc_d, ↓wEsc_fresh, ↓wEsc_plc, ↓wEscS_val, ↓wEscS_own, ↓wEscs_nil, ↓wEscs_cons, ↓w_frz, ↓w_tup, ↓w_lst, ↓w_bool, ↓w_tru, ↓w_notT, ↓w_andT, ↓w_orT, ↓w_if, ↓w_and, ↓w_or, ↓w_not, ↓w_chain, ↓wB_bl, ↓w_noPart, ↓w_part, ↓w_slice, ↓w_call, ↓wPlc_cons, ↓wOwn_own, ↓w_callIo, ↓isLst_lst, ↓w_meth, ↓w_ext, ↓wExt_ok, ↓ws_next, ↓ws_bk, ↓ws_ct, ↓ws_rt, ↓ws_nx, ↓ws_seq, ↓ws_drop, ↓ws_ret, ↓ws_if, ↓ws_set, ↓wSet_d, ↓wSet_fresh, ↓wSet_plc, ↓ws_asg, ↓wt_name, ↓wt_nil, ↓wt_cons, ↓wt_tup, ↓wt_lst, ↓wPar_two, ↓ws_par, ↓wLstS_own, ↓wInt_int, ↓ws_item, ↓ws_for, ↓w_zip, ↓w_iter, ↓wItems_lst, ↓wItems_tup, ↓w_rng, ↓wRet_d, ↓wRet_fresh, ↓wRet_plc, ↓wRetS_val, ↓wRetS_own, ↓wRetS_ownS, ↓wI_some, ↓wI_none, ↓wI_ite, List.getElem?_cons_zero, List.getElem?_cons_succ, List.set_cons_zero, List.set_cons_succ]
    refine ⟨i + 1, _, f2, _, by omega, ⟨[.tup [d, fr x]], u, rfl, hu, by simp, fun p hp => ?_⟩, hf2.mono (by omega), rfl⟩
    rw [List.mem_singleton.mp hp]
    exact ⟨d, x, rfl, hx, hd⟩
  · rintro ρ ⟨i, d, f, z, hi, hd, hf, rfl⟩
    simp at hi
    simp only [↓w_var, ↓wVar_val, ↓wVar_own, ↓w_c, ↓w_nil, ↓w_cons, ↓w_app, ↓wViews_nil, ↓wViews_cons, ↓wView_d, ↓wView_fresh, ↓wView_plc, ↓wSlot_val, ↓wSlot_own, ↓wEsc_d, ↓wEsc_fresh, ↓wEsc_plc, ↓wEscS_val, ↓wEscS_own, ↓wEscs_nil, ↓wEscs_cons, ↓w_frz, ↓w_tup, ↓w_lst, ↓w_bool, ↓w_tru, ↓w_notT, ↓w_andT, ↓w_orT, ↓w_if, ↓w_and, ↓w_or, ↓w_not, ↓w_chain, ↓wB_bl, ↓w_noPart, ↓w_part, ↓w_slice, ↓w_call, ↓wPlc_cons, ↓wOwn_own, ↓w_callIo, ↓isLst_lst, ↓w_meth, ↓w_ext, ↓wExt_ok, ↓ws_next, ↓ws_bk, ↓ws_ct, ↓ws_rt, ↓ws_nx, ↓ws_seq, ↓ws_drop, ↓ws_ret, ↓ws_if, ↓ws_set, ↓wSet_d, ↓wSet_fresh, ↓wSet_plc, ↓ws_asg, ↓wt_name, ↓wt_nil, ↓wt_cons, ↓wt_tup, ↓wt_lst, ↓wPar_two, ↓ws_par, ↓wLstS_own, ↓wInt_int, ↓ws_item, ↓ws_for, ↓w_zip, ↓w_iter, ↓wItems_lst, ↓wItems_tup, ↓w_rng, ↓wRet_d, ↓wRet_fresh, ↓wRet_plc, ↓wRetS_val, ↓wRetS_own, ↓wRetS_ownS, ↓wI_some, ↓wI_none, ↓wI_ite, List.getElem?_cons_zero, List.getElem?_cons_succ, List.set_cons_zero, List.set_cons_succ]
    exact h d f (hf.mono (by omega)) (hd.mono (by omega))
def rungs : List D := match kRUNGS with
  | .tup l => l
  | _ => []
theorem rung_ok (n : Nat) {d : D} (hd : d ∈ rungs) : cc (n + 4) 7 [d] = .ok (.d (.bl true)) none := by
  have hF : FracE (cc (n + 2) 2) := is_fraction_i n
  have hq : ∃ q : Nat → Rat, d = .tup [.tup [], fourD q] := by
    have hd : d ∈ ([_, _, _, _, _] : List D) := hd
    simp only [List.mem_cons, List.not_mem_nil, or_false] at hd
    rcases hd with rfl | rfl | rfl | rfl | rfl
    · exact ⟨fun _ => 0, rfl⟩
    · exact ⟨fun j => if j = 0 then 1 else 0, rfl⟩
    · exact ⟨fun j => if j = 1 then 1 else 0, rfl⟩
    · exact ⟨fun j => if j = 2 then 1 else 0, rfl⟩
    · exact ⟨fun j => if j = 3 then 1 else 0, rfl⟩
  obtain ⟨q, rfl⟩ := hq
  have h4 : cc (n + 3) 4 [.tup [.tup [], fourD q], .int 4] = .ok (.d (.bl true)) none := by
    refine eq_of_w ?_
    rw [call4]
    refine w_run0 rfl ?_
    show wS (b4 _ [Sl.val (.tup [.tup [], fourD q]), .val (.int 4), .no, .no, .no, .no]) _
    unfold b4
    have s0 : shP (.tup []) = true := shT0
    have e2 : (([.tup [], fourD q] : List D).length == 2) = true := rfl
    have l2 : ((([.tup [], fourD q] : List D).length : Nat) : Int) = 2 := rfl
    have i1 : isiD .tuple (.tup [.tup [], fourD q]) = true := rfl
    have i2 : isiD .tuple (fourD q) = true := rfl
    have l4 : ∀ {Q : RV → Prop}, wI (oLen [fourD q]) Q = Q (.d (.int 4)) := fun {Q} => id rfl
    simp (disch := assumption) only [↓w_var, ↓wVar_val, ↓wVar_own, ↓w_c, ↓w_nil, ↓w_cons, ↓w_app, ↓wViews_nil, ↓wViews_cons, ↓wView_d, ↓wView_fresh, ↓wView_plc, ↓wSlot_val, ↓wSlot_own, ↓wEsc_d, ↓wEsc_fresh, ↓wEsc_plc, ↓wEscS_val, ↓wEscS_own, ↓wEscs_nil, ↓wEscs_cons, ↓w_frz, ↓w_tup, ↓w_lst, ↓w_bool, ↓w_tru, ↓w_notT, ↓w_andT, ↓w_orT, ↓w_if, ↓w_and, ↓w_or, ↓w_not, ↓w_chain, ↓wB_bl, ↓w_noPart, ↓w_part, ↓w_slice, ↓w_call, ↓wPlc_cons, ↓wOwn_own, ↓w_callIo, ↓isLst_lst, ↓w_meth, ↓w_ext, ↓wExt_ok, ↓ws_next, ↓ws_bk, ↓ws_ct, ↓ws_rt, ↓ws_nx, ↓ws_seq, ↓ws_drop, ↓ws_ret, ↓ws_if, ↓ws_set, ↓wSet_d, ↓wSet_fresh, ↓wSet_plc, ↓ws_asg, ↓wt_name, ↓wt_nil, ↓wt_cons, ↓wt_tup, ↓wt_lst, ↓wPar_two, ↓ws_par, ↓wLstS_own, ↓wInt_int, ↓ws_item, ↓ws_for, ↓w_zip, ↓w_iter, ↓wItems_lst, ↓wItems_tup, ↓w_rng, ↓wRet_d, ↓wRet_fresh, ↓wRet_plc, ↓wRetS_val, ↓wRetS_own, ↓wRetS_ownS, ↓wI_some, ↓wI_none, ↓wI_ite, List.getElem?_cons_zero, List.getElem?_cons_succ, List.set_cons_zero, List.set_cons_succ, o_isi, i1, i2, tru_bl, Bool.not_true, Bool.false_eq_true, ↓reduceIte, o_lenT, l2, o_neI, e2, l4, ne_eq, not_true_eq_false, decide_false]
    refine comp_map (fun _ => .bl true) ?_
    unfold fourD
    simp only [↓w_var, ↓wVar_val, ↓wVar_own, ↓w_c, ↓w_nil, ↓w_cons, ↓w_app, ↓wViews_nil, ↓wViews_cons, ↓wView_d, ↓wView_fresh, ↓wView_plc, ↓wSlot_val, ↓wSlot_own, ↓wEsc_d, ↓wEsc_fresh, ↓wEsc_plc, ↓wEscS_val, ↓wEscS_own, ↓wEscs_nil, ↓wEscs_cons, ↓w_frz, ↓w_tup, ↓w_lst, ↓w_bool, ↓w_tru, ↓w_notT, ↓w_andT, ↓w_orT, ↓w_if, ↓w_and, ↓w_or, ↓w_not, ↓w_chain, ↓wB_bl, ↓w_noPart, ↓w_part, ↓w_slice, ↓w_call, ↓wPlc_cons, ↓wOwn_own, ↓w_callIo, ↓isLst_lst, ↓w_meth, ↓w_ext, ↓wExt_ok, ↓ws_next, ↓ws_bk, ↓ws_ct, ↓ws_rt, ↓ws_nx, ↓ws_seq, ↓ws_drop, ↓ws_ret, ↓ws_if, ↓ws_set, ↓wSet_d, ↓wSet_fresh, ↓wSet_plc, ↓ws_asg, ↓wt_name, ↓wt_nil, ↓wt_cons, ↓wt_tup, ↓wt_lst, ↓wPar_two, ↓ws_par, ↓wLstS_own, ↓wInt_int, ↓ws_item, ↓ws_for, ↓w_zip, ↓w_iter, ↓wItems_lst, ↓wItems_tup, ↓w_rng, ↓wRet_d, ↓wRet_fresh, ↓wRet_plc, ↓wRetS_val, ↓wRetS_own, ↓wRetS_ownS, ↓wI_some, ↓wI_none, ↓wI_ite, List.getElem?_cons_zero, List.getElem?_cons_succ, List.set_cons_zero, List.set_cons_succ]
    refine ⟨by simp, fun d hd => ?_, ?_⟩
    · have : ∃ x, d = fr x := by
        simp only [List.mem_cons, List.not_mem_nil, or_false] at hd
        rcases hd with rfl | rfl | rfl | rfl <;> exact ⟨_, rfl⟩
      obtain ⟨x, rfl⟩ := this
      simp only [↓w_var, ↓wVar_val, ↓wVar_own, ↓w_c, ↓w_nil, ↓w_cons, ↓w_app, ↓wViews_nil, ↓wViews_cons, ↓wView_d, ↓wView_fresh, ↓wView_plc, ↓wSlot_val, ↓wSlot_own, ↓wEsc_d, ↓wEsc_fresh, ↓wEsc_plc, ↓wEscS_val, ↓wEscS_own, ↓wEscs_nil, ↓wEscs_cons, ↓w_frz, ↓w_tup, ↓w_lst, ↓w_bool, ↓w_tru, ↓w_notT, ↓w_andT, ↓w_orT, ↓w_if, ↓w_and, ↓w_or, ↓w_not, ↓w_chain, ↓wB_bl, ↓w_noPart, ↓w_part, ↓w_slice, ↓w_call, ↓wPlc_cons, ↓wOwn_own, ↓w_callIo, ↓isLst_lst, ↓w_meth, ↓w_ext, ↓wExt_ok, ↓ws_next, ↓ws_bk, ↓ws_ct, ↓ws_rt, ↓ws_nx, ↓ws_seq, ↓ws_drop, ↓ws_ret, ↓ws_if, ↓ws_set, ↓wSet_d, ↓wSet_fresh, ↓wSet_plc, ↓ws_asg, ↓wt_name, ↓wt_nil, ↓wt_cons, ↓wt_tup, ↓wt_lst, ↓wPar_two, ↓ws_par, ↓wLstS_own, ↓wInt_int, ↓ws_item, ↓ws_for, ↓w_zip, ↓w_iter, ↓wItems_lst, ↓wItems_tup, ↓w_rng, ↓wRet_d, ↓wRet_fresh, ↓wRet_plc, ↓wRetS_val, ↓wRetS_own, ↓wRetS_ownS, ↓wI_some, ↓wI_none, ↓wI_ite, List.getElem?_cons_zero, List.getElem?_cons_succ, List.set_cons_zero, List.set_cons_succ, hF (fr x), isFr_fr, wF0_ok]
      first | trivial | exact ⟨trivial, trivial⟩ | exact ⟨rfl, trivial⟩
    · have ea : ∀ {Q : RV → Prop} {a b c d : D}, wI (oAll [.lst ([a, b, c, d].map fun _ => D.bl true)]) Q = Q (.d (.bl true)) := fun {Q a b c d} => id rfl
      simp (disch := assumption) only [↓w_var, ↓wVar_val, ↓wVar_own, ↓w_c, ↓w_nil, ↓w_cons, ↓w_app, ↓wViews_nil, ↓wViews_cons, ↓wView_d, ↓wView_fresh, ↓wView_plc, ↓wSlot_val, ↓wSlot_own, ↓wEsc_d, ↓wEsc_fresh, ↓wEsc_plc, ↓wEscS_val, ↓wEscS_own, ↓wEscs_nil, ↓wEscs_cons, ↓w_frz, ↓w_tup, ↓w_lst, ↓w_bool, ↓w_tru, ↓w_notT, ↓w_andT, ↓w_orT, ↓w_if, ↓w_and, ↓w_or, ↓w_not, ↓w_chain, ↓wB_bl, ↓w_noPart, ↓w_part, ↓w_slice, ↓w_call, ↓wPlc_cons, ↓wOwn_own, ↓w_callIo, ↓isLst_lst, ↓w_meth, ↓w_ext, ↓wExt_ok, ↓ws_next, ↓ws_bk, ↓ws_ct, ↓ws_rt, ↓ws_nx, ↓ws_seq, ↓ws_drop, ↓ws_ret, ↓ws_if, ↓ws_set, ↓wSet_d, ↓wSet_fresh, ↓wSet_plc, ↓ws_asg, ↓wt_name, ↓wt_nil, ↓wt_cons, ↓wt_tup, ↓wt_lst, ↓wPar_two, ↓ws_par, ↓wLstS_own, ↓wInt_int, ↓ws_item, ↓ws_for, ↓w_zip, ↓w_iter, ↓wItems_lst, ↓wItems_tup, ↓w_rng, ↓wRet_d, ↓wRet_fresh, ↓wRet_plc, ↓wRetS_val, ↓wRetS_own, ↓wRetS_ownS, ↓wI_some, ↓wI_none, ↓wI_ite, List.getElem?_cons_zero, List.getElem?_cons_succ, List.set_cons_zero, List.set_cons_succ, ea, tru_bl, Bool.not_true, Bool.false_eq_true, ↓reduceIte, o_eq, eq_nil, List.isEmpty_nil]
  refine eq_of_w ?_
  rw [call7]
  refine w_run0 rfl ?_
  show wS (b7 _ [Sl.val (.tup [.tup [], fourD q])]) _
  unfold b7
  have e4 : kMOSTDEPTH = .int 4 := rfl
  simp only [↓w_var, ↓wVar_val, ↓wVar_own, ↓w_c, ↓w_nil, ↓w_cons, ↓w_app, ↓wViews_nil, ↓wViews_cons, ↓wView_d, ↓wView_fresh, ↓wView_plc, ↓wSlot_val, ↓wSlot_own, ↓wEsc_d, ↓wEsc_fresh, ↓wEsc_plc, ↓wEscS_val, ↓wEscS_own, ↓wEscs_nil, ↓wEscs_cons, ↓w_frz, ↓w_tup, ↓w_lst, ↓w_bool, ↓w_tru, ↓w_notT, ↓w_andT, ↓w_orT, ↓w_if, ↓w_and, ↓w_or, ↓w_not, ↓w_chain, ↓wB_bl, ↓w_noPart, ↓w_part, ↓w_slice, ↓w_call, ↓wPlc_cons, ↓wOwn_own, ↓w_callIo, ↓isLst_lst, ↓w_meth, ↓w_ext, ↓wExt_ok, ↓ws_next, ↓ws_bk, ↓ws_ct, ↓ws_rt, ↓ws_nx, ↓ws_seq, ↓ws_drop, ↓ws_ret, ↓ws_if, ↓ws_set, ↓wSet_d, ↓wSet_fresh, ↓wSet_plc, ↓ws_asg, ↓wt_name, ↓wt_nil, ↓wt_cons, ↓wt_tup, ↓wt_lst, ↓wPar_two, ↓ws_par, ↓wLstS_own, ↓wInt_int, ↓ws_item, ↓ws_for, ↓w_zip, ↓w_iter, ↓wItems_lst, ↓wItems_tup, ↓w_rng, ↓wRet_d, ↓wRet_fresh, ↓wRet_plc, ↓wRetS_val, ↓wRetS_own, ↓wRetS_ownS, ↓wI_some, ↓wI_none, ↓wI_ite, List.getElem?_cons_zero, List.getElem?_cons_succ, List.set_cons_zero, List.set_cons_succ, e4, h4, wF0_ok]
theorem oin_f {l : List D} {Q : RV → Prop} : wI (oIn [.bl false, .lst (l.map fun _ => D.bl true)]) Q = Q (.d (.bl false)) := by
  have hs : ∀ d ∈ l.map fun _ => D.bl true, d = .bl true := fun d hd => by
    obtain ⟨_, _, rfl⟩ := List.mem_map.mp hd
    rfl
  have h : shP (.lst (l.map fun _ => D.bl true)) = true := by
    refine shP_of (k := 1) ?_ (by omega)
    rw [shN]
    refine shNs_of fun d hd => ?_
    rw [hs d hd]
    rfl
  show wI (if (shP (.bl false) && shP (.lst (l.map fun _ => D.bl true))) = true then dat (.bl ((l.map fun _ => D.bl true).any fun z => eqP z (.bl false))) else none) Q = _
  rw [if_pos (by rw [shB, h]; rfl)]
  have e : ((l.map fun _ => D.bl true).any fun z => eqP z (.bl false)) = false := by
    rw [List.any_eq_false]
    intro d hd
    rw [hs d hd, eq_bb]
    simp
  rw [e]
  rfl
theorem o_listT {l : List D} {Q : RV → Prop} : wI (oList [.tup l]) Q = Q (.fresh (.lst l)) := id rfl
theorem o_mulT1 {z : D} {k : Int} {Q : RV → Prop} (h0 : 0 ≤ k) (h : k ≤ 1000) : wI (oMul [.tup [z], .int k]) Q = Q (.d (.tup (List.replicate k.toNat [z]).flatten)) := by
  show wI (if (Nat.ble [z].length 1000 && Nat.blt 0 [z].length && (decide (0 ≤ k) && decide (k ≤ 1000))) = true then _ else _) Q = _
  rw [if_pos (by rw [decide_eq_true h0, decide_eq_true h]; rfl)]
  rfl
theorem rungs_rep : repOk kRUNGS = true := rep_of (by kernel_rfl) (Nat.le_of_ble_eq_true (by kernel_rfl)) (by kernel_rfl)
theorem zero_rep : repOk (.int ((0 : Nat) : Int)) = true := rep_of (by kernel_rfl) (Nat.le_of_ble_eq_true (by kernel_rfl)) (by kernel_rfl)
theorem zero_shown : shownD (.int ((0 : Nat) : Int)) = "0" := by
  unfold shownD
  simp only [toP, PyData.shown]
  rfl
noncomputable def body22 (c : Nat → List D → FRes) : SDen :=
 (sSeq (sSet 5 (dApp oList [dCallIo (c 19) [dVar 1, dC (.int 5), dC (.int 3)]]))
 (sSeq (sIf (dBool (dApp oEq [dCallIo (c 10) [dVar 1, dC (.int 2)], dC (.int 0)]))
 (sSeq (sSet 6 (dCallIo (c 20) [dVar 1, dCallIo (c 10) [dVar 1, dC (.int 5)]]))
 (sSet 5 (dApp oAdd [dComp [9] (dIter (dVar 5)) (tName 9) (dBool (dApp oNe [dApp oIx [dVar 9, dC (.int 0)], dVar 6])) (dVar 9), dLst [dTup [dVar 6, dTup [dC (.int 1), dC (.int 1)]]]])))
 (sNext))
 (sSeq (sSet 7 (dApp oTuple [dApp oSorted [dVar 5]]))
 (sSeq (sSet 8 (dApp oRepr [dVar 7]))
 (sIf (dOrT (dBool (dApp oNe [dApp oRepr [dCall (c 8) [dVar 7]], dApp oRepr [dCall (c 21) [dVar 7]]])) (dBool (dApp oNe [dApp oRepr [dVar 7], dVar 8])))
 (sRet (dC (.bl false)))
 (sNext))))))
theorem turn (n b : Nat) (P : Post) {x0 s2 s3 s4 s5 s6 s7 s8 : Sl} {f : D} (hf : Fd b f) (hb : b ≤ 20000) (hP : ∀ f s5 s6 s7 s8, Fd (b + 2000) f → P.N [x0, .own f, s2, s3, s4, s5, s6, s7, s8, .no]) : wS (body22 (cc (n + 19)) [x0, .own f, s2, s3, s4, s5, s6, s7, s8, .no]) P := by
  have hN : NextS (cc (n + 19) 10) := _law_next_i (n + 18)
  have hG : GrowthS 3 (cc (n + 19) 19) := by
    have h := (draws (n + 7) 3 (by omega)).2
    rw [show n + 7 + 2 * 3 + 6 = n + 19 by omega] at h
    exact h
  have h3 : DL.hc 3 = 260 := rfl
  unfold GrowthS at hG
  rw [h3] at hG
  clear h3
  have hL : LayersE (cc (n + 19) 21) := _law_depth_i (n + 18)
  have hD4 : DepthE 4 (cc (n + 19) 8) := by
    have h := depthE (n + 14) 4 (by omega)
    rw [show n + 14 + 4 + 1 = n + 19 by omega] at h
    exact h
  unfold body22
  refine of_wz ?_
  refine wz_cut (fun ρ => ∃ (m : List D) (f : D), m.length ≤ 5 ∧ (∀ p ∈ m, IsP 4 p) ∧ Fd (b + 1400) f ∧ ρ = [x0, .own f, s2, s3, s4, .own (.lst m), s6, s7, s8, .no]) ?_ ?_
  · simp only [↓w_var, ↓wVar_val, ↓wVar_own, ↓w_c, ↓w_nil, ↓w_cons, ↓w_app, ↓wViews_nil, ↓wViews_cons, ↓wView_d, ↓wView_fresh, ↓wView_plc, ↓wSlot_val, ↓wSlot_own, ↓wEsc_d, ↓wEsc_fresh, ↓wEsc_plc, ↓wEscS_val, ↓wEscS_own, ↓wEscs_nil, ↓wEscs_cons, ↓w_frz, ↓w_tup, ↓w_lst, ↓w_bool, ↓w_tru, ↓w_notT, ↓w_andT, ↓w_orT, ↓w_if, ↓w_and, ↓w_or, ↓w_not, ↓w_chain, ↓wB_bl, ↓w_noPart, ↓w_part, ↓w_slice, ↓w_call, ↓wPlc_cons, ↓wOwn_own, ↓w_callIo, ↓isLst_lst, ↓w_meth, ↓w_ext, ↓wExt_ok, ↓ws_next, ↓ws_bk, ↓ws_ct, ↓ws_rt, ↓ws_nx, ↓ws_seq, ↓ws_drop, ↓ws_ret, ↓ws_if, ↓ws_set, ↓wSet_d, ↓wSet_fresh, ↓wSet_plc, ↓ws_asg, ↓wt_name, ↓wt_nil, ↓wt_cons, ↓wt_tup, ↓wt_lst, ↓wPar_two, ↓ws_par, ↓wLstS_own, ↓wInt_int, ↓ws_item, ↓ws_for, ↓w_zip, ↓w_iter, ↓wItems_lst, ↓wItems_tup, ↓w_rng, ↓wRet_d, ↓wRet_fresh, ↓wRet_plc, ↓wRetS_val, ↓wRetS_own, ↓wRetS_ownS, ↓wI_some, ↓wI_none, ↓wI_ite, List.getElem?_cons_zero, List.getElem?_cons_succ, List.set_cons_zero, List.set_cons_succ]
    refine hG (b) 5 f _ _ hf (by omega) (by omega) fun m f1 hf1 hm hp => ?_
    simp only [↓w_var, ↓wVar_val, ↓wVar_own, ↓w_c, ↓w_nil, ↓w_cons, ↓w_app, ↓wViews_nil, ↓wViews_cons, ↓wView_d, ↓wView_fresh, ↓wView_plc, ↓wSlot_val, ↓wSlot_own, ↓wEsc_d, ↓wEsc_fresh, ↓wEsc_plc, ↓wEscS_val, ↓wEscS_own, ↓wEscs_nil, ↓wEscs_cons, ↓w_frz, ↓w_tup, ↓w_lst, ↓w_bool, ↓w_tru, ↓w_notT, ↓w_andT, ↓w_orT, ↓w_if, ↓w_and, ↓w_or, ↓w_not, ↓w_chain, ↓wB_bl, ↓w_noPart, ↓w_part, ↓w_slice, ↓w_call, ↓wPlc_cons, ↓wOwn_own, ↓w_callIo, ↓isLst_lst, ↓w_meth, ↓w_ext, ↓wExt_ok, ↓ws_next, ↓ws_bk, ↓ws_ct, ↓ws_rt, ↓ws_nx, ↓ws_seq, ↓ws_drop, ↓ws_ret, ↓ws_if, ↓ws_set, ↓wSet_d, ↓wSet_fresh, ↓wSet_plc, ↓ws_asg, ↓wt_name, ↓wt_nil, ↓wt_cons, ↓wt_tup, ↓wt_lst, ↓wPar_two, ↓ws_par, ↓wLstS_own, ↓wInt_int, ↓ws_item, ↓ws_for, ↓w_zip, ↓w_iter, ↓wItems_lst, ↓wItems_tup, ↓w_rng, ↓wRet_d, ↓wRet_fresh, ↓wRet_plc, ↓wRetS_val, ↓wRetS_own, ↓wRetS_ownS, ↓wI_some, ↓wI_none, ↓wI_ite, List.getElem?_cons_zero, List.getElem?_cons_succ, List.set_cons_zero, List.set_cons_succ, o_listT]
    exact ⟨m, f1, hm, fun p hp' => (hp p hp').mono (by omega), hf1.mono (by omega), rfl⟩
  rintro _ ⟨m, f, hm, hp, hf, rfl⟩
  refine wz_cut (fun ρ => ∃ (m : List D) (f : D) (s6 : Sl), m.length ≤ 6 ∧ (∀ p ∈ m, IsP 4 p) ∧ Fd (b + 1600) f ∧ ρ = [x0, .own f, s2, s3, s4, .own (.lst m), s6, s7, s8, .no]) ?_ ?_
  · simp only [↓w_var, ↓wVar_val, ↓wVar_own, ↓w_c, ↓w_nil, ↓w_cons, ↓w_app, ↓wViews_nil, ↓wViews_cons, ↓wView_d, ↓wView_fresh, ↓wView_plc, ↓wSlot_val, ↓wSlot_own, ↓wEsc_d, ↓wEsc_fresh, ↓wEsc_plc, ↓wEscS_val, ↓wEscS_own, ↓wEscs_nil, ↓wEscs_cons, ↓w_frz, ↓w_tup, ↓w_lst, ↓w_bool, ↓w_tru, ↓w_notT, ↓w_andT, ↓w_orT, ↓w_if, ↓w_and, ↓w_or, ↓w_not, ↓w_chain, ↓wB_bl, ↓w_noPart, ↓w_part, ↓w_slice, ↓w_call, ↓wPlc_cons, ↓wOwn_own, ↓w_callIo, ↓isLst_lst, ↓w_meth, ↓w_ext, ↓wExt_ok, ↓ws_next, ↓ws_bk, ↓ws_ct, ↓ws_rt, ↓ws_nx, ↓ws_seq, ↓ws_drop, ↓ws_ret, ↓ws_if, ↓ws_set, ↓wSet_d, ↓wSet_fresh, ↓wSet_plc, ↓ws_asg, ↓wt_name, ↓wt_nil, ↓wt_cons, ↓wt_tup, ↓wt_lst, ↓wPar_two, ↓ws_par, ↓wLstS_own, ↓wInt_int, ↓ws_item, ↓ws_for, ↓w_zip, ↓w_iter, ↓wItems_lst, ↓wItems_tup, ↓w_rng, ↓wRet_d, ↓wRet_fresh, ↓wRet_plc, ↓wRetS_val, ↓wRetS_own, ↓wRetS_ownS, ↓wI_some, ↓wI_none, ↓wI_ite, List.getElem?_cons_zero, List.getElem?_cons_succ, List.set_cons_zero, List.set_cons_succ]
    refine hN _ _ _ _ _ hf (by omega) (by omega) (by omega) fun r f1 hf1 r0 r1 => ?_
    simp only [↓w_var, ↓wVar_val, ↓wVar_own, ↓w_c, ↓w_nil, ↓w_cons, ↓w_app, ↓wViews_nil, ↓wViews_cons, ↓wView_d, ↓wView_fresh, ↓wView_plc, ↓wSlot_val, ↓wSlot_own, ↓wEsc_d, ↓wEsc_fresh, ↓wEsc_plc, ↓wEscS_val, ↓wEscS_own, ↓wEscs_nil, ↓wEscs_cons, ↓w_frz, ↓w_tup, ↓w_lst, ↓w_bool, ↓w_tru, ↓w_notT, ↓w_andT, ↓w_orT, ↓w_if, ↓w_and, ↓w_or, ↓w_not, ↓w_chain, ↓wB_bl, ↓w_noPart, ↓w_part, ↓w_slice, ↓w_call, ↓wPlc_cons, ↓wOwn_own, ↓w_callIo, ↓isLst_lst, ↓w_meth, ↓w_ext, ↓wExt_ok, ↓ws_next, ↓ws_bk, ↓ws_ct, ↓ws_rt, ↓ws_nx, ↓ws_seq, ↓ws_drop, ↓ws_ret, ↓ws_if, ↓ws_set, ↓wSet_d, ↓wSet_fresh, ↓wSet_plc, ↓ws_asg, ↓wt_name, ↓wt_nil, ↓wt_cons, ↓wt_tup, ↓wt_lst, ↓wPar_two, ↓ws_par, ↓wLstS_own, ↓wInt_int, ↓ws_item, ↓ws_for, ↓w_zip, ↓w_iter, ↓wItems_lst, ↓wItems_tup, ↓w_rng, ↓wRet_d, ↓wRet_fresh, ↓wRet_plc, ↓wRetS_val, ↓wRetS_own, ↓wRetS_ownS, ↓wI_some, ↓wI_none, ↓wI_ite, List.getElem?_cons_zero, List.getElem?_cons_succ, List.set_cons_zero, List.set_cons_succ, o_eqI, decide_eq_true_eq]
    split
    · try simp only [↓w_var, ↓wVar_val, ↓wVar_own, ↓w_c, ↓w_nil, ↓w_cons, ↓w_app, ↓wViews_nil, ↓wViews_cons, ↓wView_d, ↓wView_fresh, ↓wView_plc, ↓wSlot_val, ↓wSlot_own, ↓wEsc_d, ↓wEsc_fresh, ↓wEsc_plc, ↓wEscS_val, ↓wEscS_own, ↓wEscs_nil, ↓wEscs_cons, ↓w_frz, ↓w_tup, ↓w_lst, ↓w_bool, ↓w_tru, ↓w_notT, ↓w_andT, ↓w_orT, ↓w_if, ↓w_and, ↓w_or, ↓w_not, ↓w_chain, ↓wB_bl, ↓w_noPart, ↓w_part, ↓w_slice, ↓w_call, ↓wPlc_cons, ↓wOwn_own, ↓w_callIo, ↓isLst_lst, ↓w_meth, ↓w_ext, ↓wExt_ok, ↓ws_next, ↓ws_bk, ↓ws_ct, ↓ws_rt, ↓ws_nx, ↓ws_seq, ↓ws_drop, ↓ws_ret, ↓ws_if, ↓ws_set, ↓wSet_d, ↓wSet_fresh, ↓wSet_plc, ↓ws_asg, ↓wt_name, ↓wt_nil, ↓wt_cons, ↓wt_tup, ↓wt_lst, ↓wPar_two, ↓ws_par, ↓wLstS_own, ↓wInt_int, ↓ws_item, ↓ws_for, ↓w_zip, ↓w_iter, ↓wItems_lst, ↓wItems_tup, ↓w_rng, ↓wRet_d, ↓wRet_fresh, ↓wRet_plc, ↓wRetS_val, ↓wRetS_own, ↓wRetS_ownS, ↓wI_some, ↓wI_none, ↓wI_ite, List.getElem?_cons_zero, List.getElem?_cons_succ, List.set_cons_zero, List.set_cons_succ]
      refine hN _ _ _ _ _ hf1 (by omega) (by omega) (by omega) fun j f2 hf2 j0 j1 => ?_
      obtain ⟨j, rfl⟩ := Int.eq_ofNat_of_zero_le j0
      simp only [↓w_var, ↓wVar_val, ↓wVar_own, ↓w_c, ↓w_nil, ↓w_cons, ↓w_app, ↓wViews_nil, ↓wViews_cons, ↓wView_d, ↓wView_fresh, ↓wView_plc, ↓wSlot_val, ↓wSlot_own, ↓wEsc_d, ↓wEsc_fresh, ↓wEsc_plc, ↓wEscS_val, ↓wEscS_own, ↓wEscs_nil, ↓wEscs_cons, ↓w_frz, ↓w_tup, ↓w_lst, ↓w_bool, ↓w_tru, ↓w_notT, ↓w_andT, ↓w_orT, ↓w_if, ↓w_and, ↓w_or, ↓w_not, ↓w_chain, ↓wB_bl, ↓w_noPart, ↓w_part, ↓w_slice, ↓w_call, ↓wPlc_cons, ↓wOwn_own, ↓w_callIo, ↓isLst_lst, ↓w_meth, ↓w_ext, ↓wExt_ok, ↓ws_next, ↓ws_bk, ↓ws_ct, ↓ws_rt, ↓ws_nx, ↓ws_seq, ↓ws_drop, ↓ws_ret, ↓ws_if, ↓ws_set, ↓wSet_d, ↓wSet_fresh, ↓wSet_plc, ↓ws_asg, ↓wt_name, ↓wt_nil, ↓wt_cons, ↓wt_tup, ↓wt_lst, ↓wPar_two, ↓ws_par, ↓wLstS_own, ↓wInt_int, ↓ws_item, ↓ws_for, ↓w_zip, ↓w_iter, ↓wItems_lst, ↓wItems_tup, ↓w_rng, ↓wRet_d, ↓wRet_fresh, ↓wRet_plc, ↓wRetS_val, ↓wRetS_own, ↓wRetS_ownS, ↓wI_some, ↓wI_none, ↓wI_ite, List.getElem?_cons_zero, List.getElem?_cons_succ, List.set_cons_zero, List.set_cons_succ]
      refine deep1 (n + 13) hf2 (by omega) (by omega) fun h f3 hf3 hh => ?_
      have sh := shP_height hh (by omega)
      simp only [↓w_var, ↓wVar_val, ↓wVar_own, ↓w_c, ↓w_nil, ↓w_cons, ↓w_app, ↓wViews_nil, ↓wViews_cons, ↓wView_d, ↓wView_fresh, ↓wView_plc, ↓wSlot_val, ↓wSlot_own, ↓wEsc_d, ↓wEsc_fresh, ↓wEsc_plc, ↓wEscS_val, ↓wEscS_own, ↓wEscs_nil, ↓wEscs_cons, ↓w_frz, ↓w_tup, ↓w_lst, ↓w_bool, ↓w_tru, ↓w_notT, ↓w_andT, ↓w_orT, ↓w_if, ↓w_and, ↓w_or, ↓w_not, ↓w_chain, ↓wB_bl, ↓w_noPart, ↓w_part, ↓w_slice, ↓w_call, ↓wPlc_cons, ↓wOwn_own, ↓w_callIo, ↓isLst_lst, ↓w_meth, ↓w_ext, ↓wExt_ok, ↓ws_next, ↓ws_bk, ↓ws_ct, ↓ws_rt, ↓ws_nx, ↓ws_seq, ↓ws_drop, ↓ws_ret, ↓ws_if, ↓ws_set, ↓wSet_d, ↓wSet_fresh, ↓wSet_plc, ↓ws_asg, ↓wt_name, ↓wt_nil, ↓wt_cons, ↓wt_tup, ↓wt_lst, ↓wPar_two, ↓ws_par, ↓wLstS_own, ↓wInt_int, ↓ws_item, ↓ws_for, ↓w_zip, ↓w_iter, ↓wItems_lst, ↓wItems_tup, ↓w_rng, ↓wRet_d, ↓wRet_fresh, ↓wRet_plc, ↓wRetS_val, ↓wRetS_own, ↓wRetS_ownS, ↓wI_some, ↓wI_none, ↓wI_ite, List.getElem?_cons_zero, List.getElem?_cons_succ, List.set_cons_zero, List.set_cons_succ]
      refine comp_fil (fun p => !eqP (first p) h) id ?_
      simp only [↓w_var, ↓wVar_val, ↓wVar_own, ↓w_c, ↓w_nil, ↓w_cons, ↓w_app, ↓wViews_nil, ↓wViews_cons, ↓wView_d, ↓wView_fresh, ↓wView_plc, ↓wSlot_val, ↓wSlot_own, ↓wEsc_d, ↓wEsc_fresh, ↓wEsc_plc, ↓wEscS_val, ↓wEscS_own, ↓wEscs_nil, ↓wEscs_cons, ↓w_frz, ↓w_tup, ↓w_lst, ↓w_bool, ↓w_tru, ↓w_notT, ↓w_andT, ↓w_orT, ↓w_if, ↓w_and, ↓w_or, ↓w_not, ↓w_chain, ↓wB_bl, ↓w_noPart, ↓w_part, ↓w_slice, ↓w_call, ↓wPlc_cons, ↓wOwn_own, ↓w_callIo, ↓isLst_lst, ↓w_meth, ↓w_ext, ↓wExt_ok, ↓ws_next, ↓ws_bk, ↓ws_ct, ↓ws_rt, ↓ws_nx, ↓ws_seq, ↓ws_drop, ↓ws_ret, ↓ws_if, ↓ws_set, ↓wSet_d, ↓wSet_fresh, ↓wSet_plc, ↓ws_asg, ↓wt_name, ↓wt_nil, ↓wt_cons, ↓wt_tup, ↓wt_lst, ↓wPar_two, ↓ws_par, ↓wLstS_own, ↓wInt_int, ↓ws_item, ↓ws_for, ↓w_zip, ↓w_iter, ↓wItems_lst, ↓wItems_tup, ↓w_rng, ↓wRet_d, ↓wRet_fresh, ↓wRet_plc, ↓wRetS_val, ↓wRetS_own, ↓wRetS_ownS, ↓wI_some, ↓wI_none, ↓wI_ite, List.getElem?_cons_zero, List.getElem?_cons_succ, List.set_cons_zero, List.set_cons_succ]
      refine ⟨by omega, fun p hp' => ?_, fun p hp' _ => ?_, ?_⟩
      · obtain ⟨h1, x, rfl, hx, hh1⟩ := hp p hp'
        have s1 := shP_height hh1 (by omega)
        simp (disch := assumption) only [↓w_var, ↓wVar_val, ↓wVar_own, ↓w_c, ↓w_nil, ↓w_cons, ↓w_app, ↓wViews_nil, ↓wViews_cons, ↓wView_d, ↓wView_fresh, ↓wView_plc, ↓wSlot_val, ↓wSlot_own, ↓wEsc_d, ↓wEsc_fresh, ↓wEsc_plc, ↓wEscS_val, ↓wEscS_own, ↓wEscs_nil, ↓wEscs_cons, ↓w_frz, ↓w_tup, ↓w_lst, ↓w_bool, ↓w_tru, ↓w_notT, ↓w_andT, ↓w_orT, ↓w_if, ↓w_and, ↓w_or, ↓w_not, ↓w_chain, ↓wB_bl, ↓w_noPart, ↓w_part, ↓w_slice, ↓w_call, ↓wPlc_cons, ↓wOwn_own, ↓w_callIo, ↓isLst_lst, ↓w_meth, ↓w_ext, ↓wExt_ok, ↓ws_next, ↓ws_bk, ↓ws_ct, ↓ws_rt, ↓ws_nx, ↓ws_seq, ↓ws_drop, ↓ws_ret, ↓ws_if, ↓ws_set, ↓wSet_d, ↓wSet_fresh, ↓wSet_plc, ↓ws_asg, ↓wt_name, ↓wt_nil, ↓wt_cons, ↓wt_tup, ↓wt_lst, ↓wPar_two, ↓ws_par, ↓wLstS_own, ↓wInt_int, ↓ws_item, ↓ws_for, ↓w_zip, ↓w_iter, ↓wItems_lst, ↓wItems_tup, ↓w_rng, ↓wRet_d, ↓wRet_fresh, ↓wRet_plc, ↓wRetS_val, ↓wRetS_own, ↓wRetS_ownS, ↓wI_some, ↓wI_none, ↓wI_ite, List.getElem?_cons_zero, List.getElem?_cons_succ, List.set_cons_zero, List.set_cons_succ, p_ix0, o_ne]
        exact ⟨rfl, trivial⟩
      · try simp only [↓w_var, ↓wVar_val, ↓wVar_own, ↓w_c, ↓w_nil, ↓w_cons, ↓w_app, ↓wViews_nil, ↓wViews_cons, ↓wView_d, ↓wView_fresh, ↓wView_plc, ↓wSlot_val, ↓wSlot_own, ↓wEsc_d, ↓wEsc_fresh, ↓wEsc_plc, ↓wEscS_val, ↓wEscS_own, ↓wEscs_nil, ↓wEscs_cons, ↓w_frz, ↓w_tup, ↓w_lst, ↓w_bool, ↓w_tru, ↓w_notT, ↓w_andT, ↓w_orT, ↓w_if, ↓w_and, ↓w_or, ↓w_not, ↓w_chain, ↓wB_bl, ↓w_noPart, ↓w_part, ↓w_slice, ↓w_call, ↓wPlc_cons, ↓wOwn_own, ↓w_callIo, ↓isLst_lst, ↓w_meth, ↓w_ext, ↓wExt_ok, ↓ws_next, ↓ws_bk, ↓ws_ct, ↓ws_rt, ↓ws_nx, ↓ws_seq, ↓ws_drop, ↓ws_ret, ↓ws_if, ↓ws_set, ↓wSet_d, ↓wSet_fresh, ↓wSet_plc, ↓ws_asg, ↓wt_name, ↓wt_nil, ↓wt_cons, ↓wt_tup, ↓wt_lst, ↓wPar_two, ↓ws_par, ↓wLstS_own, ↓wInt_int, ↓ws_item, ↓ws_for, ↓w_zip, ↓w_iter, ↓wItems_lst, ↓wItems_tup, ↓w_rng, ↓wRet_d, ↓wRet_fresh, ↓wRet_plc, ↓wRetS_val, ↓wRetS_own, ↓wRetS_ownS, ↓wI_some, ↓wI_none, ↓wI_ite, List.getElem?_cons_zero, List.getElem?_cons_succ, List.set_cons_zero, List.set_cons_succ]
        exact ⟨rfl, trivial⟩
      · have ll := List.length_filter_le (fun p => !eqP (first p) h) m
        try simp only [↓w_var, ↓wVar_val, ↓wVar_own, ↓w_c, ↓w_nil, ↓w_cons, ↓w_app, ↓wViews_nil, ↓wViews_cons, ↓wView_d, ↓wView_fresh, ↓wView_plc, ↓wSlot_val, ↓wSlot_own, ↓wEsc_d, ↓wEsc_fresh, ↓wEsc_plc, ↓wEscS_val, ↓wEscS_own, ↓wEscs_nil, ↓wEscs_cons, ↓w_frz, ↓w_tup, ↓w_lst, ↓w_bool, ↓w_tru, ↓w_notT, ↓w_andT, ↓w_orT, ↓w_if, ↓w_and, ↓w_or, ↓w_not, ↓w_chain, ↓wB_bl, ↓w_noPart, ↓w_part, ↓w_slice, ↓w_call, ↓wPlc_cons, ↓wOwn_own, ↓w_callIo, ↓isLst_lst, ↓w_meth, ↓w_ext, ↓wExt_ok, ↓ws_next, ↓ws_bk, ↓ws_ct, ↓ws_rt, ↓ws_nx, ↓ws_seq, ↓ws_drop, ↓ws_ret, ↓ws_if, ↓ws_set, ↓wSet_d, ↓wSet_fresh, ↓wSet_plc, ↓ws_asg, ↓wt_name, ↓wt_nil, ↓wt_cons, ↓wt_tup, ↓wt_lst, ↓wPar_two, ↓ws_par, ↓wLstS_own, ↓wInt_int, ↓ws_item, ↓ws_for, ↓w_zip, ↓w_iter, ↓wItems_lst, ↓wItems_tup, ↓w_rng, ↓wRet_d, ↓wRet_fresh, ↓wRet_plc, ↓wRetS_val, ↓wRetS_own, ↓wRetS_ownS, ↓wI_some, ↓wI_none, ↓wI_ite, List.getElem?_cons_zero, List.getElem?_cons_succ, List.set_cons_zero, List.set_cons_succ]
        rw [o_addL (by rw [List.map_id]; simp only [List.length_cons, List.length_nil]; omega)]
        simp only [↓w_var, ↓wVar_val, ↓wVar_own, ↓w_c, ↓w_nil, ↓w_cons, ↓w_app, ↓wViews_nil, ↓wViews_cons, ↓wView_d, ↓wView_fresh, ↓wView_plc, ↓wSlot_val, ↓wSlot_own, ↓wEsc_d, ↓wEsc_fresh, ↓wEsc_plc, ↓wEscS_val, ↓wEscS_own, ↓wEscs_nil, ↓wEscs_cons, ↓w_frz, ↓w_tup, ↓w_lst, ↓w_bool, ↓w_tru, ↓w_notT, ↓w_andT, ↓w_orT, ↓w_if, ↓w_and, ↓w_or, ↓w_not, ↓w_chain, ↓wB_bl, ↓w_noPart, ↓w_part, ↓w_slice, ↓w_call, ↓wPlc_cons, ↓wOwn_own, ↓w_callIo, ↓isLst_lst, ↓w_meth, ↓w_ext, ↓wExt_ok, ↓ws_next, ↓ws_bk, ↓ws_ct, ↓ws_rt, ↓ws_nx, ↓ws_seq, ↓ws_drop, ↓ws_ret, ↓ws_if, ↓ws_set, ↓wSet_d, ↓wSet_fresh, ↓wSet_plc, ↓ws_asg, ↓wt_name, ↓wt_nil, ↓wt_cons, ↓wt_tup, ↓wt_lst, ↓wPar_two, ↓ws_par, ↓wLstS_own, ↓wInt_int, ↓ws_item, ↓ws_for, ↓w_zip, ↓w_iter, ↓wItems_lst, ↓wItems_tup, ↓w_rng, ↓wRet_d, ↓wRet_fresh, ↓wRet_plc, ↓wRetS_val, ↓wRetS_own, ↓wRetS_ownS, ↓wI_some, ↓wI_none, ↓wI_ite, List.getElem?_cons_zero, List.getElem?_cons_succ, List.set_cons_zero, List.set_cons_succ]
        refine ⟨_, f3, _, ?_, fun p hp' => ?_, hf3.mono (by omega), rfl⟩
        · rw [List.map_id, List.length_append]
          simp only [List.length_cons, List.length_nil]
          omega
        · rw [List.map_id] at hp'
          rcases List.mem_append.mp hp' with q | q
          · exact hp p (List.mem_filter.mp q).1
          · rw [List.mem_singleton.mp q]
            exact ⟨h, 1, rfl, by decide, hh⟩
    · exact ⟨m, f1, _, by omega, hp, hf1.mono (by omega), rfl⟩
  clear hm hp
  rintro _ ⟨m, f, s6, hm, hp, hf, rfl⟩
  have so := sort_ok (k := 4) (by omega) hp
  refine wz_cut (fun ρ => ρ = [x0, .own f, s2, s3, s4, .own (.lst m), s6, .val (.tup (m.mergeSort leP)), s8, .no]) ?_ ?_
  · simp (disch := assumption) only [↓w_var, ↓wVar_val, ↓wVar_own, ↓w_c, ↓w_nil, ↓w_cons, ↓w_app, ↓wViews_nil, ↓wViews_cons, ↓wView_d, ↓wView_fresh, ↓wView_plc, ↓wSlot_val, ↓wSlot_own, ↓wEsc_d, ↓wEsc_fresh, ↓wEsc_plc, ↓wEscS_val, ↓wEscS_own, ↓wEscs_nil, ↓wEscs_cons, ↓w_frz, ↓w_tup, ↓w_lst, ↓w_bool, ↓w_tru, ↓w_notT, ↓w_andT, ↓w_orT, ↓w_if, ↓w_and, ↓w_or, ↓w_not, ↓w_chain, ↓wB_bl, ↓w_noPart, ↓w_part, ↓w_slice, ↓w_call, ↓wPlc_cons, ↓wOwn_own, ↓w_callIo, ↓isLst_lst, ↓w_meth, ↓w_ext, ↓wExt_ok, ↓ws_next, ↓ws_bk, ↓ws_ct, ↓ws_rt, ↓ws_nx, ↓ws_seq, ↓ws_drop, ↓ws_ret, ↓ws_if, ↓ws_set, ↓wSet_d, ↓wSet_fresh, ↓wSet_plc, ↓ws_asg, ↓wt_name, ↓wt_nil, ↓wt_cons, ↓wt_tup, ↓wt_lst, ↓wPar_two, ↓ws_par, ↓wLstS_own, ↓wInt_int, ↓ws_item, ↓ws_for, ↓w_zip, ↓w_iter, ↓wItems_lst, ↓wItems_tup, ↓w_rng, ↓wRet_d, ↓wRet_fresh, ↓wRet_plc, ↓wRetS_val, ↓wRetS_own, ↓wRetS_ownS, ↓wI_some, ↓wI_none, ↓wI_ite, List.getElem?_cons_zero, List.getElem?_cons_succ, List.set_cons_zero, List.set_cons_succ, o_sorted, tup_of]
  rintro _ rfl
  have hp2 : ∀ p ∈ m.mergeSort leP, IsP 4 p := fun p hp' => hp p (List.mem_mergeSort.mp hp')
  have hm2 : (m.mergeSort leP).length ≤ 6 := by rw [List.length_mergeSort]; exact hm
  generalize m.mergeSort leP = g at hp2 hm2
  have rg := growth_rep (k := 4) (by omega) (by omega) hp2
  have e1 := hD4 g (by omega) hp2
  have e2 := hL 4 g (by omega) (by omega) hp2
  have hx := mx_le (g := fun p => DL.hD 4 (first p)) (k := 4) (fun d => hD_le 4 _) g
  have ri : repOk (.int ((mx (fun p => DL.hD 4 (first p)) g : Nat) : Int)) = true := (shw_int (Nat.le_trans (show nb (mx (fun p => DL.hD 4 (first p)) g) ≤ nb 4 from nb_mono hx) (by decide))).ok
  refine wz_of ?_
  simp (disch := assumption) only [↓w_var, ↓wVar_val, ↓wVar_own, ↓w_c, ↓w_nil, ↓w_cons, ↓w_app, ↓wViews_nil, ↓wViews_cons, ↓wView_d, ↓wView_fresh, ↓wView_plc, ↓wSlot_val, ↓wSlot_own, ↓wEsc_d, ↓wEsc_fresh, ↓wEsc_plc, ↓wEscS_val, ↓wEscS_own, ↓wEscs_nil, ↓wEscs_cons, ↓w_frz, ↓w_tup, ↓w_lst, ↓w_bool, ↓w_tru, ↓w_notT, ↓w_andT, ↓w_orT, ↓w_if, ↓w_and, ↓w_or, ↓w_not, ↓w_chain, ↓wB_bl, ↓w_noPart, ↓w_part, ↓w_slice, ↓w_call, ↓wPlc_cons, ↓wOwn_own, ↓w_callIo, ↓isLst_lst, ↓w_meth, ↓w_ext, ↓wExt_ok, ↓ws_next, ↓ws_bk, ↓ws_ct, ↓ws_rt, ↓ws_nx, ↓ws_seq, ↓ws_drop, ↓ws_ret, ↓ws_if, ↓ws_set, ↓wSet_d, ↓wSet_fresh, ↓wSet_plc, ↓ws_asg, ↓wt_name, ↓wt_nil, ↓wt_cons, ↓wt_tup, ↓wt_lst, ↓wPar_two, ↓ws_par, ↓wLstS_own, ↓wInt_int, ↓ws_item, ↓ws_for, ↓w_zip, ↓w_iter, ↓wItems_lst, ↓wItems_tup, ↓w_rng, ↓wRet_d, ↓wRet_fresh, ↓wRet_plc, ↓wRetS_val, ↓wRetS_own, ↓wRetS_ownS, ↓wI_some, ↓wI_none, ↓wI_ite, List.getElem?_cons_zero, List.getElem?_cons_succ, List.set_cons_zero, List.set_cons_succ, o_reprK, e1, e2, wF0_ok, o_neR, Bool.false_eq_true, ↓reduceIte]
  exact hP _ _ _ _ _ (hf.mono (by omega))
theorem law1 (l : List Int) (hl : l.length ≤ 63) (n : Nat) : wF0 (cc (n + 20) 22 [.lst (l.map .int)]) (fun r => r = .d (.bl true)) (fun _ => False) := by
  have hF : FeedS (cc (n + 19) 9) := _law_feed_i (n + 18)
  have hN : NextS (cc (n + 19) 10) := _law_next_i (n + 18)
  have hG : GrowthS 3 (cc (n + 19) 19) := by
    have h := (draws (n + 7) 3 (by omega)).2
    rw [show n + 7 + 2 * 3 + 6 = n + 19 by omega] at h
    exact h
  have hL : LayersE (cc (n + 19) 21) := _law_depth_i (n + 18)
  have hD4 : DepthE 4 (cc (n + 19) 8) := by
    have h := depthE (n + 14) 4 (by omega)
    rw [show n + 14 + 4 + 1 = n + 19 by omega] at h
    exact h
  have hD0 : DepthE 0 (cc (n + 19) 8) := by
    have h := depthE (n + 18) 0 (by omega)
    rw [show n + 18 + 0 + 1 = n + 19 by omega] at h
    exact h
  rw [call22]
  refine w_run0 rfl ?_
  show wS (b22 _ [Sl.val (.lst (l.map .int)), .no, .no, .no, .no, .no, .no, .no, .no, .no]) _
  unfold b22
  refine of_wz ?_
  refine wz_cut (fun ρ => ∃ f, Fd 0 f ∧ ρ = [Sl.val (.lst (l.map .int)), .own f, .no, .no, .no, .no, .no, .no, .no, .no]) ?_ ?_
  · simp only [↓w_var, ↓wVar_val, ↓wVar_own, ↓w_c, ↓w_nil, ↓w_cons, ↓w_app, ↓wViews_nil, ↓wViews_cons, ↓wView_d, ↓wView_fresh, ↓wView_plc, ↓wSlot_val, ↓wSlot_own, ↓wEsc_d, ↓wEsc_fresh, ↓wEsc_plc, ↓wEscS_val, ↓wEscS_own, ↓wEscs_nil, ↓wEscs_cons, ↓w_frz, ↓w_tup, ↓w_lst, ↓w_bool, ↓w_tru, ↓w_notT, ↓w_andT, ↓w_orT, ↓w_if, ↓w_and, ↓w_or, ↓w_not, ↓w_chain, ↓wB_bl, ↓w_noPart, ↓w_part, ↓w_slice, ↓w_call, ↓wPlc_cons, ↓wOwn_own, ↓w_callIo, ↓isLst_lst, ↓w_meth, ↓w_ext, ↓wExt_ok, ↓ws_next, ↓ws_bk, ↓ws_ct, ↓ws_rt, ↓ws_nx, ↓ws_seq, ↓ws_drop, ↓ws_ret, ↓ws_if, ↓ws_set, ↓wSet_d, ↓wSet_fresh, ↓wSet_plc, ↓ws_asg, ↓wt_name, ↓wt_nil, ↓wt_cons, ↓wt_tup, ↓wt_lst, ↓wPar_two, ↓ws_par, ↓wLstS_own, ↓wInt_int, ↓ws_item, ↓ws_for, ↓w_zip, ↓w_iter, ↓wItems_lst, ↓wItems_tup, ↓w_rng, ↓wRet_d, ↓wRet_fresh, ↓wRet_plc, ↓wRetS_val, ↓wRetS_own, ↓wRetS_ownS, ↓wI_some, ↓wI_none, ↓wI_ite, List.getElem?_cons_zero, List.getElem?_cons_succ, List.set_cons_zero, List.set_cons_succ]
    refine hF _ _ _ (by omega) fun f hf => ?_
    simp only [↓w_var, ↓wVar_val, ↓wVar_own, ↓w_c, ↓w_nil, ↓w_cons, ↓w_app, ↓wViews_nil, ↓wViews_cons, ↓wView_d, ↓wView_fresh, ↓wView_plc, ↓wSlot_val, ↓wSlot_own, ↓wEsc_d, ↓wEsc_fresh, ↓wEsc_plc, ↓wEscS_val, ↓wEscS_own, ↓wEscs_nil, ↓wEscs_cons, ↓w_frz, ↓w_tup, ↓w_lst, ↓w_bool, ↓w_tru, ↓w_notT, ↓w_andT, ↓w_orT, ↓w_if, ↓w_and, ↓w_or, ↓w_not, ↓w_chain, ↓wB_bl, ↓w_noPart, ↓w_part, ↓w_slice, ↓w_call, ↓wPlc_cons, ↓wOwn_own, ↓w_callIo, ↓isLst_lst, ↓w_meth, ↓w_ext, ↓wExt_ok, ↓ws_next, ↓ws_bk, ↓ws_ct, ↓ws_rt, ↓ws_nx, ↓ws_seq, ↓ws_drop, ↓ws_ret, ↓ws_if, ↓ws_set, ↓wSet_d, ↓wSet_fresh, ↓wSet_plc, ↓ws_asg, ↓wt_name, ↓wt_nil, ↓wt_cons, ↓wt_tup, ↓wt_lst, ↓wPar_two, ↓ws_par, ↓wLstS_own, ↓wInt_int, ↓ws_item, ↓ws_for, ↓w_zip, ↓w_iter, ↓wItems_lst, ↓wItems_tup, ↓w_rng, ↓wRet_d, ↓wRet_fresh, ↓wRet_plc, ↓wRetS_val, ↓wRetS_own, ↓wRetS_ownS, ↓wI_some, ↓wI_none, ↓wI_ite, List.getElem?_cons_zero, List.getElem?_cons_succ, List.set_cons_zero, List.set_cons_succ]
    exact ⟨f, hf, rfl⟩
  rintro _ ⟨f, hf, rfl⟩
  refine wz_cut (fun ρ => ρ = [Sl.val (.lst (l.map .int)), .own f, .val (.tup [.int 0, .int 1]), .no, .no, .no, .no, .no, .no, .no]) ?_ ?_
  · simp only [↓w_var, ↓wVar_val, ↓wVar_own, ↓w_c, ↓w_nil, ↓w_cons, ↓w_app, ↓wViews_nil, ↓wViews_cons, ↓wView_d, ↓wView_fresh, ↓wView_plc, ↓wSlot_val, ↓wSlot_own, ↓wEsc_d, ↓wEsc_fresh, ↓wEsc_plc, ↓wEscS_val, ↓wEscS_own, ↓wEscs_nil, ↓wEscs_cons, ↓w_frz, ↓w_tup, ↓w_lst, ↓w_bool, ↓w_tru, ↓w_notT, ↓w_andT, ↓w_orT, ↓w_if, ↓w_and, ↓w_or, ↓w_not, ↓w_chain, ↓wB_bl, ↓w_noPart, ↓w_part, ↓w_slice, ↓w_call, ↓wPlc_cons, ↓wOwn_own, ↓w_callIo, ↓isLst_lst, ↓w_meth, ↓w_ext, ↓wExt_ok, ↓ws_next, ↓ws_bk, ↓ws_ct, ↓ws_rt, ↓ws_nx, ↓ws_seq, ↓ws_drop, ↓ws_ret, ↓ws_if, ↓ws_set, ↓wSet_d, ↓wSet_fresh, ↓wSet_plc, ↓ws_asg, ↓wt_name, ↓wt_nil, ↓wt_cons, ↓wt_tup, ↓wt_lst, ↓wPar_two, ↓ws_par, ↓wLstS_own, ↓wInt_int, ↓ws_item, ↓ws_for, ↓w_zip, ↓w_iter, ↓wItems_lst, ↓wItems_tup, ↓w_rng, ↓wRet_d, ↓wRet_fresh, ↓wRet_plc, ↓wRetS_val, ↓wRetS_own, ↓wRetS_ownS, ↓wI_some, ↓wI_none, ↓wI_ite, List.getElem?_cons_zero, List.getElem?_cons_succ, List.set_cons_zero, List.set_cons_succ]
  rintro _ rfl
  refine wz_cut (fun ρ => ρ = [Sl.val (.lst (l.map .int)), .own f, .val (.tup [.int 0, .int 1]), .own (.lst (rungs.take 1)), .no, .no, .no, .no, .no, .no]) ?_ ?_
  · simp only [↓w_var, ↓wVar_val, ↓wVar_own, ↓w_c, ↓w_nil, ↓w_cons, ↓w_app, ↓wViews_nil, ↓wViews_cons, ↓wView_d, ↓wView_fresh, ↓wView_plc, ↓wSlot_val, ↓wSlot_own, ↓wEsc_d, ↓wEsc_fresh, ↓wEsc_plc, ↓wEscS_val, ↓wEscS_own, ↓wEscs_nil, ↓wEscs_cons, ↓w_frz, ↓w_tup, ↓w_lst, ↓w_bool, ↓w_tru, ↓w_notT, ↓w_andT, ↓w_orT, ↓w_if, ↓w_and, ↓w_or, ↓w_not, ↓w_chain, ↓wB_bl, ↓w_noPart, ↓w_part, ↓w_slice, ↓w_call, ↓wPlc_cons, ↓wOwn_own, ↓w_callIo, ↓isLst_lst, ↓w_meth, ↓w_ext, ↓wExt_ok, ↓ws_next, ↓ws_bk, ↓ws_ct, ↓ws_rt, ↓ws_nx, ↓ws_seq, ↓ws_drop, ↓ws_ret, ↓ws_if, ↓ws_set, ↓wSet_d, ↓wSet_fresh, ↓wSet_plc, ↓ws_asg, ↓wt_name, ↓wt_nil, ↓wt_cons, ↓wt_tup, ↓wt_lst, ↓wPar_two, ↓ws_par, ↓wLstS_own, ↓wInt_int, ↓ws_item, ↓ws_for, ↓w_zip, ↓w_iter, ↓wItems_lst, ↓wItems_tup, ↓w_rng, ↓wRet_d, ↓wRet_fresh, ↓wRet_plc, ↓wRetS_val, ↓wRetS_own, ↓wRetS_ownS, ↓wI_some, ↓wI_none, ↓wI_ite, List.getElem?_cons_zero, List.getElem?_cons_succ, List.set_cons_zero, List.set_cons_succ]
    rfl
  rintro _ rfl
  refine wz_cut (fun ρ => ∃ z4, ρ = [Sl.val (.lst (l.map .int)), .own f, .val (.tup [.int 0, .int 1]), .own (.lst rungs), z4, .no, .no, .no, .no, .no]) ?_ ?_
  · simp (disch := omega) only [↓w_var, ↓wVar_val, ↓wVar_own, ↓w_c, ↓w_nil, ↓w_cons, ↓w_app, ↓wViews_nil, ↓wViews_cons, ↓wView_d, ↓wView_fresh, ↓wView_plc, ↓wSlot_val, ↓wSlot_own, ↓wEsc_d, ↓wEsc_fresh, ↓wEsc_plc, ↓wEscS_val, ↓wEscS_own, ↓wEscs_nil, ↓wEscs_cons, ↓w_frz, ↓w_tup, ↓w_lst, ↓w_bool, ↓w_tru, ↓w_notT, ↓w_andT, ↓w_orT, ↓w_if, ↓w_and, ↓w_or, ↓w_not, ↓w_chain, ↓wB_bl, ↓w_noPart, ↓w_part, ↓w_slice, ↓w_call, ↓wPlc_cons, ↓wOwn_own, ↓w_callIo, ↓isLst_lst, ↓w_meth, ↓w_ext, ↓wExt_ok, ↓ws_next, ↓ws_bk, ↓ws_ct, ↓ws_rt, ↓ws_nx, ↓ws_seq, ↓ws_drop, ↓ws_ret, ↓ws_if, ↓ws_set, ↓wSet_d, ↓wSet_fresh, ↓wSet_plc, ↓ws_asg, ↓wt_name, ↓wt_nil, ↓wt_cons, ↓wt_tup, ↓wt_lst, ↓wPar_two, ↓ws_par, ↓wLstS_own, ↓wInt_int, ↓ws_item, ↓ws_for, ↓w_zip, ↓w_iter, ↓wItems_lst, ↓wItems_tup, ↓w_rng, ↓wRet_d, ↓wRet_fresh, ↓wRet_plc, ↓wRetS_val, ↓wRetS_own, ↓wRetS_ownS, ↓wI_some, ↓wI_none, ↓wI_ite, List.getElem?_cons_zero, List.getElem?_cons_succ, List.set_cons_zero, List.set_cons_succ, intsR1, rngD1]
    refine for_inv (fun ds ρ => ∃ (i : Nat) (z4 : Sl), i ≤ 4 ∧ ds = [D.int 0, .int 1, .int 2, .int 3].drop i ∧ ρ = [Sl.val (.lst (l.map .int)), .own f, .val (.tup [.int 0, .int 1]), .own (.lst (rungs.take (i + 1))), z4, .no, .no, .no, .no, .no]) ⟨0, _, by omega, rfl, rfl⟩ ?_ ?_
    · rintro d ds ρ ⟨i, z4, hi, hds, rfl⟩
      have hl5 : (rungs.take (i + 1)).length ≤ 1000000 := by
        have : rungs.length = 5 := rfl
        rw [List.length_take]
        omega
      match i, hi with
      | 0, _ =>
        cases hds
        simp (disch := first | assumption | (simp <;> omega) | omega) only [↓w_var, ↓wVar_val, ↓wVar_own, ↓w_c, ↓w_nil, ↓w_cons, ↓w_app, ↓wViews_nil, ↓wViews_cons, ↓wView_d, ↓wView_fresh, ↓wView_plc, ↓wSlot_val, ↓wSlot_own, ↓wEsc_d, ↓wEsc_fresh, ↓wEsc_plc, ↓wEscS_val, ↓wEscS_own, ↓wEscs_nil, ↓wEscs_cons, ↓w_frz, ↓w_tup, ↓w_lst, ↓w_bool, ↓w_tru, ↓w_notT, ↓w_andT, ↓w_orT, ↓w_if, ↓w_and, ↓w_or, ↓w_not, ↓w_chain, ↓wB_bl, ↓w_noPart, ↓w_part, ↓w_slice, ↓w_call, ↓wPlc_cons, ↓wOwn_own, ↓w_callIo, ↓isLst_lst, ↓w_meth, ↓w_ext, ↓wExt_ok, ↓ws_next, ↓ws_bk, ↓ws_ct, ↓ws_rt, ↓ws_nx, ↓ws_seq, ↓ws_drop, ↓ws_ret, ↓ws_if, ↓ws_set, ↓wSet_d, ↓wSet_fresh, ↓wSet_plc, ↓ws_asg, ↓wt_name, ↓wt_nil, ↓wt_cons, ↓wt_tup, ↓wt_lst, ↓wPar_two, ↓ws_par, ↓wLstS_own, ↓wInt_int, ↓ws_item, ↓ws_for, ↓w_zip, ↓w_iter, ↓wItems_lst, ↓wItems_tup, ↓w_rng, ↓wRet_d, ↓wRet_fresh, ↓wRet_plc, ↓wRetS_val, ↓wRetS_own, ↓wRetS_ownS, ↓wI_some, ↓wI_none, ↓wI_ite, List.getElem?_cons_zero, List.getElem?_cons_succ, List.set_cons_zero, List.set_cons_succ, o_sub, o_mulT1, o_addT, m_append]
        exact ⟨1, _, by omega, rfl, rfl⟩
      | 1, _ =>
        cases hds
        simp (disch := first | assumption | (simp <;> omega) | omega) only [↓w_var, ↓wVar_val, ↓wVar_own, ↓w_c, ↓w_nil, ↓w_cons, ↓w_app, ↓wViews_nil, ↓wViews_cons, ↓wView_d, ↓wView_fresh, ↓wView_plc, ↓wSlot_val, ↓wSlot_own, ↓wEsc_d, ↓wEsc_fresh, ↓wEsc_plc, ↓wEscS_val, ↓wEscS_own, ↓wEscs_nil, ↓wEscs_cons, ↓w_frz, ↓w_tup, ↓w_lst, ↓w_bool, ↓w_tru, ↓w_notT, ↓w_andT, ↓w_orT, ↓w_if, ↓w_and, ↓w_or, ↓w_not, ↓w_chain, ↓wB_bl, ↓w_noPart, ↓w_part, ↓w_slice, ↓w_call, ↓wPlc_cons, ↓wOwn_own, ↓w_callIo, ↓isLst_lst, ↓w_meth, ↓w_ext, ↓wExt_ok, ↓ws_next, ↓ws_bk, ↓ws_ct, ↓ws_rt, ↓ws_nx, ↓ws_seq, ↓ws_drop, ↓ws_ret, ↓ws_if, ↓ws_set, ↓wSet_d, ↓wSet_fresh, ↓wSet_plc, ↓ws_asg, ↓wt_name, ↓wt_nil, ↓wt_cons, ↓wt_tup, ↓wt_lst, ↓wPar_two, ↓ws_par, ↓wLstS_own, ↓wInt_int, ↓ws_item, ↓ws_for, ↓w_zip, ↓w_iter, ↓wItems_lst, ↓wItems_tup, ↓w_rng, ↓wRet_d, ↓wRet_fresh, ↓wRet_plc, ↓wRetS_val, ↓wRetS_own, ↓wRetS_ownS, ↓wI_some, ↓wI_none, ↓wI_ite, List.getElem?_cons_zero, List.getElem?_cons_succ, List.set_cons_zero, List.set_cons_succ, o_sub, o_mulT1, o_addT, m_append]
        exact ⟨2, _, by omega, rfl, rfl⟩
      | 2, _ =>
        cases hds
        simp (disch := first | assumption | (simp <;> omega) | omega) only [↓w_var, ↓wVar_val, ↓wVar_own, ↓w_c, ↓w_nil, ↓w_cons, ↓w_app, ↓wViews_nil, ↓wViews_cons, ↓wView_d, ↓wView_fresh, ↓wView_plc, ↓wSlot_val, ↓wSlot_own, ↓wEsc_d, ↓wEsc_fresh, ↓wEsc_plc, ↓wEscS_val, ↓wEscS_own, ↓wEscs_nil, ↓wEscs_cons, ↓w_frz, ↓w_tup, ↓w_lst, ↓w_bool, ↓w_tru, ↓w_notT, ↓w_andT, ↓w_orT, ↓w_if, ↓w_and, ↓w_or, ↓w_not, ↓w_chain, ↓wB_bl, ↓w_noPart, ↓w_part, ↓w_slice, ↓w_call, ↓wPlc_cons, ↓wOwn_own, ↓w_callIo, ↓isLst_lst, ↓w_meth, ↓w_ext, ↓wExt_ok, ↓ws_next, ↓ws_bk, ↓ws_ct, ↓ws_rt, ↓ws_nx, ↓ws_seq, ↓ws_drop, ↓ws_ret, ↓ws_if, ↓ws_set, ↓wSet_d, ↓wSet_fresh, ↓wSet_plc, ↓ws_asg, ↓wt_name, ↓wt_nil, ↓wt_cons, ↓wt_tup, ↓wt_lst, ↓wPar_two, ↓ws_par, ↓wLstS_own, ↓wInt_int, ↓ws_item, ↓ws_for, ↓w_zip, ↓w_iter, ↓wItems_lst, ↓wItems_tup, ↓w_rng, ↓wRet_d, ↓wRet_fresh, ↓wRet_plc, ↓wRetS_val, ↓wRetS_own, ↓wRetS_ownS, ↓wI_some, ↓wI_none, ↓wI_ite, List.getElem?_cons_zero, List.getElem?_cons_succ, List.set_cons_zero, List.set_cons_succ, o_sub, o_mulT1, o_addT, m_append]
        exact ⟨3, _, by omega, rfl, rfl⟩
      | 3, _ =>
        cases hds
        simp (disch := first | assumption | (simp <;> omega) | omega) only [↓w_var, ↓wVar_val, ↓wVar_own, ↓w_c, ↓w_nil, ↓w_cons, ↓w_app, ↓wViews_nil, ↓wViews_cons, ↓wView_d, ↓wView_fresh, ↓wView_plc, ↓wSlot_val, ↓wSlot_own, ↓wEsc_d, ↓wEsc_fresh, ↓wEsc_plc, ↓wEscS_val, ↓wEscS_own, ↓wEscs_nil, ↓wEscs_cons, ↓w_frz, ↓w_tup, ↓w_lst, ↓w_bool, ↓w_tru, ↓w_notT, ↓w_andT, ↓w_orT, ↓w_if, ↓w_and, ↓w_or, ↓w_not, ↓w_chain, ↓wB_bl, ↓w_noPart, ↓w_part, ↓w_slice, ↓w_call, ↓wPlc_cons, ↓wOwn_own, ↓w_callIo, ↓isLst_lst, ↓w_meth, ↓w_ext, ↓wExt_ok, ↓ws_next, ↓ws_bk, ↓ws_ct, ↓ws_rt, ↓ws_nx, ↓ws_seq, ↓ws_drop, ↓ws_ret, ↓ws_if, ↓ws_set, ↓wSet_d, ↓wSet_fresh, ↓wSet_plc, ↓ws_asg, ↓wt_name, ↓wt_nil, ↓wt_cons, ↓wt_tup, ↓wt_lst, ↓wPar_two, ↓ws_par, ↓wLstS_own, ↓wInt_int, ↓ws_item, ↓ws_for, ↓w_zip, ↓w_iter, ↓wItems_lst, ↓wItems_tup, ↓w_rng, ↓wRet_d, ↓wRet_fresh, ↓wRet_plc, ↓wRetS_val, ↓wRetS_own, ↓wRetS_ownS, ↓wI_some, ↓wI_none, ↓wI_ite, List.getElem?_cons_zero, List.getElem?_cons_succ, List.set_cons_zero, List.set_cons_succ, o_sub, o_mulT1, o_addT, m_append]
        exact ⟨4, _, by omega, rfl, rfl⟩
      | 4, _ => cases hds
    · rintro ρ ⟨i, z4, hi, hds, rfl⟩
      match i, hi with
      | 0, _ => cases hds
      | 1, _ => cases hds
      | 2, _ => cases hds
      | 3, _ => cases hds
      | 4, _ => exact ⟨_, rfl⟩
  rintro _ ⟨z4, rfl⟩
  have eR : kRUNGS = .tup rungs := rfl
  have rR : repOk (.tup rungs) = true := by
    rw [← eR]
    exact rungs_rep
  refine wz_cut (fun ρ => ∃ s3, ρ = [Sl.val (.lst (l.map .int)), .own f, .val (.tup [.int 0, .int 1]), s3, z4, .no, .no, .no, .no, .no]) ?_ ?_
  · simp (disch := assumption) only [↓w_var, ↓wVar_val, ↓wVar_own, ↓w_c, ↓w_nil, ↓w_cons, ↓w_app, ↓wViews_nil, ↓wViews_cons, ↓wView_d, ↓wView_fresh, ↓wView_plc, ↓wSlot_val, ↓wSlot_own, ↓wEsc_d, ↓wEsc_fresh, ↓wEsc_plc, ↓wEscS_val, ↓wEscS_own, ↓wEscs_nil, ↓wEscs_cons, ↓w_frz, ↓w_tup, ↓w_lst, ↓w_bool, ↓w_tru, ↓w_notT, ↓w_andT, ↓w_orT, ↓w_if, ↓w_and, ↓w_or, ↓w_not, ↓w_chain, ↓wB_bl, ↓w_noPart, ↓w_part, ↓w_slice, ↓w_call, ↓wPlc_cons, ↓wOwn_own, ↓w_callIo, ↓isLst_lst, ↓w_meth, ↓w_ext, ↓wExt_ok, ↓ws_next, ↓ws_bk, ↓ws_ct, ↓ws_rt, ↓ws_nx, ↓ws_seq, ↓ws_drop, ↓ws_ret, ↓ws_if, ↓ws_set, ↓wSet_d, ↓wSet_fresh, ↓wSet_plc, ↓ws_asg, ↓wt_name, ↓wt_nil, ↓wt_cons, ↓wt_tup, ↓wt_lst, ↓wPar_two, ↓ws_par, ↓wLstS_own, ↓wInt_int, ↓ws_item, ↓ws_for, ↓w_zip, ↓w_iter, ↓wItems_lst, ↓wItems_tup, ↓w_rng, ↓wRet_d, ↓wRet_fresh, ↓wRet_plc, ↓wRetS_val, ↓wRetS_own, ↓wRetS_ownS, ↓wI_some, ↓wI_none, ↓wI_ite, List.getElem?_cons_zero, List.getElem?_cons_succ, List.set_cons_zero, List.set_cons_succ, eR, o_reprK, tup_of, o_neR, Bool.false_eq_true, ↓reduceIte]
    refine comp_map (fun _ => .bl true) ?_
    simp only [↓w_var, ↓wVar_val, ↓wVar_own, ↓w_c, ↓w_nil, ↓w_cons, ↓w_app, ↓wViews_nil, ↓wViews_cons, ↓wView_d, ↓wView_fresh, ↓wView_plc, ↓wSlot_val, ↓wSlot_own, ↓wEsc_d, ↓wEsc_fresh, ↓wEsc_plc, ↓wEscS_val, ↓wEscS_own, ↓wEscs_nil, ↓wEscs_cons, ↓w_frz, ↓w_tup, ↓w_lst, ↓w_bool, ↓w_tru, ↓w_notT, ↓w_andT, ↓w_orT, ↓w_if, ↓w_and, ↓w_or, ↓w_not, ↓w_chain, ↓wB_bl, ↓w_noPart, ↓w_part, ↓w_slice, ↓w_call, ↓wPlc_cons, ↓wOwn_own, ↓w_callIo, ↓isLst_lst, ↓w_meth, ↓w_ext, ↓wExt_ok, ↓ws_next, ↓ws_bk, ↓ws_ct, ↓ws_rt, ↓ws_nx, ↓ws_seq, ↓ws_drop, ↓ws_ret, ↓ws_if, ↓ws_set, ↓wSet_d, ↓wSet_fresh, ↓wSet_plc, ↓ws_asg, ↓wt_name, ↓wt_nil, ↓wt_cons, ↓wt_tup, ↓wt_lst, ↓wPar_two, ↓ws_par, ↓wLstS_own, ↓wInt_int, ↓ws_item, ↓ws_for, ↓w_zip, ↓w_iter, ↓wItems_lst, ↓wItems_tup, ↓w_rng, ↓wRet_d, ↓wRet_fresh, ↓wRet_plc, ↓wRetS_val, ↓wRetS_own, ↓wRetS_ownS, ↓wI_some, ↓wI_none, ↓wI_ite, List.getElem?_cons_zero, List.getElem?_cons_succ, List.set_cons_zero, List.set_cons_succ]
    refine ⟨Nat.le_of_ble_eq_true rfl, fun d hd => ?_, ?_⟩
    · have ro : cc (n + 19) 7 [d] = .ok (.d (.bl true)) none := rung_ok (n + 15) hd
      simp only [↓w_var, ↓wVar_val, ↓wVar_own, ↓w_c, ↓w_nil, ↓w_cons, ↓w_app, ↓wViews_nil, ↓wViews_cons, ↓wView_d, ↓wView_fresh, ↓wView_plc, ↓wSlot_val, ↓wSlot_own, ↓wEsc_d, ↓wEsc_fresh, ↓wEsc_plc, ↓wEscS_val, ↓wEscS_own, ↓wEscs_nil, ↓wEscs_cons, ↓w_frz, ↓w_tup, ↓w_lst, ↓w_bool, ↓w_tru, ↓w_notT, ↓w_andT, ↓w_orT, ↓w_if, ↓w_and, ↓w_or, ↓w_not, ↓w_chain, ↓wB_bl, ↓w_noPart, ↓w_part, ↓w_slice, ↓w_call, ↓wPlc_cons, ↓wOwn_own, ↓w_callIo, ↓isLst_lst, ↓w_meth, ↓w_ext, ↓wExt_ok, ↓ws_next, ↓ws_bk, ↓ws_ct, ↓ws_rt, ↓ws_nx, ↓ws_seq, ↓ws_drop, ↓ws_ret, ↓ws_if, ↓ws_set, ↓wSet_d, ↓wSet_fresh, ↓wSet_plc, ↓ws_asg, ↓wt_name, ↓wt_nil, ↓wt_cons, ↓wt_tup, ↓wt_lst, ↓wPar_two, ↓ws_par, ↓wLstS_own, ↓wInt_int, ↓ws_item, ↓ws_for, ↓w_zip, ↓w_iter, ↓wItems_lst, ↓wItems_tup, ↓w_rng, ↓wRet_d, ↓wRet_fresh, ↓wRet_plc, ↓wRetS_val, ↓wRetS_own, ↓wRetS_ownS, ↓wI_some, ↓wI_none, ↓wI_ite, List.getElem?_cons_zero, List.getElem?_cons_succ, List.set_cons_zero, List.set_cons_succ, ro, wF0_ok]
      exact ⟨trivial, trivial⟩
    · simp only [↓w_var, ↓wVar_val, ↓wVar_own, ↓w_c, ↓w_nil, ↓w_cons, ↓w_app, ↓wViews_nil, ↓wViews_cons, ↓wView_d, ↓wView_fresh, ↓wView_plc, ↓wSlot_val, ↓wSlot_own, ↓wEsc_d, ↓wEsc_fresh, ↓wEsc_plc, ↓wEscS_val, ↓wEscS_own, ↓wEscs_nil, ↓wEscs_cons, ↓w_frz, ↓w_tup, ↓w_lst, ↓w_bool, ↓w_tru, ↓w_notT, ↓w_andT, ↓w_orT, ↓w_if, ↓w_and, ↓w_or, ↓w_not, ↓w_chain, ↓wB_bl, ↓w_noPart, ↓w_part, ↓w_slice, ↓w_call, ↓wPlc_cons, ↓wOwn_own, ↓w_callIo, ↓isLst_lst, ↓w_meth, ↓w_ext, ↓wExt_ok, ↓ws_next, ↓ws_bk, ↓ws_ct, ↓ws_rt, ↓ws_nx, ↓ws_seq, ↓ws_drop, ↓ws_ret, ↓ws_if, ↓ws_set, ↓wSet_d, ↓wSet_fresh, ↓wSet_plc, ↓ws_asg, ↓wt_name, ↓wt_nil, ↓wt_cons, ↓wt_tup, ↓wt_lst, ↓wPar_two, ↓ws_par, ↓wLstS_own, ↓wInt_int, ↓ws_item, ↓ws_for, ↓w_zip, ↓w_iter, ↓wItems_lst, ↓wItems_tup, ↓w_rng, ↓wRet_d, ↓wRet_fresh, ↓wRet_plc, ↓wRetS_val, ↓wRetS_own, ↓wRetS_ownS, ↓wI_some, ↓wI_none, ↓wI_ite, List.getElem?_cons_zero, List.getElem?_cons_succ, List.set_cons_zero, List.set_cons_succ, oin_f, Bool.false_eq_true, ↓reduceIte]
      exact ⟨_, rfl⟩
  rintro _ ⟨s3, rfl⟩
  refine wz_cut (fun ρ => True) ?_ ?_
  · simp (disch := omega) only [↓w_var, ↓wVar_val, ↓wVar_own, ↓w_c, ↓w_nil, ↓w_cons, ↓w_app, ↓wViews_nil, ↓wViews_cons, ↓wView_d, ↓wView_fresh, ↓wView_plc, ↓wSlot_val, ↓wSlot_own, ↓wEsc_d, ↓wEsc_fresh, ↓wEsc_plc, ↓wEscS_val, ↓wEscS_own, ↓wEscs_nil, ↓wEscs_cons, ↓w_frz, ↓w_tup, ↓w_lst, ↓w_bool, ↓w_tru, ↓w_notT, ↓w_andT, ↓w_orT, ↓w_if, ↓w_and, ↓w_or, ↓w_not, ↓w_chain, ↓wB_bl, ↓w_noPart, ↓w_part, ↓w_slice, ↓w_call, ↓wPlc_cons, ↓wOwn_own, ↓w_callIo, ↓isLst_lst, ↓w_meth, ↓w_ext, ↓wExt_ok, ↓ws_next, ↓ws_bk, ↓ws_ct, ↓ws_rt, ↓ws_nx, ↓ws_seq, ↓ws_drop, ↓ws_ret, ↓ws_if, ↓ws_set, ↓wSet_d, ↓wSet_fresh, ↓wSet_plc, ↓ws_asg, ↓wt_name, ↓wt_nil, ↓wt_cons, ↓wt_tup, ↓wt_lst, ↓wPar_two, ↓ws_par, ↓wLstS_own, ↓wInt_int, ↓ws_item, ↓ws_for, ↓w_zip, ↓w_iter, ↓wItems_lst, ↓wItems_tup, ↓w_rng, ↓wRet_d, ↓wRet_fresh, ↓wRet_plc, ↓wRetS_val, ↓wRetS_own, ↓wRetS_ownS, ↓wI_some, ↓wI_none, ↓wI_ite, List.getElem?_cons_zero, List.getElem?_cons_succ, List.set_cons_zero, List.set_cons_succ, intsR1, rngD1]
    refine for_inv (fun ds ρ => ds.length ≤ 8 ∧ ∃ f s4 s5 s6 s7 s8, Fd (2000 * (8 - ds.length)) f ∧ ρ = [Sl.val (.lst (l.map .int)), .own f, .val (.tup [.int 0, .int 1]), s3, s4, s5, s6, s7, s8, .no]) ⟨by simp [rangeD], f, _, _, _, _, _, hf.mono (by omega), rfl⟩ ?_ ?_
    · rintro d ds ρ ⟨hn, f, s4, s5, s6, s7, s8, hf, rfl⟩
      rw [List.length_cons] at hn hf
      simp only [↓wt_name, List.set_cons_succ, List.set_cons_zero]
      exact turn n (2000 * (8 - (ds.length + 1))) _ hf (by omega) fun f s5 s6 s7 s8 hf => ⟨by omega, f, _, _, _, _, _, hf.mono (by omega), rfl⟩
    · rintro ρ _
      trivial
  rintro ρ _
  refine wz_of ?_
  have e0 := hD0 [] (by simp) (fun p hp => by cases hp)
  have em : mx (fun p => DL.hD 0 (first p)) [] = 0 := rfl
  rw [em] at e0
  have r0 := zero_rep
  have s0 := zero_shown
  simp (disch := assumption) only [↓w_var, ↓wVar_val, ↓wVar_own, ↓w_c, ↓w_nil, ↓w_cons, ↓w_app, ↓wViews_nil, ↓wViews_cons, ↓wView_d, ↓wView_fresh, ↓wView_plc, ↓wSlot_val, ↓wSlot_own, ↓wEsc_d, ↓wEsc_fresh, ↓wEsc_plc, ↓wEscS_val, ↓wEscS_own, ↓wEscs_nil, ↓wEscs_cons, ↓w_frz, ↓w_tup, ↓w_lst, ↓w_bool, ↓w_tru, ↓w_notT, ↓w_andT, ↓w_orT, ↓w_if, ↓w_and, ↓w_or, ↓w_not, ↓w_chain, ↓wB_bl, ↓w_noPart, ↓w_part, ↓w_slice, ↓w_call, ↓wPlc_cons, ↓wOwn_own, ↓w_callIo, ↓isLst_lst, ↓w_meth, ↓w_ext, ↓wExt_ok, ↓ws_next, ↓ws_bk, ↓ws_ct, ↓ws_rt, ↓ws_nx, ↓ws_seq, ↓ws_drop, ↓ws_ret, ↓ws_if, ↓ws_set, ↓wSet_d, ↓wSet_fresh, ↓wSet_plc, ↓ws_asg, ↓wt_name, ↓wt_nil, ↓wt_cons, ↓wt_tup, ↓wt_lst, ↓wPar_two, ↓ws_par, ↓wLstS_own, ↓wInt_int, ↓ws_item, ↓ws_for, ↓w_zip, ↓w_iter, ↓wItems_lst, ↓wItems_tup, ↓w_rng, ↓wRet_d, ↓wRet_fresh, ↓wRet_plc, ↓wRetS_val, ↓wRetS_own, ↓wRetS_ownS, ↓wI_some, ↓wI_none, ↓wI_ite, List.getElem?_cons_zero, List.getElem?_cons_succ, List.set_cons_zero, List.set_cons_succ, e0, wF0_ok, o_reprK, s0, o_eqS, beq_self_eq_true]
end K08
set_option maxHeartbeats 0
namespace K08
open PySem PySem.Spec PyProof.Rows L2 DL
theorem law_eq (l : List Int) (hl : l.length ≤ 63) : callN 60 T ks 21 22 [.lst (l.map .int)] = .ok (.d (.bl true)) none := by
  have h := law1 l hl 1
  unfold cc at h
  cases q : callN 60 T ks (1 + 20) 22 [.lst (l.map .int)] with
  | ok r m =>
    rw [q] at h
    cases m with
    | none =>
      have h : r = .d (.bl true) := h
      rw [h]
    | some d => exact h.elim
  | exc e m =>
    rw [q] at h
    cases m with
    | none => exact h.elim
    | some d => exact h.elim
  | bad =>
    rw [q] at h
    exact h.elim
abbrev R : PySem.W.OpenRow := PySem.W.OpenLaw.row PySem.Challenge.rw_ladder_k08_rungs_and_depths
abbrev fa : List He.Fa := faOf T []
abbrev fn : List He.DefD := fnOfT T
abbrev hk : PySem.W.Hook := hookK 4 fa fn ks
def ob (s : PySem.W.SharedT) : Bool × He.AlD := obsKG 4 fa fn ks (HandSHeadRun.getT s)
theorem ob_eq (s : PySem.W.SharedT) : ob s = hk.obs s.abs := obsKG_eq (HandSHeadRun.getT_eq s)
abbrev loose0 : List PySem.Str := ["is_whole", "common_of", "is_fraction", "MOST_PARTS", "MOST_DEPTH", "RUNGS", "is_barred", "is_height_so_deep", "is_part_so_deep", "is_growth_so_deep", "is_height", "depth_of", "_law_feed", "_law_next", "_law_ratio", "_law_number", "_law_drawn", "_law_up", "_law_ups", "_law_share", "_law_is_barred", "_law_height", "_law_growth", "_law_deep", "_law_depth"]
abbrev loose : List PySem.Str := loose0
theorem run (w : World) : HandSHeadRun.RunEq R (PySem.W.view R.prog [28]) hk ob 6000 loose w := by
  intro os
  kernel_rfl
end K08
open PySem PySem.W PySem.Calls PyProof.Rows
theorem PySem.Challenge.cw_ladder_k08_rungs_and_depths_holds : PySem.Challenge.rw_ladder_k08_rungs_and_depths.Holds := by
  w_on; o_law
  refine HandSHeadRun.head_any (r := OpenLaw.row PySem.Challenge.rw_ladder_k08_rungs_and_depths) (q := view (OpenLaw.row PySem.Challenge.rw_ladder_k08_rungs_and_depths).prog [28]) (H := K08.hk) (ob := K08.ob) (M := 6000) (loose := K08.loose) (d := HandSHeadRun.topDef (OpenLaw.row PySem.Challenge.rw_ladder_k08_rungs_and_depths).prog 28) (kwd := []) K08.ob_eq
    (by kernel_rfl) (fun s => by kernel_rfl) K08.run (by kernel_rfl) (by kernel_rfl) (by kernel_rfl) (by rfl) (by first | assumption | decide +kernel) (by decide +kernel) ⟨rfl, rfl, rfl, rfl, rfl, by decide +kernel⟩ ?hw ?hc
  case hw => w_witness2
  case hc =>
    refine DL.walk_ofG (l := PySem.Challenge.rw_ladder_k08_rungs_and_depths) (n := 63) (k := 21) (x := "_law_script") (CX := DL.CXs (PySem.Challenge.rw_ladder_k08_rungs_and_depths).prog) rfl (by decide) (by kernel_rfl) ⟨rfl, by decide, by decide⟩ ?F DL.cxs_none
    intro w mg fa h Y G hmg0
    obtain ⟨K, KX, c⟩ := Y
    have hmg : mg ("law" : PySem.Str) = some (.ref fa) := by
      have e : (HandSHeadRun.topDef (OpenLaw.row PySem.Challenge.rw_ladder_k08_rungs_and_depths).prog 28).name = ("law" : PySem.Str) := by kernel_rfl
      rw [← e]
      exact hmg0
    exact DL.law_walk (n := 63) (i := 22) (t := K08.f22) (ks := K08.ks) KX G c.d K08.okT K08.bndT (c.ks KX G) rfl rfl rfl hmg K08.law_eq
