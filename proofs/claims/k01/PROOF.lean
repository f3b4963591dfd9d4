import PyProof.Rows.All
import Wide.All
import OpenK.AllK
import Wide.FinOn
import HandS.ForMost
import HandS.Exc
import HandS.WordsExc
import HandS.CallSlots
import HandS.HeadHook3
import HandS.HeadEnd
import HandS.Head2
import HandS.TupAny
import HandS.Deep
import HandS.Flow
import HandS.Defaults
import HandS.IsInst
import HandS.RaiseMore
import HandS.StrMore
import HandS.HeadHook4
import HandS.EndBits
import PySem.Challenge.RW_onescore_k01_tokens_of_texts
import PyProof.FitsReplace
set_option Elab.async false
set_option linter.all false
set_option maxRecDepth 100000
set_option autoImplicit false
set_option maxHeartbeats 0
/-! PV: programs by values. D: what a Python value is, its objects within it; Rep: how the abstract heap bears it (with the addresses of what may be changed); SR: how the frame's slots bear their values. -/
namespace PV
open PySem PySem.Spec L2

/-- a test that nothing unfolds -/
noncomputable def gd (p : Prop) : Bool := @decide p (Classical.propDecidable p)
theorem gd_iff {p : Prop} : gd p = true ↔ p := @decide_eq_true_iff p (Classical.propDecidable p)
theorem gd_yes {p : Prop} (h : p) : gd p = true := gd_iff.mpr h

inductive D where
  | non | bl (b : Bool) | int (i : Int) | str (x : Str) | tup (ds : List D) | lst (ds : List D) | fro (ds : List D) | dct (kvs : List (Key × D)) | ty (n : String)

/-- a list that nobody changes: frozen, or of the module -/
def Fz (K : PySem.W.Frag) (H : Hp) (a : Addr) (vs : List V) : Prop :=
  (∃ o, H a = some (.frz o (.lst vs))) ∨
    ∃ (o : Obj) (its : Array Value) (n : Nat), K.lookup a = some o ∧ o.cls = .type "list" ∧ o.dict = none ∧ o.data = .seq its n ∧ its.size ≤ sizeLine ∧ Vals vs its.toList

mutual
inductive Rep (K : PySem.W.Frag) (H : Hp) : D → V → List Addr → Prop
  | non : Rep K H .non .non []
  | bl {b : Bool} : Rep K H (.bl b) (.bl b) []
  | int {i : Int} : Rep K H (.int i) (.int i) []
  | str {x : Str} : Rep K H (.str x) (.str x) []
  | ty {n : String} : Rep K H (.ty n) (.ty n) []
  | tup {a : Addr} {ds : List D} {vs : List V} {F : List Addr} : SqT K H a vs → Reps K H ds vs F → Rep K H (.tup ds) (.ref a) F
  | lst {a : Addr} {ds : List D} {vs : List V} {F : List Addr} : H a = some (.lst vs) → Reps K H ds vs F → Rep K H (.lst ds) (.ref a) (a :: F)
  | lsz {a : Addr} {ds : List D} {vs : List V} {F : List Addr} : Fz K H a vs → Reps K H ds vs F → Rep K H (.fro ds) (.ref a) F
  | dct {a : Addr} {kds : List (Key × D)} {kvs : List (Key × V)} {F : List Addr} : H a = some (.dK kvs) → RepK K H kds kvs F → Rep K H (.dct kds) (.ref a) (a :: F)
inductive Reps (K : PySem.W.Frag) (H : Hp) : List D → List V → List Addr → Prop
  | nil : Reps K H [] [] []
  | cons {d : D} {v : V} {F : List Addr} {ds : List D} {vs : List V} {G : List Addr} : Rep K H d v F → Reps K H ds vs G → Reps K H (d :: ds) (v :: vs) (F ++ G)
inductive RepK (K : PySem.W.Frag) (H : Hp) : List (Key × D) → List (Key × V) → List Addr → Prop
  | nil : RepK K H [] [] []
  | cons {k : Key} {d : D} {v : V} {F : List Addr} {ds : List (Key × D)} {vs : List (Key × V)} {G : List Addr} : Rep K H d v F → RepK K H ds vs G → RepK K H ((k, d) :: ds) ((k, v) :: vs) (F ++ G)
end

section
variable {K : PySem.W.Frag} {H H' : Hp}

/-- what no rule changes -/
def Im : HO → Prop
  | .tup _ => True
  | .frz _ _ => True
  | _ => False
/-- the step from H to H' leaves what is protected and what is immutable -/
structure Fr (P : Addr → Prop) (H H' : Hp) : Prop where
  p : ∀ b, P b → H' b = H b
  i : ∀ b o, H b = some o → Im o → H' b = some o
theorem Fr.refl {P : Addr → Prop} {H : Hp} : Fr P H H := ⟨fun _ _ => rfl, fun _ _ h _ => h⟩
theorem Fr.trans {P : Addr → Prop} {H H1 H2 : Hp} (a : Fr P H H1) (b : Fr P H1 H2) : Fr P H H2 :=
  ⟨fun c h => (b.p c h).trans (a.p c h), fun c o h i => b.i c o (a.i c o h i) i⟩
theorem Fr.mono {P P' : Addr → Prop} {H H' : Hp} (a : Fr P H H') (h : ∀ b, P' b → P b) : Fr P' H H' := ⟨fun c q => a.p c (h c q), a.i⟩
theorem Fr.new {P : Addr → Prop} {H : Hp} {p : Addr} {o : HO} (np : H p = none) (tr : ∀ b, P b → H b ≠ none) : Fr P H (upd H p o) :=
  ⟨fun b h => upd_ne fun e => tr b h (e ▸ np), fun b u h _ => by rw [upd_ne (ne_of_none h np)]; exact h⟩
theorem Fr.put {P : Addr → Prop} {H : Hp} {a : Addr} {o o' : HO} (h : H a = some o) (m : ¬ Im o) (np : ¬ P a) : Fr P H (upd H a o') :=
  ⟨fun b hb => upd_ne fun e => np (e ▸ hb), fun b u hb hi => by
    rw [upd_ne fun e => ?_]
    · exact hb
    · subst e; rw [h] at hb; cases hb; exact m hi⟩

theorem sqT_keep {a : Addr} {vs : List V} (h : SqT K H a vs) (i : ∀ b o, H b = some o → Im o → H' b = some o) : SqT K H' a vs := by
  rcases h with (h | ⟨o, h⟩) | h
  · exact .inl (.inl (i _ _ h trivial))
  · exact .inl (.inr ⟨o, i _ _ h trivial⟩)
  · exact .inr h
theorem fz_keep {a : Addr} {vs : List V} (h : Fz K H a vs) (i : ∀ b o, H b = some o → Im o → H' b = some o) : Fz K H' a vs := by
  rcases h with ⟨o, h⟩ | h
  · exact .inl ⟨o, i _ _ h trivial⟩
  · exact .inr h
theorem fz_sq {a : Addr} {vs : List V} (h : Fz K H a vs) : SqL K H a vs := by
  rcases h with h | h
  · exact .inl (.inr h)
  · exact .inr h

mutual
theorem Rep.keep (i : ∀ b o, H b = some o → Im o → H' b = some o) : ∀ {d : D} {v : V} {F : List Addr}, Rep K H d v F → (∀ a, a ∈ F → H' a = H a) → Rep K H' d v F
  | .non, _, _, h, _ => by cases h; exact .non
  | .bl _, _, _, h, _ => by cases h; exact .bl
  | .int _, _, _, h, _ => by cases h; exact .int
  | .str _, _, _, h, _ => by cases h; exact .str
  | .ty _, _, _, h, _ => by cases h; exact .ty
  | .tup ds, _, _, h, f => by
    cases h with
    | tup h1 h2 => exact .tup (sqT_keep h1 i) (Reps.keep i h2 f)
  | .lst ds, _, _, h, f => by
    cases h with
    | lst h1 h2 => exact .lst ((f _ List.mem_cons_self).trans h1) (Reps.keep i h2 fun a m => f a (List.mem_cons_of_mem _ m))
  | .fro ds, _, _, h, f => by
    cases h with
    | lsz h1 h2 => exact .lsz (fz_keep h1 i) (Reps.keep i h2 f)
  | .dct kds, _, _, h, f => by
    cases h with
    | dct h1 h2 => exact .dct ((f _ List.mem_cons_self).trans h1) (RepK.keep i h2 fun a m => f a (List.mem_cons_of_mem _ m))
theorem Reps.keep (i : ∀ b o, H b = some o → Im o → H' b = some o) : ∀ {ds : List D} {vs : List V} {F : List Addr}, Reps K H ds vs F → (∀ a, a ∈ F → H' a = H a) → Reps K H' ds vs F
  | [], _, _, h, _ => by cases h; exact .nil
  | d :: ds, _, _, h, f => by
    cases h with
    | cons h1 h2 => exact .cons (Rep.keep i h1 fun a m => f a (List.mem_append_left _ m)) (Reps.keep i h2 fun a m => f a (List.mem_append_right _ m))
theorem RepK.keep (i : ∀ b o, H b = some o → Im o → H' b = some o) : ∀ {ds : List (Key × D)} {vs : List (Key × V)} {F : List Addr}, RepK K H ds vs F → (∀ a, a ∈ F → H' a = H a) → RepK K H' ds vs F
  | [], _, _, h, _ => by cases h; exact .nil
  | d :: ds, _, _, h, f => by
    cases h with
    | cons h1 h2 => exact .cons (Rep.keep i h1 fun a m => f a (List.mem_append_left _ m)) (RepK.keep i h2 fun a m => f a (List.mem_append_right _ m))
end
mutual
theorem Rep.tr : ∀ {d : D} {v : V} {F : List Addr}, Rep K H d v F → ∀ a, a ∈ F → H a ≠ none
  | .non, _, _, h, _, m => by cases h; cases m
  | .bl _, _, _, h, _, m => by cases h; cases m
  | .int _, _, _, h, _, m => by cases h; cases m
  | .str _, _, _, h, _, m => by cases h; cases m
  | .ty _, _, _, h, _, m => by cases h; cases m
  | .tup ds, _, _, h, a, m => by
    cases h with
    | tup h1 h2 => exact Reps.tr h2 a m
  | .lst ds, _, _, h, a, m => by
    cases h with
    | lst h1 h2 =>
      rcases List.mem_cons.mp m with rfl | m
      · rw [h1]; simp
      · exact Reps.tr h2 a m
  | .fro ds, _, _, h, a, m => by
    cases h with
    | lsz h1 h2 => exact Reps.tr h2 a m
  | .dct kds, _, _, h, a, m => by
    cases h with
    | dct h1 h2 =>
      rcases List.mem_cons.mp m with rfl | m
      · rw [h1]; simp
      · exact RepK.tr h2 a m
theorem Reps.tr : ∀ {ds : List D} {vs : List V} {F : List Addr}, Reps K H ds vs F → ∀ a, a ∈ F → H a ≠ none
  | [], _, _, h, _, m => by cases h; cases m
  | d :: ds, _, _, h, a, m => by
    cases h with
    | cons h1 h2 =>
      rcases List.mem_append.mp m with m | m
      · exact Rep.tr h1 a m
      · exact Reps.tr h2 a m
theorem RepK.tr : ∀ {ds : List (Key × D)} {vs : List (Key × V)} {F : List Addr}, RepK K H ds vs F → ∀ a, a ∈ F → H a ≠ none
  | [], _, _, h, _, m => by cases h; cases m
  | d :: ds, _, _, h, a, m => by
    cases h with
    | cons h1 h2 =>
      rcases List.mem_append.mp m with m | m
      · exact Rep.tr h1 a m
      · exact RepK.tr h2 a m
end
theorem Reps.length : ∀ {ds : List D} {vs : List V} {F : List Addr}, Reps K H ds vs F → ds.length = vs.length
  | [], _, _, h => by cases h; rfl
  | d :: ds, _, _, h => by
    cases h with
    | cons h1 h2 => simp [Reps.length h2]
theorem Reps.get : ∀ {ds : List D} {vs : List V} {F : List Addr} {i : Nat} {d : D}, Reps K H ds vs F → ds[i]? = some d → ∃ v G, vs[i]? = some v ∧ Rep K H d v G ∧ ∀ a, a ∈ G → a ∈ F
  | [], _, _, _, _, h, e => by simp at e
  | d :: ds, _, _, i, d', h, e => by
    cases h with
    | @cons _ v F' _ vs G h1 h2 =>
      cases i with
      | zero =>
        simp at e; subst e
        exact ⟨v, F', rfl, h1, fun a m => List.mem_append_left _ m⟩
      | succ i =>
        obtain ⟨w, G', e1, e2, e3⟩ := Reps.get (i := i) h2 (by simpa using e)
        exact ⟨w, G', by simpa using e1, e2, fun a m => List.mem_append_right _ (e3 a m)⟩
theorem Reps.append : ∀ {ds : List D} {vs : List V} {F : List Addr} {ds' : List D} {vs' : List V} {F' : List Addr}, Reps K H ds vs F → Reps K H ds' vs' F' → Reps K H (ds ++ ds') (vs ++ vs') (F ++ F')
  | [], _, _, _, _, _, h, h' => by cases h; exact h'
  | d :: ds, _, _, _, _, _, h, h' => by
    cases h with
    | cons h1 h2 =>
      rw [List.append_assoc]
      exact .cons h1 (Reps.append h2 h')
theorem Reps.one {d : D} {v : V} {F : List Addr} (h : Rep K H d v F) : Reps K H [d] [v] F := by
  have := Reps.cons h (Reps.nil (K := K) (H := H))
  rwa [List.append_nil] at this
/-- a part of a sequence -/
theorem Reps.sub : ∀ {ds : List D} {vs : List V} {F : List Addr} (a n : Nat), Reps K H ds vs F → ∃ G, Reps K H ((ds.drop a).take n) ((vs.drop a).take n) G ∧ ∀ b, b ∈ G → b ∈ F
  | [], _, _, a, n, h => by cases h; exact ⟨[], by simpa using Reps.nil, fun _ m => m⟩
  | d :: ds, _, _, a, n, h => by
    cases h with
    | @cons _ v F' _ vs G h1 h2 =>
      cases a with
      | succ a =>
        obtain ⟨G', e1, e2⟩ := Reps.sub a n h2
        exact ⟨G', by simpa using e1, fun b m => List.mem_append_right _ (e2 b m)⟩
      | zero =>
        cases n with
        | zero => exact ⟨[], by simpa using Reps.nil, fun _ m => by cases m⟩
        | succ n =>
          obtain ⟨G', e1, e2⟩ := Reps.sub 0 n h2
          refine ⟨F' ++ G', ?_, fun b m => ?_⟩
          · have := Reps.cons h1 e1
            simpa using this
          · rcases List.mem_append.mp m with m | m
            · exact List.mem_append_left _ m
            · exact List.mem_append_right _ (e2 b m)
end

/-- what stands at a and may be changed -/
inductive RepM (K : PySem.W.Frag) (H : Hp) : D → Addr → List Addr → Prop
  | lst {a : Addr} {ds : List D} {vs : List V} {F : List Addr} : H a = some (.lst vs) → Reps K H ds vs F → RepM K H (.lst ds) a F
  | dct {a : Addr} {kds : List (Key × D)} {kvs : List (Key × V)} {F : List Addr} : H a = some (.dK kvs) → RepK K H kds kvs F → RepM K H (.dct kds) a F
section
variable {K : PySem.W.Frag} {H H' : Hp} {d : D} {a : Addr} {F : List Addr}
theorem RepM.rep (h : RepM K H d a F) : Rep K H d (.ref a) (a :: F) := by
  cases h with
  | lst h1 h2 => exact .lst h1 h2
  | dct h1 h2 => exact .dct h1 h2
theorem RepM.keep (h : RepM K H d a F) (i : ∀ b o, H b = some o → Im o → H' b = some o) (f : ∀ b, b ∈ a :: F → H' b = H b) : RepM K H' d a F := by
  cases h with
  | lst h1 h2 => exact .lst ((f _ List.mem_cons_self).trans h1) (Reps.keep i h2 fun b m => f b (List.mem_cons_of_mem _ m))
  | dct h1 h2 => exact .dct ((f _ List.mem_cons_self).trans h1) (RepK.keep i h2 fun b m => f b (List.mem_cons_of_mem _ m))
theorem RepM.mut (h : RepM K H d a F) : ∃ o, H a = some o ∧ ¬ Im o := by
  cases h with
  | lst h1 h2 => exact ⟨_, h1, fun q => q⟩
  | dct h1 h2 => exact ⟨_, h1, fun q => q⟩
end

/-! ### the frame's slots -/
inductive Own where
  | sh | ow | io
  deriving DecidableEq
abbrev Slot := Option (Own × D)
abbrev S := List Slot

structure SR (K : PySem.W.Frag) (P B : Addr → Prop) (ia : Nat → Addr) (s : S) (σ : St) (H : Hp) (Fs : Nat → List Addr) : Prop where
  len : s.length = σ.length
  rep : ∀ i o d, s[i]? = some (some (o, d)) → ∃ v, σ[i]? = some (some v) ∧ Rep K H d v (Fs i)
  own : ∀ i o d, s[i]? = some (some (o, d)) → o ≠ Own.sh → ∃ a F, σ[i]? = some (some (V.ref a)) ∧ Fs i = a :: F ∧ RepM K H d a F ∧ a ∉ F ∧ ¬ P a ∧ ∀ j, j ≠ i → a ∉ Fs j
  iov : ∀ i d, s[i]? = some (some (Own.io, d)) → σ[i]? = some (some (V.ref (ia i)))
  dead : ∀ i, (∀ o d, s[i]? ≠ some (some (o, d))) → Fs i = []
  inB : ∀ j a, a ∈ Fs j → B a
  tr : ∀ b, P b → H b ≠ none
  nb : ∀ b, H b = none → B b

/-- no slot of one's own has its object among these -/
def NoOwn (s : S) (σ : St) (F : List Addr) : Prop := ∀ (i : Nat) (o : Own) (d : D) (a : Addr), s[i]? = some (some (o, d)) → o ≠ Own.sh → σ[i]? = some (some (V.ref a)) → a ∉ F
theorem NoOwn.nil {s : S} {σ : St} : NoOwn s σ [] := fun _ _ _ _ _ _ _ m => nomatch m
theorem NoOwn.sub {s : S} {σ : St} {F G : List Addr} (h : NoOwn s σ F) (q : ∀ a, a ∈ G → a ∈ F) : NoOwn s σ G := fun i o d a e n x m => h i o d a e n x (q a m)
theorem NoOwn.app {s : S} {σ : St} {F G : List Addr} (h : NoOwn s σ F) (h' : NoOwn s σ G) : NoOwn s σ (F ++ G) := fun i o d a e n x m => (List.mem_append.mp m).elim (h i o d a e n x) (h' i o d a e n x)

section
variable {K : PySem.W.Frag} {P B : Addr → Prop} {ia : Nat → Addr} {s : S} {σ : St} {H H' : Hp} {Fs : Nat → List Addr}
theorem SR.trF (r : SR K P B ia s σ H Fs) {j : Nat} {a : Addr} (h : a ∈ Fs j) : H a ≠ none := by
  by_cases q : ∃ o d, s[j]? = some (some (o, d))
  · obtain ⟨o, d, q⟩ := q
    obtain ⟨v, _, e⟩ := r.rep j o d q
    exact e.tr a h
  · rw [r.dead j fun o d z => q ⟨o, d, z⟩] at h; cases h
/-- fewer protected -/
theorem SR.weak {P' : Addr → Prop} (r : SR K P B ia s σ H Fs) (h : ∀ b, P' b → P b) : SR K P' B ia s σ H Fs :=
  ⟨r.len, r.rep, fun i o d e n => let ⟨a, F, h1, h2, h3, h4, h5, h6⟩ := r.own i o d e n; ⟨a, F, h1, h2, h3, h4, fun q => h5 (h a q), h6⟩, r.iov, r.dead, r.inB, fun b q => r.tr b (h b q), r.nb⟩
/-- the heap goes on, all that the slots hold stays -/
theorem SR.go (r : SR K P B ia s σ H Fs) (f : ∀ j a, a ∈ Fs j → H' a = H a) (i : ∀ b o, H b = some o → Im o → H' b = some o) (p : ∀ b, P b → H' b = H b) (nb : ∀ b, H' b = none → B b) : SR K P B ia s σ H' Fs :=
  ⟨r.len, fun j o d e => let ⟨v, h1, h2⟩ := r.rep j o d e; ⟨v, h1, h2.keep i fun a m => f j a m⟩,
   fun j o d e n => let ⟨a, F, h1, h2, h3, h4, h5, h6⟩ := r.own j o d e n; ⟨a, F, h1, h2, h3.keep i fun b m => f j b (by rw [h2]; exact m), h4, h5, h6⟩, r.iov, r.dead, r.inB, fun b q => by rw [p b q]; exact r.tr b q, nb⟩
theorem SR.new (r : SR K P B ia s σ H Fs) {p : Addr} {o : HO} (np : H p = none) : SR K P B ia s σ (upd H p o) Fs :=
  r.go (fun j a m => upd_ne fun e => r.trF m (e ▸ np)) (Fr.new np r.tr).i (Fr.new np r.tr).p fun b e => r.nb b (by
    by_cases h : b = p
    · subst h; exact np
    · rw [upd_ne h] at e; exact e)
/-- more protected: a value whose parts no slot may change -/
theorem SR.prot (r : SR K P B ia s σ H Fs) {F : List Addr} (t : ∀ a, a ∈ F → H a ≠ none) (no : NoOwn s σ F) : SR K (fun b => P b ∨ b ∈ F) B ia s σ H Fs :=
  ⟨r.len, r.rep, fun i o d e n => by
    obtain ⟨a, F', h1, h2, h3, h4, h5, h6⟩ := r.own i o d e n
    exact ⟨a, F', h1, h2, h3, h4, fun q => q.elim h5 (no i o d a e n h1), h6⟩, r.iov, r.dead, r.inB, fun b q => q.elim (r.tr b) (t b), r.nb⟩
theorem SR.noOwn (r : SR K P B ia s σ H Fs) {F : List Addr} (h : ∀ a, a ∈ F → P a) : NoOwn s σ F := fun i o d a e n x m => by
  obtain ⟨a', F', h1, h2, h3, h4, h5, h6⟩ := r.own i o d e n
  rw [x] at h1; cases h1; exact h5 (h a m)
theorem SR.noOwnF (r : SR K P B ia s σ H Fs) {j : Nat} {d : D} (e : s[j]? = some (some (Own.sh, d))) : NoOwn s σ (Fs j) := fun i o d' a e' n x m => by
  obtain ⟨a', F', h1, h2, h3, h4, h5, h6⟩ := r.own i o d' e' n
  rw [x] at h1; cases h1
  refine h6 j ?_ m
  rintro rfl
  rw [e] at e'; cases e'; exact n rfl
/-- an own slot's inside -/
theorem SR.noOwnT (r : SR K P B ia s σ H Fs) {j : Nat} {o : Own} {d : D} {a : Addr} {F : List Addr} (e : s[j]? = some (some (o, d))) (n : o ≠ Own.sh) (eF : Fs j = a :: F) : NoOwn s σ F := fun i o' d' b e' n' x m => by
  obtain ⟨a', F', h1, h2, h3, h4, h5, h6⟩ := r.own i o' d' e' n'
  rw [x] at h1; cases h1
  by_cases q : j = i
  · subst q
    rw [eF] at h2; cases h2; exact h4 m
  · exact h6 j q (by rw [eF]; exact List.mem_cons_of_mem _ m)
end

/-! ### results -/
/-- an exception: its class by its name, its fields -/
structure Exn where
  cls : Str
  fs : List (Str × D)
inductive Res (α : Type) where
  | ok (a : α) (s : S)
  | exc (x : Exn) (s : S)
  | stuck
abbrev M (α : Type) := S → Res α
def Res.bind {α β : Type} (r : Res α) (f : α → S → Res β) : Res β := match r with
  | .ok a s => f a s
  | .exc x s => .exc x s
  | .stuck => .stuck
@[simp] theorem Res.bind_ok {α β : Type} (a : α) (s : S) (f : α → S → Res β) : (Res.ok a s).bind f = f a s := rfl
@[simp] theorem Res.bind_exc {α β : Type} (x : Exn) (s : S) (f : α → S → Res β) : (Res.exc x s : Res α).bind f = .exc x s := rfl
@[simp] theorem Res.bind_stuck {α β : Type} (f : α → S → Res β) : (Res.stuck : Res α).bind f = .stuck := rfl

/-- how an exception lies in the heap -/
def XRep (K : PySem.W.Frag) (H : Hp) (x : Exn) (cls : Value) (dx : Option Addr) : Prop :=
  cls = .ref (He.ga K x.cls) ∧ ((x.fs = [] ∧ dx = none) ∨ ∃ b kvs F, dx = some b ∧ H b = some (.xd kvs) ∧ kvs.map (·.1) = x.fs.map (·.1) ∧ Reps K H (x.fs.map (·.2)) (kvs.map (·.2)) F)

/-- a value has come -/
def RV (K : PySem.W.Frag) (P B : Addr → Prop) (ia : Nat → Addr) (s : S) (σ : St) (H H' : Hp) (fr : Bool) (d : D) (v : V) : Prop :=
  ∃ F Fs, Rep K H' d v F ∧ Fr P H H' ∧ (∀ a, a ∈ F → B a) ∧ SR K (fun b => P b ∨ b ∈ F) B ia s σ H' Fs ∧ (fr = true → ∃ a G, v = .ref a ∧ F = a :: G ∧ RepM K H' d a G ∧ a ∉ G ∧ ¬ P a ∧ ∀ j, a ∉ Fs j)
def RX (K : PySem.W.Frag) (P B : Addr → Prop) (ia : Nat → Addr) (s : S) (σ : St) (H H' : Hp) (x : Exn) (cls : Value) (dx : Option Addr) : Prop :=
  ∃ Fs, Fr P H H' ∧ SR K P B ia s σ H' Fs ∧ XRep K H' x cls dx
/-- what is asked of a result: Q's way, E's way -/
def Post {α : Type} (E : Exn → S → Prop) (Q : α → S → Prop) : Res α → Prop
  | .ok a s => Q a s
  | .exc x s => E x s
  | .stuck => False
@[simp] theorem Post.ok {α : Type} {E : Exn → S → Prop} {Q : α → S → Prop} {a : α} {s : S} : Post E Q (.ok a s) = Q a s := rfl
@[simp] theorem Post.exc {α : Type} {E : Exn → S → Prop} {Q : α → S → Prop} {x : Exn} {s : S} : Post E Q (.exc x s) = E x s := rfl
@[simp] theorem Post.stuck {α : Type} {E : Exn → S → Prop} {Q : α → S → Prop} : Post E Q .stuck = False := rfl
theorem Post.bind {α β : Type} {E : Exn → S → Prop} {Q : β → S → Prop} {r : Res α} {f : α → S → Res β} (h : Post E Q (r.bind f)) : Post E (fun a s => Post E Q (f a s)) r := by
  cases r <;> exact h
theorem Post.mono {α : Type} {E E' : Exn → S → Prop} {Q Q' : α → S → Prop} {r : Res α} (h : Post E Q r) (e : ∀ x s, E x s → E' x s) (q : ∀ a s, Q a s → Q' a s) : Post E' Q' r := by
  cases r with
  | ok a s => exact q a s h
  | exc x s => exact e x s h
  | stuck => exact h
/-- the reading of an expression by its function f -/
def tD (K : PySem.W.Frag) (E : WX) (f : M (Bool × D)) : TE := fun σ H Q => ∃ P B ia s Fs, SR K P B ia s σ H Fs ∧
  Post (fun x s' => ∀ cls dx H', RX K P B ia s' σ H H' x cls dx → E cls dx σ H') (fun r s' => ∀ v H', RV K P B ia s' σ H H' r.1 r.2 v → Q v H') (f s)
theorem RX.weak {K : PySem.W.Frag} {P P' B : Addr → Prop} {ia : Nat → Addr} {s : S} {σ : St} {H H1 H' : Hp} {x : Exn} {cls : Value} {dx : Option Addr} (h : RX K P B ia s σ H1 H' x cls dx) (f : Fr P' H H1) (q : ∀ b, P' b → P b) : RX K P' B ia s σ H H' x cls dx :=
  let ⟨Fs, h1, h2, h3⟩ := h
  ⟨Fs, f.trans (h1.mono q), h2.weak q, h3⟩

theorem _root_.L2.PE.imp {X : Cx} {e : Expr} {t t' : TE} (h : PE X e t) (q : ∀ σ H Q, t' σ H Q → t σ H Q) : PE X e t' := ⟨fun pins s σ H Q I w => h.run pins s σ H Q I (q σ H Q w)⟩
theorem _root_.L2.PT.imp {X : Cx} {e : Expr} {t t' : TT} (h : PT X e t) (q : ∀ σ H Q, t' σ H Q → t σ H Q) : PT X e t' := ⟨fun pins s σ H Q I w => h.run pins s σ H Q I (q σ H Q w)⟩
theorem _root_.L2.PW.imp {X : Cx} {e : Expr} {t t' : TT} (h : PW X e t) (q : ∀ σ H Q, t' σ H Q → t σ H Q) : PW X e t' := ⟨fun wh pins s σ H Q I w => h.run wh pins s σ H Q I (q σ H Q w)⟩
theorem _root_.L2.PA.imp {X : Cx} {e : List Expr} {t t' : TA} (h : PA X e t) (q : ∀ σ H Q, t' σ H Q → t σ H Q) : PA X e t' := ⟨fun pos pins s σ H Q I w => h.run pos pins s σ H Q I (q σ H Q w)⟩
theorem _root_.L2.PS.imp {X : Cx} {e : Stmt} {t t' : TS} (h : PS X e t) (q : ∀ D σ H, t' D σ H → t D σ H) : PS X e t' := ⟨fun pins s σ H Q I w => h.run pins s σ H Q I (q Q σ H w)⟩
theorem _root_.L2.PSs.imp {X : Cx} {e : List Stmt} {t t' : TS} (h : PSs X e t) (q : ∀ D σ H, t' D σ H → t D σ H) : PSs X e t' := ⟨fun pins s σ H Q I w => h.run pins s σ H Q I (q Q σ H w)⟩

/-- what an operand brings -/
structure OV (K : PySem.W.Frag) (B : Addr → Prop) (s : S) (σ : St) (H : Hp) (d : D) (x : V) (F : List Addr) : Prop where
  rep : Rep K H d x F
  inB : ∀ a, a ∈ F → B a
  inn : NoOwn s σ F ∨ ∃ a G, x = .ref a ∧ F = a :: G ∧ RepM K H d a G ∧ NoOwn s σ G

/-- an operand: an expression, or a slot that is only looked at -/
inductive Opd where
  | ex (f : M (Bool × D))
  | sl (i : Nat)
def rdO (K : PySem.W.Frag) (E : WX) : Opd → TE
  | .ex f => tD K E f
  | .sl i => tVar i
def Opd.run : Opd → M (Option D)
  | .ex f => fun s => (f s).bind fun r s' => .ok (some r.2) s'
  | .sl i => fun s => match s[i]? with
    | some (some _) => .ok none s
    | _ => .stuck
def Opd.get (s : S) : Opd → Option D → Option D
  | .ex _, x => x
  | .sl i, _ => match s[i]? with
    | some (some (_, d)) => some d
    | _ => none
/-- one operand -/
def op1 {α : Type} (a : Opd) (k : D → S → Res α) : M α := fun s => (a.run s).bind fun x s1 => match a.get s1 x with
  | some dx => k dx s1
  | none => .stuck
/-- two operands -/
def op2 {α : Type} (a b : Opd) (k : D → D → S → Res α) : M α := fun s => (a.run s).bind fun x s1 => (b.run s1).bind fun y s2 => match a.get s2 x, b.get s2 y with
  | some dx, some dy => k dx dy s2
  | _, _ => .stuck

section
variable {K : PySem.W.Frag} {P B : Addr → Prop} {ia : Nat → Addr} {s : S} {σ : St} {H H' : Hp} {Fs : Nat → List Addr} {E : WX}
theorem SR.opd (r : SR K P B ia s σ H Fs) {i : Nat} {o : Own} {d : D} (e : s[i]? = some (some (o, d))) : ∃ v F, σ[i]? = some (some v) ∧ OV K B s σ H d v F := by
  by_cases n : o = Own.sh
  · subst n
    obtain ⟨v, h1, h2⟩ := r.rep i _ d e
    exact ⟨v, Fs i, h1, h2, fun a m => r.inB i a m, .inl (r.noOwnF e)⟩
  · obtain ⟨a, F, h1, h2, h3, h4, h5, h6⟩ := r.own i o d e n
    exact ⟨.ref a, a :: F, h1, h3.rep, fun b m => r.inB i b (by rw [h2]; exact m), .inr ⟨a, F, rfl, rfl, h3, r.noOwnT e n h2⟩⟩
theorem SR.slot_lt (r : SR K P B ia s σ H Fs) {i : Nat} {o : Own} {d : D} (e : s[i]? = some (some (o, d))) : ∃ v, σ[i]? = some (some v) := let ⟨v, h, _⟩ := r.rep i o d e; ⟨v, h⟩

theorem rd1 {a : Opd} {R : V → Hp → Prop} (r : SR K P B ia s σ H Fs)
    (h : Post (fun x s' => ∀ cls dx H', RX K P B ia s' σ H H' x cls dx → E cls dx σ H') (fun d s' => ∀ x H' F Fs', OV K B s' σ H' d x F → Fr P H H' → SR K P B ia s' σ H' Fs' → R x H') (op1 a Res.ok s)) : rdO K E a σ H R := by
  cases a with
  | ex f =>
    refine ⟨P, B, ia, s, Fs, r, ?_⟩
    unfold op1 Opd.run at h
    have h' := Post.bind (Post.bind h)
    refine h'.mono (fun _ _ q => q) fun a s' q v H' w => ?_
    obtain ⟨F, Fs', h1, h2, h3, h4, h5⟩ := w
    exact q v H' F Fs' ⟨h1, h3, .inl (h4.noOwn fun a m => .inr m)⟩ h2 (h4.weak fun b m => .inl m)
  | sl i =>
    simp only [op1, Opd.run] at h
    show ∃ v, σ[i]? = some (some v) ∧ R v H
    match e : s[i]? with
    | some (some (o, d)) =>
      simp only [e, Res.bind_ok, Opd.get] at h
      obtain ⟨v, F, h1, h2⟩ := r.opd e
      exact ⟨v, h1, h v H F Fs h2 Fr.refl r⟩
    | some none => simp only [e] at h; exact h.elim
    | none => simp only [e] at h; exact h.elim
theorem rd2 {a b : Opd} {R : V → V → Hp → Prop} (r : SR K P B ia s σ H Fs)
    (h : Post (fun x s' => ∀ cls dx H', RX K P B ia s' σ H H' x cls dx → E cls dx σ H') (fun (q : D × D) s' => ∀ x y H' F G Fs', OV K B s' σ H' q.1 x F → OV K B s' σ H' q.2 y G → Fr P H H' → SR K P B ia s' σ H' Fs' → R x y H') (op2 a b (fun x y s => .ok (x, y) s) s)) :
    rdO K E a σ H fun x H1 => rdO K E b σ H1 fun y H2 => R x y H2 := by
  cases a with
  | ex f =>
    refine ⟨P, B, ia, s, Fs, r, ?_⟩
    unfold op2 at h
    have h' := Post.bind (Post.bind (r := (f s).bind fun (r : Bool × D) s' => Res.ok (some r.2) s') h)
    refine h'.mono (fun _ _ q => q) fun a s1 q v H1 w => ?_
    obtain ⟨F, Fs1, h1, h2, h3, h4, h5⟩ := w
    cases b with
    | ex g =>
      refine ⟨_, B, ia, s1, Fs1, h4, ?_⟩
      have q' := Post.bind (Post.bind (r := (g s1).bind fun (r : Bool × D) s' => Res.ok (some r.2) s') q)
      refine q'.mono (fun x s2 e cls dx H2 w2 => e cls dx H2 (w2.weak h2 fun b m => .inl m)) fun c s2 e v2 H2 w2 => ?_
      obtain ⟨G, Fs2, g1, g2, g3, g4, g5⟩ := w2
      exact e v v2 H2 F G Fs2 ⟨h1.keep g2.i fun a m => g2.p a (.inr m), h3, .inl (g4.noOwn fun a m => .inl (.inr m))⟩ ⟨g1, g3, .inl (g4.noOwn fun a m => .inr m)⟩
        (h2.trans (g2.mono fun b m => .inl m)) (g4.weak fun b m => .inl (.inl m))
    | sl i =>
      show ∃ w, σ[i]? = some (some w) ∧ R v w H1
      simp only [Post.ok, Opd.run] at q
      match e : s1[i]? with
      | some (some (o, d)) =>
        simp only [e, Res.bind_ok, Opd.get, Post.ok] at q
        obtain ⟨w, G, e1, e2⟩ := h4.opd e
        exact ⟨w, e1, q v w H1 F G Fs1 ⟨h1, h3, .inl (h4.noOwn fun a m => .inr m)⟩ e2 h2 (h4.weak fun b m => .inl m)⟩
      | some none => simp only [e] at q; exact (show False from q).elim
      | none => simp only [e] at q; exact (show False from q).elim
  | sl i =>
    simp only [op2, Opd.run] at h
    match e : s[i]? with
    | some none => simp only [e] at h; exact h.elim
    | none => simp only [e] at h; exact h.elim
    | some (some (o, d)) =>
      obtain ⟨v, F, hv, h2⟩ := r.opd e
      simp only [e, Res.bind_ok] at h
      cases b with
      | ex g =>
        have h' := Post.bind (Post.bind (r := (g s).bind fun (r : Bool × D) s' => Res.ok (some r.2) s') h)
        refine ⟨v, hv, P, B, ia, s, Fs, r, h'.mono (fun _ _ q => q) fun c s2 q v2 H2 w2 => ?_⟩
        obtain ⟨G, Fs2, g1, g2, g3, g4, g5⟩ := w2
        simp only [Post.ok, Opd.get] at q
        match e : s2[i]? with
        | some (some (o, d)) =>
          simp only [e, Post.ok] at q
          obtain ⟨w, F, e1, e2⟩ := g4.opd e
          rw [hv] at e1; cases e1
          exact q v v2 H2 F G Fs2 e2 ⟨g1, g3, .inl (g4.noOwn fun a m => .inr m)⟩ g2 (g4.weak fun b m => .inl m)
        | some none => simp only [e] at q; exact (show False from q).elim
        | none => simp only [e] at q; exact (show False from q).elim
      | sl j =>
        simp only [Opd.run] at h
        match e' : s[j]? with
        | some (some (o', d')) =>
          simp only [e, e', Res.bind_ok, Opd.get] at h
          obtain ⟨v', F', h1', h2'⟩ := r.opd e'
          exact ⟨v, hv, v', h1', h v v' H F F' Fs h2 h2' Fr.refl r⟩
        | some none => simp only [e'] at h; exact h.elim
        | none => simp only [e'] at h; exact h.elim
end
end PV

/-! PV: expressions by values. -/
namespace PV
open PySem PySem.Spec L2
section
variable {K : PySem.W.Frag} {P B : Addr → Prop} {ia : Nat → Addr} {s : S} {σ : St} {H H' H1 : Hp} {Fs : Nat → List Addr} {E : WX} {d : D} {v : V} {F : List Addr}
theorem RV.part (rep : Rep K H' d v F) (no : NoOwn s σ F) (b : ∀ a, a ∈ F → B a) (fr : Fr P H H') (r : SR K P B ia s σ H' Fs) : RV K P B ia s σ H H' false d v :=
  ⟨F, Fs, rep, fr, b, r.prot rep.tr no, fun h => nomatch h⟩
theorem RV.flat (rep : Rep K H' d v []) (fr : Fr P H H') (r : SR K P B ia s σ H' Fs) : RV K P B ia s σ H H' false d v := .part rep .nil (fun _ m => nomatch m) fr r
theorem SR.ownTr (r : SR K P B ia s σ H Fs) {i : Nat} {o : Own} {d : D} {a : Addr} (e : s[i]? = some (some (o, d))) (n : o ≠ Own.sh) (h : σ[i]? = some (some (V.ref a))) : H a ≠ none := by
  obtain ⟨a', F', h1, h2, h3, _⟩ := r.own i o d e n
  rw [h] at h1; cases h1
  obtain ⟨o, e, _⟩ := h3.mut
  rw [e]; simp
theorem NoOwn.cons (r : SR K P B ia s σ H Fs) {p : Addr} (np : H p = none) (no : NoOwn s σ F) : NoOwn s σ (p :: F) := fun i o d a e n x m => by
  rcases List.mem_cons.mp m with rfl | m
  · exact r.ownTr e n x np
  · exact no i o d a e n x m
/-- a new list -/
theorem RV.lst {ds : List D} {vs : List V} {p : Addr} (h : Reps K H1 ds vs F) (no : NoOwn s σ F) (b : ∀ a, a ∈ F → B a) (fr : Fr P H H1) (r : SR K P B ia s σ H1 Fs) (np : H1 p = none) : RV K P B ia s σ H (upd H1 p (.lst vs)) true (.lst ds) (.ref p) := by
  have r2 : SR K P B ia s σ (upd H1 p (.lst vs)) Fs := r.new np
  have f1 : Fr P H1 (upd H1 p (.lst vs)) := Fr.new np r.tr
  have nF : ∀ a, a ∈ F → a ≠ p := fun a m e => h.tr a m (e ▸ np)
  have h2 : Reps K (upd H1 p (.lst vs)) ds vs F := Reps.keep f1.i h fun a m => upd_ne (nF a m)
  refine ⟨p :: F, Fs, .lst upd_same h2, fr.trans f1, fun a m => ?_, r2.prot (fun a m => ?_) (NoOwn.cons r np no), fun _ => ⟨p, F, rfl, rfl, .lst upd_same h2, fun m => nF p m rfl, fun q => r.tr p q np, fun j m => r.trF m np⟩⟩
  · rcases List.mem_cons.mp m with rfl | m
    · exact r.nb _ np
    · exact b a m
  · rcases List.mem_cons.mp m with rfl | m
    · rw [upd_same]; simp
    · exact h2.tr a m
/-- a new tuple -/
theorem RV.tup {ds : List D} {vs : List V} {p : Addr} (h : Reps K H1 ds vs F) (no : NoOwn s σ F) (b : ∀ a, a ∈ F → B a) (fr : Fr P H H1) (r : SR K P B ia s σ H1 Fs) (np : H1 p = none) : RV K P B ia s σ H (upd H1 p (.tup vs)) false (.tup ds) (.ref p) := by
  have f1 : Fr P H1 (upd H1 p (.tup vs)) := Fr.new np r.tr
  exact .part (.tup (SqT.of upd_same) (Reps.keep f1.i h fun a m => upd_ne fun e => h.tr a m (e ▸ np))) no b (fr.trans f1) (r.new np)

/-! ### what an operand's inside is -/
theorem OV.lst_inv {ds : List D} {x : V} (h : OV K B s σ H (.lst ds) x F) : ∃ a vs G, x = .ref a ∧ H a = some (.lst vs) ∧ Reps K H ds vs G ∧ NoOwn s σ G ∧ ∀ b, b ∈ G → B b := by
  cases h.rep with
  | @lst a _ vs G h1 h2 =>
    refine ⟨a, vs, G, rfl, h1, h2, ?_, fun b m => h.inB b (List.mem_cons_of_mem _ m)⟩
    rcases h.inn with no | ⟨a', G', e1, e2, _, no⟩
    · exact no.sub fun b m => List.mem_cons_of_mem _ m
    · cases e2; exact no
theorem OV.tup_inv {ds : List D} {x : V} (h : OV K B s σ H (.tup ds) x F) : ∃ a vs, x = .ref a ∧ SqT K H a vs ∧ Reps K H ds vs F ∧ NoOwn s σ F := by
  cases h.rep with
  | @tup a _ vs G h1 h2 =>
    refine ⟨a, vs, rfl, h1, h2, ?_⟩
    rcases h.inn with no | ⟨a', G', e1, e2, h3, no⟩
    · exact no
    · cases h3
theorem OV.fro_inv {ds : List D} {x : V} (h : OV K B s σ H (.fro ds) x F) : ∃ a vs, x = .ref a ∧ Fz K H a vs ∧ Reps K H ds vs F ∧ NoOwn s σ F := by
  cases h.rep with
  | @lsz a _ vs G h1 h2 =>
    refine ⟨a, vs, rfl, h1, h2, ?_⟩
    rcases h.inn with no | ⟨a', G', e1, e2, h3, no⟩
    · exact no
    · cases h3
theorem OV.dct_inv {kds : List (Key × D)} {x : V} (h : OV K B s σ H (.dct kds) x F) : ∃ a kvs G, x = .ref a ∧ H a = some (.dK kvs) ∧ RepK K H kds kvs G ∧ NoOwn s σ G ∧ ∀ b, b ∈ G → B b := by
  cases h.rep with
  | @dct a _ vs G h1 h2 =>
    refine ⟨a, vs, G, rfl, h1, h2, ?_, fun b m => h.inB b (List.mem_cons_of_mem _ m)⟩
    rcases h.inn with no | ⟨a', G', e1, e2, _, no⟩
    · exact no.sub fun b m => List.mem_cons_of_mem _ m
    · cases e2; exact no
theorem OV.int_inv {i : Int} {x : V} (h : OV K B s σ H (.int i) x F) : x = .int i := by cases h.rep; rfl
theorem OV.str_inv {i : Str} {x : V} (h : OV K B s σ H (.str i) x F) : x = .str i := by cases h.rep; rfl
theorem OV.bl_inv {i : Bool} {x : V} (h : OV K B s σ H (.bl i) x F) : x = .bl i := by cases h.rep; rfl
theorem OV.non_inv {x : V} (h : OV K B s σ H .non x F) : x = .non := by cases h.rep; rfl
end

/-! ### two operands by their values -/
/-- the value function g is what the rule r asks -/
def OpD (K : PySem.W.Frag) (g : D → D → Option (Bool × D)) (r : R2) : Prop :=
  ∀ {P B : Addr → Prop} {ia : Nat → Addr} {s : S} {σ : St} {H H0 : Hp} {Fs : Nat → List Addr} {dx dy : D} {q : Bool × D} {x y : V} {F G : List Addr} {Q : VK}, SR K P B ia s σ H Fs → OV K B s σ H dx x F → OV K B s σ H dy y G → Fr P H0 H → g dx dy = some q →
    (∀ v H', RV K P B ia s σ H0 H' q.1 q.2 v → Q v H') → r x y H Q
theorem OpD.or {K : PySem.W.Frag} {g g' : D → D → Option (Bool × D)} {r r' : R2} (h : OpD K g r) (h' : OpD K g' r') : OpD K (fun x y => (g x y).or (g' x y)) (fun x y H Q => r x y H Q ∨ r' x y H Q) := by
  intro P B ia s σ H H0 Fs dx dy q x y F G Q a b c d e f
  have e : (g dx dy).or (g' dx dy) = some q := e
  show r x y H Q ∨ r' x y H Q
  cases z : g dx dy with
  | some w => rw [z] at e; exact .inl (h a b c d (z.trans e) f)
  | none => rw [z] at e; exact .inr (h' a b c d e f)
/-- a pure two-place operation -/
def binM (g : D → D → Option (Bool × D)) (a b : Opd) : M (Bool × D) := op2 a b fun x y s => match g x y with
  | some r => .ok r s
  | none => .stuck
theorem op2_post {α : Type} {a b : Opd} {k : D → D → S → Res α} {s : S} {E : Exn → S → Prop} {Q : α → S → Prop} (h : Post E Q (op2 a b k s)) : Post E (fun (q : D × D) s' => Post E Q (k q.1 q.2 s')) (op2 a b (fun x y s => .ok (x, y) s) s) := by
  unfold op2 at h ⊢
  cases e : a.run s with
  | ok x s1 =>
    rw [e] at h
    simp only [Res.bind_ok] at h ⊢
    cases e2 : b.run s1 with
    | ok y s2 =>
      rw [e2] at h
      simp only [Res.bind_ok] at h ⊢
      cases e3 : a.get s2 x with
      | some dx =>
        cases e4 : b.get s2 y with
        | some dy => rw [e3, e4] at h; exact h
        | none => rw [e3, e4] at h; exact h
      | none => rw [e3] at h; exact h
    | exc z s2 => rw [e2] at h; exact h
    | stuck => rw [e2] at h; exact h
  | exc z s2 => rw [e] at h; exact h
  | stuck => rw [e] at h; exact h
theorem op1_post {α : Type} {a : Opd} {k : D → S → Res α} {s : S} {E : Exn → S → Prop} {Q : α → S → Prop} (h : Post E Q (op1 a k s)) : Post E (fun q s' => Post E Q (k q s')) (op1 a Res.ok s) := by
  unfold op1 at h ⊢
  cases e : a.run s with
  | ok x s1 =>
    rw [e] at h
    simp only [Res.bind_ok] at h ⊢
    cases e3 : a.get s1 x with
    | some dx => rw [e3] at h; exact h
    | none => rw [e3] at h; exact h
  | exc z s2 => rw [e] at h; exact h
  | stuck => rw [e] at h; exact h
theorem tD_op {K : PySem.W.Frag} {E : WX} {g : D → D → Option (Bool × D)} {r : R2} (hd : OpD K g r) {a b : Opd} (σ : St) (H : Hp) (Q : VK) (h : tD K E (binM g a b) σ H Q) : tOp r (rdO K E a) (rdO K E b) σ H Q := by
  obtain ⟨P, B, ia, s, Fs, R, h⟩ := h
  refine rd2 R ((op2_post h).mono (fun _ _ q => q) fun q s' w x y H' F G Fs' o1 o2 fr R' => ?_)
  cases e : g q.1 q.2 with
  | none => rw [e] at w; exact (show False from w).elim
  | some z =>
    rw [e] at w
    exact hd R' o1 o2 fr e w

section
variable {X : Cx} {E : WX} {a b c : Expr} {oa ob oc : Opd} {pos : Pos}
theorem de_op {op : Operator} {g : D → D → Option (Bool × D)} {r : R2} (ho : OpR X (binaryOp op) r) (hd : OpD X.K g r) (ha : PE X a (rdO X.K E oa)) (hb : PE X b (rdO X.K E ob)) : PE X (.BinOp a op b pos) (tD X.K E (binM g oa ob)) :=
  (pe_op ho ha hb).imp (tD_op hd)
theorem de_cmp {op : CmpOp} {g : D → D → Option (Bool × D)} {r : R2} (ho : OpR X (compareOp op) r) (hd : OpD X.K g r) (ha : PE X a (rdO X.K E oa)) (hb : PE X b (rdO X.K E ob)) (hm : behindInMarks op b = false) : PE X (.Compare a [op] [b] pos) (tD X.K E (binM g oa ob)) :=
  (pe_cmpR ho ha hb hm).imp (tD_op hd)
theorem de_ix {g : D → D → Option (Bool × D)} {r : R2} (ho : IxR X r) (hd : OpD X.K g r) (ha : PE X a (rdO X.K E oa)) (hb : PE X b (rdO X.K E ob)) (hs : PlainIx b := by exact fun _ _ => rfl) : PE X (.Subscript a b pos) (tD X.K E (binM g oa ob)) :=
  (pe_ix ho ha hb hs).imp (tD_op hd)
theorem OpR.or {f : Value → Value → Sem Value} {r r' : R2} (h : OpR X f r) (h' : OpR X f r') : OpR X f (fun x y H Q => r x y H Q ∨ r' x y H Q) := fun pins s σ H x y v u Q I rx ry q => q.elim (h pins s σ H x y v u Q I rx ry) (h' pins s σ H x y v u Q I rx ry)
end

/-! ### + - * // % -/
def addD : D → D → Option (Bool × D)
  | .int i, .int j => some (false, .int (i + j))
  | .str x, .str y => if x.length + y.length ≤ sizeLine then some (false, .str (x ++ y)) else none
  | .lst xs, .lst ys => if xs.length + ys.length ≤ sizeLine then some (true, .lst (xs ++ ys)) else none
  | .tup xs, .tup ys => if xs.length + ys.length ≤ sizeLine then some (false, .tup (xs ++ ys)) else none
  | _, _ => none
def rAdd (K : PySem.W.Frag) : R2 := fun x y H Q => rI0 (fun i j => .int (i + j)) x y H Q ∨ (∃ i j, x = .str i ∧ y = .str j ∧ i.length + j.length ≤ sizeLine ∧ Q (.str (i ++ j)) H) ∨ rCat x y H Q ∨ rCatA K x y H Q
theorem opd_add {K : PySem.W.Frag} : OpD K addD (rAdd K) := by
  intro P B ia s σ H H0 Fs dx dy q x y F G Q R o1 o2 fr e k
  unfold addD at e
  split at e
  · cases e; exact .inl ⟨_, _, o1.int_inv, o2.int_inv, k _ _ (.flat .int fr R)⟩
  · split at e
    · rename_i hz
      cases e
      exact .inr (.inl ⟨_, _, o1.str_inv, o2.str_inv, hz, k _ _ (.flat .str fr R)⟩)
    · cases e
  · split at e
    · rename_i hz
      cases e
      obtain ⟨a, vs, F', e1, h1, h2, no, ib⟩ := o1.lst_inv
      obtain ⟨a', vs', F'', e1', h1', h2', no', ib'⟩ := o2.lst_inv
      exact .inr (.inr (.inl ⟨a, a', vs, vs', e1, e1', h1, h1', by rw [← h2.length, ← h2'.length]; exact hz, fun p np => k _ _ (.lst (h2.append h2') (no.app no') (fun b m => (List.mem_append.mp m).elim (ib b) (ib' b)) fr R np)⟩))
    · cases e
  · split at e
    · rename_i hz
      cases e
      obtain ⟨a, vs, e1, h1, h2, no⟩ := o1.tup_inv
      obtain ⟨a', vs', e1', h1', h2', no'⟩ := o2.tup_inv
      refine .inr (.inr (.inr ⟨a, a', vs, vs', e1, e1', h1, h1', by rw [← h2.length, ← h2'.length]; exact hz, fun en => ?_, fun _ en => ?_, fun _ _ p np => k _ _ (.tup (h2.append h2') (no.app no') (fun b m => (List.mem_append.mp m).elim (o1.inB b) (o2.inB b)) fr R np)⟩))
      · subst en
        cases h2
        exact k _ _ (.part (.tup h1' h2') no' o2.inB fr R)
      · subst en
        cases h2'
        exact k _ _ (.part (F := F) (.tup h1 (by simpa using h2)) no o1.inB fr R)
    · cases e
  · cases e
theorem or_add {X : Cx} : OpR X (binaryOp .Add) (rAdd X.K) := OpR.or op_add (OpR.or op_add_str (OpR.or op_cat op_catA))
/-- two ints, an int -/
def intD (C : Int → Int → Bool) (f : Int → Int → Int) : D → D → Option (Bool × D)
  | .int i, .int j => if C i j then some (false, .int (f i j)) else none
  | _, _ => none
theorem opd_int {K : PySem.W.Frag} {C : Int → Int → Bool} {C' : Int → Int → Prop} {f : Int → Int → Int} (h : ∀ i j, C i j = true → C' i j) : OpD K (intD C f) (rI C' fun i j => .int (f i j)) := by
  intro P B ia s σ H H0 Fs dx dy q x y F G Q R o1 o2 fr e k
  unfold intD at e
  split at e
  · split at e
    · rename_i hc
      cases e; exact ⟨_, _, o1.int_inv, o2.int_inv, h _ _ hc, k _ _ (.flat .int fr R)⟩
    · cases e
  · cases e
theorem opd_int0 {K : PySem.W.Frag} {f : Int → Int → Int} : OpD K (intD (fun _ _ => true) f) (rI0 fun i j => .int (f i j)) := by
  intro P B ia s σ H H0 Fs dx dy q x y F G Q R o1 o2 fr e k
  unfold intD at e
  split at e
  · cases e; exact ⟨_, _, o1.int_inv, o2.int_inv, k _ _ (.flat .int fr R)⟩
  · cases e
abbrev subD := intD (fun _ _ => true) fun i j => i - j
noncomputable abbrev mulD := intD (fun i j => gd ((-(2 ^ 64) < i ∧ i < 2 ^ 64) ∨ (-(2 ^ 64) < j ∧ j < 2 ^ 64))) fun i j => i * j
noncomputable abbrev divD := intD (fun _ j => gd (0 < j ∧ j < 1073741824)) fun i j => i / j
abbrev modD := intD (fun _ j => decide (0 < j)) fun i j => i % j
theorem opd_mul {K : PySem.W.Frag} : OpD K mulD (rI CMul fun i j => .int (i * j)) := opd_int fun _ _ h => gd_iff.mp h
theorem opd_div {K : PySem.W.Frag} : OpD K divD (rI CDiv fun i j => .int (i / j)) := opd_int fun _ _ h => gd_iff.mp h
theorem opd_mod {K : PySem.W.Frag} : OpD K modD (rI (fun _ j => 0 < j) fun i j => .int (i % j)) := opd_int fun _ _ h => of_decide_eq_true h

/-! ### comparisons -/
mutual
/-- the value as data -/
def D.py : D → Option PyData
  | .non => some .none
  | .bl b => some (.bool b)
  | .int i => some (.int i)
  | .str x => some (.str x)
  | .tup ds => (D.pys ds).map .tuple
  | .lst ds => (D.pys ds).map .list
  | .fro ds => (D.pys ds).map .list
  | .dct _ => none
  | .ty _ => none
def D.pys : List D → Option (List PyData)
  | [] => some []
  | d :: ds => (D.py d).bind fun x => (D.pys ds).map fun xs => x :: xs
end
mutual
theorem Rep.dp {K : PySem.W.Frag} {H : Hp} : ∀ {d : D} {v : V} {F : List Addr} {p : PyData}, Rep K H d v F → d.py = some p → Dp K H v p
  | .non, _, _, _, h, e => by cases h; cases e; exact .non
  | .bl _, _, _, _, h, e => by cases h; cases e; exact .bl _
  | .int _, _, _, _, h, e => by cases h; cases e; exact .int _
  | .str _, _, _, _, h, e => by cases h; cases e; exact .str _
  | .ty _, _, _, _, h, e => by cases e
  | .dct _, _, _, _, h, e => by cases e
  | .tup ds, _, _, _, h, e => by
    cases h with
    | tup h1 h2 =>
      rw [D.py] at e
      obtain ⟨ps, e1, e2⟩ := Option.map_eq_some_iff.mp e
      subst e2
      exact .tup h1 (Reps.dp h2 e1)
  | .lst ds, _, _, _, h, e => by
    cases h with
    | lst h1 h2 =>
      rw [D.py] at e
      obtain ⟨ps, e1, e2⟩ := Option.map_eq_some_iff.mp e
      subst e2
      exact .lst (SqL.of h1) (Reps.dp h2 e1)
  | .fro ds, _, _, _, h, e => by
    cases h with
    | lsz h1 h2 =>
      rw [D.py] at e
      obtain ⟨ps, e1, e2⟩ := Option.map_eq_some_iff.mp e
      subst e2
      exact .lst (fz_sq h1) (Reps.dp h2 e1)
theorem Reps.dp {K : PySem.W.Frag} {H : Hp} : ∀ {ds : List D} {vs : List V} {F : List Addr} {ps : List PyData}, Reps K H ds vs F → D.pys ds = some ps → DpAll K H vs ps
  | [], _, _, _, h, e => by cases h; cases e; exact .nil
  | d :: ds, _, _, _, h, e => by
    cases h with
    | cons h1 h2 =>
      rw [D.pys] at e
      obtain ⟨x, e1, e2⟩ := Option.bind_eq_some_iff.mp e
      obtain ⟨xs, e3, e4⟩ := Option.map_eq_some_iff.mp e2
      subst e4
      exact .cons (Rep.dp h1 e1) (Reps.dp h2 e3)
end
def D.shp (d : D) : Option PyData := d.py.bind fun p => if SeqAt.shaped p then some p else none
theorem D.shp_inv {d : D} {p : PyData} (h : d.shp = some p) : d.py = some p ∧ SeqAt.shaped p = true := by
  unfold D.shp at h
  obtain ⟨x, e1, e2⟩ := Option.bind_eq_some_iff.mp h
  split at e2
  · rename_i hs; cases e2; exact ⟨e1, hs⟩
  · cases e2
/-- == -/
def eqD (x y : D) : Option Bool := x.shp.bind fun p => y.shp.map fun q => PyData.eqv p q
def eqDD (neg : Bool) (x y : D) : Option (Bool × D) := (eqD x y).map fun b => (false, .bl (if neg then !b else b))
theorem opd_eq {K : PySem.W.Frag} : OpD K (eqDD false) (rEqD K) := by
  intro P B ia s σ H H0 Fs dx dy q x y F G Q R o1 o2 fr e k
  unfold eqDD eqD at e
  obtain ⟨b, e1, e2⟩ := Option.map_eq_some_iff.mp e
  obtain ⟨p, e3, e4⟩ := Option.bind_eq_some_iff.mp e1
  obtain ⟨p', e5, e6⟩ := Option.map_eq_some_iff.mp e4
  obtain ⟨g1, g2⟩ := D.shp_inv e3
  obtain ⟨g3, g4⟩ := D.shp_inv e5
  subst e2 e6
  exact ⟨p, p', o1.rep.dp g1, o2.rep.dp g3, g2, g4, k _ _ (.flat .bl fr R)⟩
theorem opd_ne {K : PySem.W.Frag} : OpD K (eqDD true) (rNeD K) := by
  intro P B ia s σ H H0 Fs dx dy q x y F G Q R o1 o2 fr e k
  unfold eqDD eqD at e
  obtain ⟨b, e1, e2⟩ := Option.map_eq_some_iff.mp e
  obtain ⟨p, e3, e4⟩ := Option.bind_eq_some_iff.mp e1
  obtain ⟨p', e5, e6⟩ := Option.map_eq_some_iff.mp e4
  obtain ⟨g1, g2⟩ := D.shp_inv e3
  obtain ⟨g3, g4⟩ := D.shp_inv e5
  subst e2 e6
  exact ⟨p, p', o1.rep.dp g1, o2.rep.dp g3, g2, g4, k _ _ (.flat .bl fr R)⟩
/-- < and its like: ints, texts -/
def ordD (f : Int → Int → Bool) (g : List Nat → List Nat → Bool) : D → D → Option (Bool × D)
  | .int i, .int j => some (false, .bl (f i j))
  | .str x, .str y => some (false, .bl (g x.cps.toList y.cps.toList))
  | _, _ => none
abbrev ltD := ordD (fun i j => decide (i < j)) fun x y => decide (x < y)
abbrev leD := ordD (fun i j => decide (i ≤ j)) fun x y => !decide (y < x)
abbrev gtD := ordD (fun i j => decide (j < i)) fun x y => decide (y < x)
abbrev geD := ordD (fun i j => decide (j ≤ i)) fun x y => !decide (x < y)
def rOrd (f : Int → Int → Bool) (g : List Nat → List Nat → Bool) : R2 := fun x y H Q => rI0 (fun i j => .bl (f i j)) x y H Q ∨ ∃ i j, x = .str i ∧ y = .str j ∧ Q (.bl (g i.cps.toList j.cps.toList)) H
theorem opd_ord {K : PySem.W.Frag} {f : Int → Int → Bool} {g : List Nat → List Nat → Bool} : OpD K (ordD f g) (rOrd f g) := by
  intro P B ia s σ H H0 Fs dx dy q x y F G Q R o1 o2 fr e k
  unfold ordD at e
  split at e
  · cases e; exact .inl ⟨_, _, o1.int_inv, o2.int_inv, k _ _ (.flat .bl fr R)⟩
  · cases e; exact .inr ⟨_, _, o1.str_inv, o2.str_inv, k _ _ (.flat .bl fr R)⟩
  · cases e
section
variable {X : Cx}
theorem or_lt : OpR X (compareOp .Lt) (rOrd (fun i j => decide (i < j)) fun x y => decide (x < y)) := OpR.or op_lt op_lt_str
theorem or_le : OpR X (compareOp .LtE) (rOrd (fun i j => decide (i ≤ j)) fun x y => !decide (y < x)) := OpR.or op_le op_le_str
theorem or_gt : OpR X (compareOp .Gt) (rOrd (fun i j => decide (j < i)) fun x y => decide (y < x)) := OpR.or op_gt op_gt_str
theorem or_ge : OpR X (compareOp .GtE) (rOrd (fun i j => decide (j ≤ i)) fun x y => !decide (x < y)) := OpR.or op_ge op_ge_str
end
/-- is None, is not None -/
def isD (neg : Bool) : D → D → Option (Bool × D)
  | .non, .non => some (false, .bl (!neg))
  | _, .non => some (false, .bl neg)
  | _, _ => none
theorem opd_isN {K : PySem.W.Frag} : OpD K (isD false) (fun x y H Q => y = .non ∧ Q (.bl (decide (x = .non))) H) := by
  intro P B ia s σ H H0 Fs dx dy q x y F G Q R o1 o2 fr e k
  unfold isD at e
  split at e
  · cases e
    refine ⟨o2.non_inv, ?_⟩
    rw [o1.non_inv]
    exact k _ _ (.flat .bl fr R)
  · rename_i hn
    cases e
    refine ⟨o2.non_inv, ?_⟩
    have : x ≠ .non := fun e => by
      subst e
      have := o1.rep
      cases this
      exact hn rfl
    rw [decide_eq_false this]
    exact k _ _ (.flat .bl fr R)
  · cases e
theorem opd_notN {K : PySem.W.Frag} : OpD K (isD true) (fun x y H Q => y = .non ∧ Q (.bl (!decide (x = .non))) H) := by
  intro P B ia s σ H H0 Fs dx dy q x y F G Q R o1 o2 fr e k
  unfold isD at e
  split at e
  · cases e
    refine ⟨o2.non_inv, ?_⟩
    rw [o1.non_inv]
    exact k _ _ (.flat .bl fr R)
  · rename_i hn
    cases e
    refine ⟨o2.non_inv, ?_⟩
    have : x ≠ .non := fun e => by
      subst e
      have := o1.rep
      cases this
      exact hn rfl
    rw [decide_eq_false this]
    exact k _ _ (.flat .bl fr R)
  · cases e

/-! ### in, not in -/
/-- a flat value as V -/
def D.flt : D → Option V
  | .non => some .non
  | .bl b => some (.bl b)
  | .int i => some (.int i)
  | .str x => some (.str x)
  | _ => none
theorem Rep.flt {K : PySem.W.Frag} {H : Hp} {d : D} {v w : V} {F : List Addr} (h : Rep K H d v F) (e : d.flt = some w) : v = w ∧ flatV v = true := by
  cases h <;> cases e <;> exact ⟨rfl, rfl⟩
def flts : List D → Option (List V)
  | [] => some []
  | d :: ds => d.flt.bind fun v => (flts ds).map fun vs => v :: vs
theorem Reps.flts {K : PySem.W.Frag} {H : Hp} : ∀ {ds : List D} {vs ws : List V} {F : List Addr}, Reps K H ds vs F → PV.flts ds = some ws → vs = ws ∧ vs.all flatV = true
  | [], _, _, _, h, e => by cases h; cases e; exact ⟨rfl, rfl⟩
  | d :: ds, _, _, _, h, e => by
    cases h with
    | cons h1 h2 =>
      rw [PV.flts] at e
      obtain ⟨x, e1, e2⟩ := Option.bind_eq_some_iff.mp e
      obtain ⟨xs, e3, e4⟩ := Option.map_eq_some_iff.mp e2
      subst e4
      obtain ⟨rfl, f1⟩ := h1.flt e1
      obtain ⟨rfl, f2⟩ := h2.flts e3
      exact ⟨rfl, by rw [List.all_cons, f1, f2]; rfl⟩
/-- a key as V -/
def D.key : D → Option Key
  | .int i => some (.inl i)
  | .str x => some (.inr x)
  | _ => none
theorem Rep.key {K : PySem.W.Frag} {H : Hp} {d : D} {v : V} {F : List Addr} {k : Key} (h : Rep K H d v F) (e : d.key = some k) : v = kV k := by
  cases h <;> cases e <;> rfl
/-- what a dict holds at a key -/
def kget (kds : List (Key × D)) (k : Key) : Option D := (kds.find? fun q => decide (q.1 = k)).map (·.2)
theorem RepK.get {K : PySem.W.Frag} {H : Hp} (k : Key) : ∀ {kds : List (Key × D)} {kvs : List (Key × V)} {F : List Addr}, RepK K H kds kvs F →
    (kget kds k = none ∧ valV kvs k = none) ∨ ∃ d v G, kget kds k = some d ∧ valV kvs k = some v ∧ Rep K H d v G ∧ ∀ a, a ∈ G → a ∈ F
  | [], _, _, h => by cases h; exact .inl ⟨rfl, rfl⟩
  | (k', d) :: ds, _, _, h => by
    cases h with
    | @cons _ _ v F _ vs G h1 h2 =>
      by_cases e : k' = k
      · refine .inr ⟨d, v, F, ?_, valV_pos (p := (k', v)) e, h1, fun a m => List.mem_append_left _ m⟩
        simp [kget, List.find?_cons, e]
      · have e1 : kget ((k', d) :: ds) k = kget ds k := by simp [kget, List.find?_cons, e]
        have e2 : valV ((k', v) :: vs) k = valV vs k := valV_neg (p := (k', v)) e
        rw [e1, e2]
        rcases RepK.get k h2 with q | ⟨d', v', G', q1, q2, q3, q4⟩
        · exact .inl q
        · exact .inr ⟨d', v', G', q1, q2, q3, fun a m => List.mem_append_right _ (q4 a m)⟩
/-- c in s of texts: the model's own word -/
def inStr (i j : Str) : Bool := !(Builtin.Str.occurrences j i 0 j.length 1).isEmpty
def inD (neg : Bool) (x y : D) : Option (Bool × D) := match x, y with
  | .str i, .str j => some (false, .bl (if neg then !inStr i j else inStr i j))
  | x, .dct kds => x.key.map fun k => (false, .bl (if neg then !(kget kds k).isSome else (kget kds k).isSome))
  | x, .tup ds => x.flt.bind fun v => (flts ds).map fun vs => (false, .bl (if neg then !inV v vs else inV v vs))
  | x, .lst ds => match x.flt.bind fun v => (flts ds).map fun vs => (false, D.bl (if neg then !inV v vs else inV v vs)) with
    | some r => some r
    | none => x.shp.bind fun p => (D.lst ds).shp.bind fun q => match q with
      | .list ps => some (false, .bl (if neg then !(ps.any fun z => PyData.eqv z p) else ps.any fun z => PyData.eqv z p))
      | _ => none
  | _, _ => none
/-- the dict's part of in -/
def rInK (neg : Bool) : R2 := fun x y H Q => ∃ a kvs k, y = .ref a ∧ Rd H a (.dK kvs) ∧ x = kV k ∧ Q (.bl (if neg then !(valV kvs k).isSome else (valV kvs k).isSome)) H
def rInA (K : PySem.W.Frag) (neg : Bool) : R2 := fun x y H Q => (∃ i j, x = .str i ∧ y = .str j ∧ Q (.bl (if neg then !inStr i j else inStr i j)) H) ∨ rInK neg x y H Q ∨ rIn K neg x y H Q ∨ (if neg then rNotInD K else rInD K) x y H Q
theorem opd_in {K : PySem.W.Frag} {neg : Bool} : OpD K (inD neg) (rInA K neg) := by
  intro P B ia s σ H H0 Fs dx dy q x y F G Q R o1 o2 fr e k
  unfold inD at e
  split at e
  · cases e; exact .inl ⟨_, _, o1.str_inv, o2.str_inv, k _ _ (.flat .bl fr R)⟩
  · rename_i kds
    obtain ⟨kk, e1, e2⟩ := Option.map_eq_some_iff.mp e
    cases e2
    obtain ⟨a, kvs, G', ea, h1, h2, no, ib⟩ := o2.dct_inv
    refine .inr (.inl ⟨a, kvs, kk, ea, .inl h1, o1.rep.key e1, ?_⟩)
    have : (valV kvs kk).isSome = (kget kds kk).isSome := by
      rcases h2.get kk with ⟨q1, q2⟩ | ⟨d, v, G', q1, q2, _⟩
      · rw [q1, q2] <;> rfl
      · rw [q1, q2] <;> rfl
    rw [this]
    exact k _ _ (.flat .bl fr R)
  · obtain ⟨v, e1, e2⟩ := Option.bind_eq_some_iff.mp e
    obtain ⟨vs, e3, e4⟩ := Option.map_eq_some_iff.mp e2
    cases e4
    obtain ⟨a, ws, ea, h1, h2, no⟩ := o2.tup_inv
    obtain ⟨rfl, f1⟩ := o1.rep.flt e1
    obtain ⟨rfl, f2⟩ := h2.flts e3
    exact .inr (.inr (.inl ⟨a, ws, ea, .inr h1, f1, f2, k _ _ (.flat .bl fr R)⟩))
  · split at e
    · rename_i r hr
      cases e
      obtain ⟨v, e1, e2⟩ := Option.bind_eq_some_iff.mp hr
      obtain ⟨vs, e3, e4⟩ := Option.map_eq_some_iff.mp e2
      cases e4
      obtain ⟨a, ws, G', ea, h1, h2, no, ib⟩ := o2.lst_inv
      obtain ⟨rfl, f1⟩ := o1.rep.flt e1
      obtain ⟨rfl, f2⟩ := h2.flts e3
      exact .inr (.inr (.inl ⟨a, ws, ea, .inl (SqL.of h1), f1, f2, k _ _ (.flat .bl fr R)⟩))
    · obtain ⟨p, e1, e2⟩ := Option.bind_eq_some_iff.mp e
      obtain ⟨q', e3, e4⟩ := Option.bind_eq_some_iff.mp e2
      split at e4
      · rename_i ps
        cases e4
        obtain ⟨g1, g2⟩ := D.shp_inv e1
        obtain ⟨g3, g4⟩ := D.shp_inv e3
        refine .inr (.inr (.inr ?_))
        cases neg with
        | true => exact ⟨p, ps, o1.rep.dp g1, o2.rep.dp g3, g2, g4, k _ _ (.flat .bl fr R)⟩
        | false => exact ⟨p, ps, o1.rep.dp g1, o2.rep.dp g3, g2, g4, k _ _ (.flat .bl fr R)⟩
      · cases e4
  · cases e
section
variable {X : Cx}
theorem op_inK (hu : X.A.units + 1 < cLine) : OpR X (compareOp .In) (rInK false) := by
  intro pins s σ H x y v u Q I rx ry h
  obtain ⟨a, kvs, k, rfl, h1, rfl, q⟩ := h
  cases ry
  exact d_in hu I (.inl ⟨kvs, k, h1, rfl, rfl⟩) rx fun s' I' => ⟨.bl _, H, I', rfl, q⟩
theorem op_notinK (hu : X.A.units + 1 < cLine) : OpR X (compareOp .NotIn) (rInK true) := by
  intro pins s σ H x y v u Q I rx ry h
  obtain ⟨a, kvs, k, rfl, h1, rfl, q⟩ := h
  cases ry
  exact d_notIn hu I (.inl ⟨kvs, k, h1, rfl, rfl⟩) rx fun s' I' => ⟨.bl _, H, I', rfl, q⟩
theorem or_in (hu : X.A.units + 65 < cLine) : OpR X (compareOp .In) (rInA X.K false) := OpR.or op_in_str (OpR.or (op_inK (by omega)) (OpR.or op_in_seq (op_inD hu)))
theorem or_notin (hu : X.A.units + 65 < cLine) : OpR X (compareOp .NotIn) (rInA X.K true) := OpR.or op_notin_str (OpR.or (op_notinK (by omega)) (OpR.or op_notIn_seq (op_notInD hu)))
end
end PV

/-! PV: operands in a row; subscripts, slices, truth, tests, displays, names. -/
namespace PV
open PySem PySem.Spec L2

/-! ### any number of operands -/
def rdOs (K : PySem.W.Frag) (E : WX) : List Opd → TA
  | [] => tNil
  | o :: os => tCons (rdO K E o) (rdOs K E os)
def runs : List Opd → M (List (Option D))
  | [] => fun s => .ok [] s
  | o :: os => fun s => (o.run s).bind fun x s1 => (runs os s1).bind fun xs s2 => .ok (x :: xs) s2
def gets (s : S) : List Opd → List (Option D) → Option (List D)
  | [], _ => some []
  | o :: os, x :: xs => match o.get s x, gets s os xs with
    | some d, some ds => some (d :: ds)
    | _, _ => none
  | _ :: _, [] => none
def opsM {α : Type} (os : List Opd) (k : List D → S → Res α) : M α := fun s => (runs os s).bind fun xs s1 => match gets s1 os xs with
  | some ds => k ds s1
  | none => .stuck
def Opd.isEx : Opd → Bool
  | .ex _ => true
  | .sl _ => false
inductive OVs (K : PySem.W.Frag) (B : Addr → Prop) (s : S) (σ : St) (H : Hp) : List Opd → List D → List V → List (List Addr) → Prop
  | nil : OVs K B s σ H [] [] [] []
  | cons {o : Opd} {os : List Opd} {d : D} {ds : List D} {v : V} {vs : List V} {F : List Addr} {Fs : List (List Addr)} : OV K B s σ H d v F → (o.isEx = true → NoOwn s σ F) →
      (∀ i, o = .sl i → ∃ w, s[i]? = some (some (w, d)) ∧ σ[i]? = some (some v)) → OVs K B s σ H os ds vs Fs → OVs K B s σ H (o :: os) (d :: ds) (v :: vs) (F :: Fs)
section
variable {K : PySem.W.Frag} {B : Addr → Prop} {ia : Nat → Addr} {σ : St} {E : WX}
theorem rdN (os : List Opd) : ∀ {P : Addr → Prop} {s : S} {H : Hp} {Fs : Nat → List Addr} {R : List V → Hp → Prop}, SR K P B ia s σ H Fs →
    Post (fun x s' => ∀ cls dx H', RX K P B ia s' σ H H' x cls dx → E cls dx σ H') (fun xs s' => ∀ vs H' Fs', (∀ ds, gets s' os xs = some ds → ∃ Gs, OVs K B s' σ H' os ds vs Gs) → Fr P H H' → SR K P B ia s' σ H' Fs' → R vs H') (runs os s) →
    rdOs K E os σ H R := by
  induction os with
  | nil =>
    intro P s H Fs R r h
    exact h [] H Fs (fun ds e => by cases e; exact ⟨[], .nil⟩) Fr.refl r
  | cons o os ih =>
    intro P s H Fs R r h
    cases o with
    | ex f =>
      refine ⟨P, B, ia, s, Fs, r, ?_⟩
      have h' := Post.bind (Post.bind (r := (f s).bind fun (r : Bool × D) s' => Res.ok (some r.2) s') h)
      refine h'.mono (fun _ _ q => q) fun a s1 q v H1 w => ?_
      obtain ⟨F, Fs1, h1, h2, h3, h4, h5⟩ := w
      have q' := Post.bind (r := runs os s1) q
      refine ih h4 (q'.mono (fun x s2 e cls dx H2 w2 => e cls dx H2 (w2.weak h2 fun b m => .inl m)) fun xs s2 e vs H2 Fs2 g fr r2 => ?_)
      refine e (v :: vs) H2 Fs2 (fun ds ed => ?_) (h2.trans (fr.mono fun b m => .inl m)) (r2.weak fun b m => .inl m)
      simp only [gets, Opd.get] at ed
      cases eg : gets s2 os xs with
      | none => rw [eg] at ed; cases ed
      | some ds' =>
        rw [eg] at ed; cases ed
        obtain ⟨Gs, hg⟩ := g ds' eg
        have no : NoOwn s2 σ F := r2.noOwn fun a m => .inr m
        exact ⟨F :: Gs, .cons ⟨h1.keep fr.i fun a m => fr.p a (.inr m), h3, .inl no⟩ (fun _ => no) (fun i e => nomatch e) hg⟩
    | sl i =>
      simp only [runs, Opd.run] at h
      match e : s[i]? with
      | some none => simp only [e] at h; exact h.elim
      | none => simp only [e] at h; exact h.elim
      | some (some (o, d)) =>
        obtain ⟨v, F, hv, h2⟩ := r.opd e
        simp only [e, Res.bind_ok] at h
        refine ⟨v, hv, ?_⟩
        have h' := Post.bind (r := runs os s) h
        refine ih r (h'.mono (fun _ _ q => q) fun xs s2 q vs H2 Fs2 g fr r2 => ?_)
        refine q (v :: vs) H2 Fs2 (fun ds ed => ?_) fr r2
        simp only [gets, Opd.get] at ed
        match e2 : s2[i]? with
        | some none => rw [e2] at ed; cases ed
        | none => rw [e2] at ed; cases ed
        | some (some (o2, d2)) =>
          rw [e2] at ed
          cases eg : gets s2 os xs with
          | none => rw [eg] at ed; cases ed
          | some ds' =>
            rw [eg] at ed; cases ed
            obtain ⟨Gs, hg⟩ := g ds' eg
            obtain ⟨w, G, e3, e4⟩ := r2.opd e2
            rw [hv] at e3; cases e3
            exact ⟨G :: Gs, .cons e4 (fun z => nomatch z) (fun j z => by cases z; exact ⟨o2, e2, hv⟩) hg⟩
theorem rdOps {P : Addr → Prop} {s : S} {H : Hp} {Fs : Nat → List Addr} {α : Type} {k : List D → S → Res α} {os : List Opd} {R : List V → Hp → Prop} {QX : Exn → S → Prop} {Q : α → S → Prop} (r : SR K P B ia s σ H Fs)
    (h : Post QX Q (opsM os k s)) (hx : ∀ x s', QX x s' → ∀ cls dx H', RX K P B ia s' σ H H' x cls dx → E cls dx σ H')
    (hk : ∀ ds s' vs H' Gs Fs', Post QX Q (k ds s') → OVs K B s' σ H' os ds vs Gs → Fr P H H' → SR K P B ia s' σ H' Fs' → R vs H') : rdOs K E os σ H R := by
  refine rdN os r ((Post.bind (r := runs os s) h).mono hx fun xs s' q vs H' Fs' g fr r' => ?_)
  cases eg : gets s' os xs with
  | none => rw [eg] at q; exact q.elim
  | some ds =>
    rw [eg] at q
    obtain ⟨Gs, hg⟩ := g ds eg
    exact hk ds s' vs H' Gs Fs' q hg fr r'
/-- all that expressions brought, as one row -/
theorem OVs.reps {s : S} {H : Hp} : ∀ {os : List Opd} {ds : List D} {vs : List V} {Gs : List (List Addr)}, OVs K B s σ H os ds vs Gs → os.all Opd.isEx = true → ∃ G, Reps K H ds vs G ∧ NoOwn s σ G ∧ ∀ a, a ∈ G → B a
  | _, _, _, _, .nil, _ => ⟨[], .nil, .nil, fun _ m => nomatch m⟩
  | _, _, _, _, .cons h1 h2 _ h4, e => by
    rw [List.all_cons, Bool.and_eq_true] at e
    obtain ⟨G, g1, g2, g3⟩ := h4.reps e.2
    exact ⟨_, .cons h1.rep g1, (h2 e.1).app g2, fun a m => (List.mem_append.mp m).elim (h1.inB a) (g3 a)⟩
theorem OVs.length {s : S} {H : Hp} : ∀ {os : List Opd} {ds : List D} {vs : List V} {Gs : List (List Addr)}, OVs K B s σ H os ds vs Gs → ds.length = vs.length ∧ ds.length = os.length
  | _, _, _, _, .nil => ⟨rfl, rfl⟩
  | _, _, _, _, .cons h1 h2 _ h4 => ⟨by simp [h4.length.1], by simp [h4.length.2]⟩
end

/-! ### names, constants -/
def constM (d : D) : M (Bool × D) := fun s => .ok (false, d) s
/-- a name read: what was one's own is shared from then on -/
def varM (i : Nat) : M (Bool × D) := fun s => match s[i]? with
  | some (some (.sh, d)) => .ok (false, d) s
  | some (some (.ow, d)) => .ok (false, d) (s.set i (some (.sh, d)))
  | _ => .stuck
/-- a name read for the last time -/
def moveM (i : Nat) : M (Bool × D) := fun s => match s[i]? with
  | some (some (.sh, d)) => .ok (false, d) s
  | some (some (.ow, d)) => .ok (true, d) (s.set i none)
  | _ => .stuck
section
variable {K : PySem.W.Frag} {P B : Addr → Prop} {ia : Nat → Addr} {s : S} {σ : St} {H H' H1 : Hp} {Fs : Nat → List Addr} {E : WX} {d : D} {v : V} {F : List Addr}
theorem get_set_eq {s : S} {i : Nat} {x y : Slot} (h : s[i]? = some x) : (s.set i y)[i]? = some y := List.getElem?_set_self (List.getElem?_eq_some_iff.mp h).1
theorem get_set_ne {s : S} {i j : Nat} {y : Slot} (h : j ≠ i) : (s.set i y)[j]? = s[j]? := List.getElem?_set_ne fun e => h e.symm
/-- what was one's own is shared -/
theorem SR.share (r : SR K P B ia s σ H Fs) {i : Nat} {o : Own} (e : s[i]? = some (some (o, d))) : SR K P B ia (s.set i (some (.sh, d))) σ H Fs := by
  refine ⟨by simp [r.len], fun j o' d' q => ?_, fun j o' d' q n => ?_, fun j d' q => ?_, fun j q => ?_, r.inB, r.tr, r.nb⟩
  · by_cases h : j = i
    · subst h
      rw [get_set_eq e] at q; cases q
      exact r.rep j _ d e
    · rw [get_set_ne h] at q; exact r.rep j o' d' q
  · by_cases h : j = i
    · subst h
      rw [get_set_eq e] at q; cases q
      exact absurd rfl n
    · rw [get_set_ne h] at q; exact r.own j o' d' q n
  · by_cases h : j = i
    · subst h
      rw [get_set_eq e] at q; cases q
    · rw [get_set_ne h] at q; exact r.iov j d' q
  · by_cases h : j = i
    · subst h
      exact absurd (get_set_eq e) (q .sh d)
    · exact r.dead j fun o' d' z => q o' d' (by rw [get_set_ne h]; exact z)
/-- a slot falls -/
theorem SR.kill (r : SR K P B ia s σ H Fs) {i : Nat} {x : Slot} (e : s[i]? = some x) : SR K P B ia (s.set i none) σ H (fun j => if j = i then [] else Fs j) := by
  refine ⟨by simp [r.len], fun j o' d' q => ?_, fun j o' d' q n => ?_, fun j d' q => ?_, fun j q => ?_, fun j a m => ?_, r.tr, r.nb⟩
  · by_cases h : j = i
    · subst h
      rw [get_set_eq e] at q; cases q
    · rw [get_set_ne h] at q; rw [if_neg h]; exact r.rep j o' d' q
  · by_cases h : j = i
    · subst h
      rw [get_set_eq e] at q; cases q
    · rw [get_set_ne h] at q; rw [if_neg h]
      obtain ⟨a, F, h1, h2, h3, h4, h5, h6⟩ := r.own j o' d' q n
      refine ⟨a, F, h1, h2, h3, h4, h5, fun k hk => ?_⟩
      by_cases hk2 : k = i
      · rw [if_pos hk2]; simp
      · rw [if_neg hk2]; exact h6 k hk
  · by_cases h : j = i
    · subst h
      rw [get_set_eq e] at q; cases q
    · rw [get_set_ne h] at q; exact r.iov j d' q
  · by_cases h : j = i
    · rw [if_pos h]
    · rw [if_neg h]
      exact r.dead j fun o' d' z => q o' d' (by rw [get_set_ne h]; exact z)
  · by_cases h : j = i
    · rw [if_pos h] at m; cases m
    · rw [if_neg h] at m; exact r.inB j a m
theorem tD_const {E : WX} {d : D} {v : V} (h : ∀ H, Rep K H d v []) (σ : St) (H : Hp) (Q : VK) (w : tD K E (constM d) σ H Q) : tC v σ H Q := by
  obtain ⟨P, B, ia, s, Fs, r, w⟩ := w
  exact w v H (.flat (h H) Fr.refl r)
theorem tD_var {E : WX} {i : Nat} (σ : St) (H : Hp) (Q : VK) (w : tD K E (varM i) σ H Q) : tVar i σ H Q := by
  obtain ⟨P, B, ia, s, Fs, r, w⟩ := w
  unfold varM at w
  match e : s[i]? with
  | some (some (.sh, d)) =>
    simp only [e] at w
    obtain ⟨v, h1, h2⟩ := r.rep i _ d e
    exact ⟨v, h1, w v H (.part h2 (r.noOwnF e) (fun a m => r.inB i a m) Fr.refl r)⟩
  | some (some (.ow, d)) =>
    simp only [e] at w
    obtain ⟨v, h1, h2⟩ := r.rep i _ d e
    have r2 := r.share e
    exact ⟨v, h1, w v H (.part h2 (r2.noOwnF (j := i) (get_set_eq e)) (fun a m => r.inB i a m) Fr.refl r2)⟩
  | some (some (.io, d)) => simp only [e] at w; exact w.elim
  | some none => simp only [e] at w; exact w.elim
  | none => simp only [e] at w; exact w.elim
theorem tD_move {E : WX} {i : Nat} (σ : St) (H : Hp) (Q : VK) (w : tD K E (moveM i) σ H Q) : tVar i σ H Q := by
  obtain ⟨P, B, ia, s, Fs, r, w⟩ := w
  unfold moveM at w
  match e : s[i]? with
  | some (some (.sh, d)) =>
    simp only [e] at w
    obtain ⟨v, h1, h2⟩ := r.rep i _ d e
    exact ⟨v, h1, w v H (.part h2 (r.noOwnF e) (fun a m => r.inB i a m) Fr.refl r)⟩
  | some (some (.ow, d)) =>
    simp only [e] at w
    obtain ⟨a, F, h1, h2, h3, h4, h5, h6⟩ := r.own i _ d e (by decide)
    have r2 := r.kill e
    have no : NoOwn (s.set i none) σ (a :: F) := by
      have no1 := r.noOwnT e (by decide) h2
      intro j o' d' b q n x m
      by_cases h : j = i
      · subst h
        rw [get_set_eq e] at q; cases q
      · rw [get_set_ne h] at q
        rcases List.mem_cons.mp m with rfl | m
        · obtain ⟨a', F', g1, g2, g3, g4, g5, g6⟩ := r.own j o' d' q n
          rw [x] at g1; cases g1
          exact g6 i (Ne.symm h) (by rw [h2]; exact List.mem_cons_self)
        · exact no1 j o' d' b q n x m
    refine ⟨.ref a, h1, w (.ref a) H ⟨a :: F, _, h3.rep, Fr.refl, fun b m => r.inB i b (by rw [h2]; exact m), r2.prot h3.rep.tr no, fun _ => ⟨a, F, rfl, rfl, h3, h4, h5, fun j => ?_⟩⟩⟩
    by_cases hj : j = i
    · rw [if_pos hj]; simp
    · rw [if_neg hj]; exact h6 j hj
  | some (some (.io, d)) => simp only [e] at w; exact w.elim
  | some none => simp only [e] at w; exact w.elim
  | none => simp only [e] at w; exact w.elim
end
section
variable {X : Cx} {E : WX}
theorem de_const {e : Expr} {d : D} {v : V} (he : PE X e (tC v)) (h : ∀ H, Rep X.K H d v []) : PE X e (tD X.K E (constM d)) := he.imp (tD_const h)
theorem de_var {e : Expr} {i : Nat} (he : PE X e (tVar i)) : PE X e (tD X.K E (varM i)) := he.imp tD_var
theorem de_move {e : Expr} {i : Nat} (he : PE X e (tVar i)) : PE X e (tD X.K E (moveM i)) := he.imp tD_move
theorem de_int {i j pos} : PE X (.Constant (.int i) j pos) (tD X.K E (constM (.int i))) := de_const pe_int fun _ => .int
theorem de_bl {b j pos} : PE X (.Constant (.bool b) j pos) (tD X.K E (constM (.bl b))) := de_const pe_bl fun _ => .bl
theorem de_non {j pos} : PE X (.Constant .none j pos) (tD X.K E (constM .non)) := de_const pe_non fun _ => .non
theorem de_str {x j pos} : PE X (.Constant (.str x) j pos) (tD X.K E (constM (.str x))) := de_const pe_str fun _ => .str
end

/-! ### subscripts -/
def ixD : D → D → Option (Bool × D)
  | .lst ds, .int i => (atI ds i).map fun d => (false, d)
  | .tup ds, .int i => (atI ds i).map fun d => (false, d)
  | .fro ds, .int i => (atI ds i).map fun d => (false, d)
  | .str x, .int i => if x.length ≤ sizeLine then (atI x.cps.toList i).map fun c => (false, .str ⟨#[c]⟩) else none
  | .dct kds, y => y.key.bind fun k => (kget kds k).map fun d => (false, d)
  | _, _ => none
def rIxK : R2 := fun x y H Q => ∃ a kvs k v, x = .ref a ∧ Rd H a (.dK kvs) ∧ y = kV k ∧ valV kvs k = some v ∧ Q v H
def rIxA (K : PySem.W.Frag) : R2 := fun x y H Q => rIxK x y H Q ∨ rIx K x y H Q
theorem ix_dk {X : Cx} (hu : X.A.units + 1 < cLine) : IxR X rIxK := by
  intro value slice pins s σ H x y v u Q I rx ry h hs
  obtain ⟨a, kvs, k, w, rfl, h1, rfl, h2, q⟩ := h
  cases rx
  have g : DGet H a (kV k) (some w) := .inl ⟨kvs, k, h1, rfl, h2.symm⟩
  exact PyProof.Rows.tail_any (dict_typeIs I g) PySem.F.slot_dict_getitem.lookup (d_getItem hu I g ry fun w' s' I' rw' => ⟨w, H, I', rw', q⟩) hs
theorem or_ix {X : Cx} (hu : X.A.units + 1 < cLine) : IxR X (rIxA X.K) := (ix_dk hu).or ix_seq
theorem Reps.at {K : PySem.W.Frag} {H : Hp} {ds : List D} {vs : List V} {F : List Addr} {i : Int} {d : D} (h : Reps K H ds vs F) (e : atI ds i = some d) : ∃ v G, atI vs i = some v ∧ Rep K H d v G ∧ ∀ a, a ∈ G → a ∈ F := by
  unfold atI at e ⊢
  rw [h.length] at e
  cases q : ixN vs.length i with
  | none => rw [q] at e; cases e
  | some j => rw [q] at e; exact h.get e
theorem opd_ix {K : PySem.W.Frag} : OpD K ixD (rIxA K) := by
  intro P B ia s σ H H0 Fs dx dy q x y F G Q R o1 o2 fr e k
  unfold ixD at e
  split at e
  · obtain ⟨d, e1, e2⟩ := Option.map_eq_some_iff.mp e
    cases e2
    obtain ⟨a, vs, F', ea, h1, h2, no, ib⟩ := o1.lst_inv
    obtain ⟨v, G', g1, g2, g3⟩ := h2.at e1
    exact .inr (.inl ⟨a, vs, _, v, ea, o2.int_inv, SqL.of h1, g1, k _ _ (.part g2 (no.sub g3) (fun b m => ib b (g3 b m)) fr R)⟩)
  · obtain ⟨d, e1, e2⟩ := Option.map_eq_some_iff.mp e
    cases e2
    obtain ⟨a, vs, ea, h1, h2, no⟩ := o1.tup_inv
    obtain ⟨v, G', g1, g2, g3⟩ := h2.at e1
    exact .inr (.inr (.inl ⟨a, vs, _, v, ea, o2.int_inv, h1, g1, k _ _ (.part g2 (no.sub g3) (fun b m => o1.inB b (g3 b m)) fr R)⟩))
  · obtain ⟨d, e1, e2⟩ := Option.map_eq_some_iff.mp e
    cases e2
    obtain ⟨a, vs, ea, h1, h2, no⟩ := o1.fro_inv
    obtain ⟨v, G', g1, g2, g3⟩ := h2.at e1
    exact .inr (.inl ⟨a, vs, _, v, ea, o2.int_inv, fz_sq h1, g1, k _ _ (.part g2 (no.sub g3) (fun b m => o1.inB b (g3 b m)) fr R)⟩)
  · split at e
    · rename_i hz
      obtain ⟨d, e1, e2⟩ := Option.map_eq_some_iff.mp e
      cases e2
      exact .inr (.inr (.inr ⟨_, _, d, o1.str_inv, o2.int_inv, hz, e1, k _ _ (.flat .str fr R)⟩))
    · cases e
  · obtain ⟨kk, e1, e2⟩ := Option.bind_eq_some_iff.mp e
    obtain ⟨d, e3, e4⟩ := Option.map_eq_some_iff.mp e2
    cases e4
    obtain ⟨a, kvs, G', ea, h1, h2, no, ib⟩ := o1.dct_inv
    rcases h2.get kk with ⟨q1, q2⟩ | ⟨d', v, G'', q1, q2, q3, q4⟩
    · rw [e3] at q1; cases q1
    · rw [e3] at q1; cases q1
      exact .inl ⟨a, kvs, kk, v, ea, .inl h1, o2.rep.key e1, q2, k _ _ (.part q3 (no.sub q4) (fun b m => ib b (q4 b m)) fr R)⟩
  · cases e

/-! ### slices -/
def cutL {α : Type} (xs : List α) (lo hi : Option Int) : List α := (xs.drop (HT.sIx xs.length 0 lo)).take (HT.sIx xs.length xs.length hi - HT.sIx xs.length 0 lo)
theorem Reps.cut {K : PySem.W.Frag} {H : Hp} {ds : List D} {vs : List V} {F : List Addr} (lo hi : Option Int) (h : Reps K H ds vs F) : ∃ G, Reps K H (cutL ds lo hi) (cutV vs lo hi) G ∧ ∀ b, b ∈ G → b ∈ F := by
  unfold cutL cutV
  rw [h.length]
  exact Reps.sub _ _ h
theorem cut_whole {vs : List V} {lo hi : Option Int} (h : HT.sIx vs.length 0 lo = 0 ∧ HT.sIx vs.length vs.length hi = vs.length) : cutV vs lo hi = vs := by
  unfold cutV
  rw [h.1, h.2]
  simp
def sliceD (lo hi : Option Int) : D → Option (Bool × D)
  | .lst ds => some (true, .lst (cutL ds lo hi))
  | .fro ds => some (true, .lst (cutL ds lo hi))
  | .tup ds => some (false, .tup (cutL ds lo hi))
  | .str x => if x.length ≤ sizeLine then some (false, .str (cutS x lo hi)) else none
  | _ => none
def rSlAll (K : PySem.W.Frag) : V → Option Int → Option Int → Hp → VK → Prop := fun x lo hi H Q => rSlL K x lo hi H Q ∨ rSlA K x lo hi H Q ∨ rSlS x lo hi H Q
theorem or_sl {X : Cx} : SlR X (rSlAll X.K) := SlR.or sl_list (SlR.or sl_tupA sl_str)
theorem opd_sl {K : PySem.W.Frag} {P B : Addr → Prop} {ia : Nat → Addr} {s : S} {σ : St} {H H0 : Hp} {Fs : Nat → List Addr} {dx : D} {q : Bool × D} {x : V} {F : List Addr} {Q : VK} {lo hi : Option Int} (R : SR K P B ia s σ H Fs) (o1 : OV K B s σ H dx x F)
    (fr : Fr P H0 H) (e : sliceD lo hi dx = some q) (k : ∀ v H', RV K P B ia s σ H0 H' q.1 q.2 v → Q v H') : rSlAll K x lo hi H Q := by
  unfold sliceD at e
  split at e
  · cases e
    obtain ⟨a, vs, F', ea, h1, h2, no, ib⟩ := o1.lst_inv
    obtain ⟨G, g1, g2⟩ := h2.cut lo hi
    exact .inl ⟨a, vs, ea, SqL.of h1, fun p np => k _ _ (.lst g1 (no.sub g2) (fun b m => ib b (g2 b m)) fr R np)⟩
  · cases e
    obtain ⟨a, vs, ea, h1, h2, no⟩ := o1.fro_inv
    obtain ⟨G, g1, g2⟩ := h2.cut lo hi
    exact .inl ⟨a, vs, ea, fz_sq h1, fun p np => k _ _ (.lst g1 (no.sub g2) (fun b m => o1.inB b (g2 b m)) fr R np)⟩
  · cases e
    obtain ⟨a, vs, ea, h1, h2, no⟩ := o1.tup_inv
    obtain ⟨G, g1, g2⟩ := h2.cut lo hi
    refine .inr (.inl ⟨a, vs, ea, h1, fun hw => ?_, fun _ p np => k _ _ (.tup g1 (no.sub g2) (fun b m => o1.inB b (g2 b m)) fr R np)⟩)
    rw [cut_whole hw] at g1
    exact k _ _ (.part (.tup h1 g1) (no.sub g2) (fun b m => o1.inB b (g2 b m)) fr R)
  · split at e
    · rename_i hz
      cases e
      exact .inr (.inr ⟨_, o1.str_inv, hz, k _ _ (.flat .str fr R)⟩)
    · cases e
  · cases e
/-- an int, at once -/
def intM (a : Opd) : M (Bool × D) := op1 a fun x s => match x with
  | .int i => .ok (false, .int i) s
  | _ => .stuck
theorem tD_mono {K : PySem.W.Frag} {E : WX} {f : M (Bool × D)} {σ : St} {H : Hp} {Q Q' : VK} (h : tD K E f σ H Q) (q : ∀ v H, Q v H → Q' v H) : tD K E f σ H Q' := by
  obtain ⟨P, B, ia, s, Fs, r, w⟩ := h
  exact ⟨P, B, ia, s, Fs, r, w.mono (fun _ _ z => z) fun a s z v H' rv => q v H' (z v H' rv)⟩
theorem rdO_mono {K : PySem.W.Frag} {E : WX} {o : Opd} {σ : St} {H : Hp} {Q Q' : VK} (h : rdO K E o σ H Q) (q : ∀ v H, Q v H → Q' v H) : rdO K E o σ H Q' := by
  cases o with
  | ex f => exact tD_mono h q
  | sl i => obtain ⟨v, e, h⟩ := h; exact ⟨v, e, q v H h⟩
theorem tD_int {K : PySem.W.Frag} {E : WX} {a : Opd} {σ : St} {H : Hp} {Q : VK} (h : tD K E (intM a) σ H Q) : rdO K E a σ H fun x H1 => ∃ i, x = .int i ∧ Q (.int i) H1 := by
  obtain ⟨P, B, ia, s, Fs, r, w⟩ := h
  refine rd1 r ((op1_post w).mono (fun _ _ q => q) fun d s' q x H' F Fs' ov fr r' => ?_)
  split at q
  · exact ⟨_, ov.int_inv, q _ _ (.flat .int fr r')⟩
  · exact q.elim
/-- a[lo:hi] -/
def sliceM (a : Opd) (lo hi : Option Opd) : M (Bool × D) := match lo, hi with
  | none, none => opsM [a] fun ds s => match ds with
    | [x] => (match sliceD none none x with | some r => .ok r s | none => .stuck)
    | _ => .stuck
  | some l, none => opsM [a, .ex (intM l)] fun ds s => match ds with
    | [x, .int i] => (match sliceD (some i) none x with | some r => .ok r s | none => .stuck)
    | _ => .stuck
  | none, some h => opsM [a, .ex (intM h)] fun ds s => match ds with
    | [x, .int j] => (match sliceD none (some j) x with | some r => .ok r s | none => .stuck)
    | _ => .stuck
  | some l, some h => opsM [a, .ex (intM l), .ex (intM h)] fun ds s => match ds with
    | [x, .int i, .int j] => (match sliceD (some i) (some j) x with | some r => .ok r s | none => .stuck)
    | _ => .stuck
def rdP (K : PySem.W.Frag) (E : WX) : Option Opd → TO
  | none => tNoPart
  | some o => tPart (rdO K E o)
theorem tD_slice {K : PySem.W.Frag} {E : WX} {a : Opd} {lo hi : Option Opd} (σ : St) (H : Hp) (Q : VK) (w : tD K E (sliceM a lo hi) σ H Q) : tSl (rSlAll K) (rdO K E a) (rdP K E lo) (rdP K E hi) σ H Q := by
  obtain ⟨P, B, ia, s, Fs, r, w⟩ := w
  cases lo with
  | none =>
    cases hi with
    | none =>
      refine (rdOps (R := fun vs H' => match vs with | [x] => rSlAll K x none none H' Q | _ => False) r w (fun _ _ q => q) fun ds s' vs H' Gs Fs' q ov fr r' => ?_)
      cases ov with
      | cons o1 _ _ t =>
        cases t
        show rSlAll K _ _ _ H' Q
        dsimp only at q
        split at q
        · rename_i e; exact opd_sl r' o1 fr e q
        · exact q.elim
    | some h =>
      refine rdO_mono (Q := fun x H1 => tD K E (intM h) σ H1 fun y H2 => ∀ i, y = .int i → rSlAll K x none (some i) H2 Q)
        (rdOps (R := fun vs H' => match vs with | [x, y] => ∀ i, y = .int i → rSlAll K x none (some i) H' Q | _ => False) r w (fun _ _ q => q) fun ds s' vs H' Gs Fs' q ov fr r' => ?_)
        fun x H1 z => rdO_mono (tD_int z) fun y H2 ⟨i, e, z⟩ => ⟨i, e, z i rfl⟩
      cases ov with
      | cons o1 _ _ t =>
        cases t with
        | cons o2 _ _ t =>
          cases t
          show ∀ i, _ → _
          intro i ei
          split at q
          · rename_i h; cases h
            rw [o2.int_inv] at ei; cases ei
            split at q
            · rename_i e; exact opd_sl r' o1 fr e q
            · exact q.elim
          · exact q.elim
  | some l =>
    cases hi with
    | none =>
      refine rdO_mono (Q := fun x H1 => tD K E (intM l) σ H1 fun y H2 => ∀ i, y = .int i → rSlAll K x (some i) none H2 Q)
        (rdOps (R := fun vs H' => match vs with | [x, y] => ∀ i, y = .int i → rSlAll K x (some i) none H' Q | _ => False) r w (fun _ _ q => q) fun ds s' vs H' Gs Fs' q ov fr r' => ?_)
        fun x H1 z => rdO_mono (tD_int z) fun y H2 ⟨i, e, z⟩ => ⟨i, e, z i rfl⟩
      cases ov with
      | cons o1 _ _ t =>
        cases t with
        | cons o2 _ _ t =>
          cases t
          show ∀ i, _ → _
          intro i ei
          split at q
          · rename_i h; cases h
            rw [o2.int_inv] at ei; cases ei
            split at q
            · rename_i e; exact opd_sl r' o1 fr e q
            · exact q.elim
          · exact q.elim
    | some h =>
      refine rdO_mono (Q := fun x H1 => tD K E (intM l) σ H1 fun y H2 => tD K E (intM h) σ H2 fun z H3 => ∀ i j, y = .int i → z = .int j → rSlAll K x (some i) (some j) H3 Q)
        (rdOps (R := fun vs H' => match vs with | [x, y, z] => ∀ i j, y = .int i → z = .int j → rSlAll K x (some i) (some j) H' Q | _ => False) r w (fun _ _ q => q) fun ds s' vs H' Gs Fs' q ov fr r' => ?_)
        fun x H1 z => rdO_mono (tD_int z) fun y H2 ⟨i, e, z⟩ => ⟨i, e, rdO_mono (tD_int z) fun y H2 ⟨j, e, z⟩ => ⟨j, e, z i j rfl rfl⟩⟩
      cases ov with
      | cons o1 _ _ t =>
        cases t with
        | cons o2 _ _ t =>
          cases t with
          | cons o3 _ _ t =>
            cases t
            show ∀ i j, _ → _ → _
            intro i j ei ej
            split at q
            · rename_i h; cases h
              rw [o2.int_inv] at ei; cases ei
              rw [o3.int_inv] at ej; cases ej
              split at q
              · rename_i e; exact opd_sl r' o1 fr e q
              · exact q.elim
            · exact q.elim
section
variable {X : Cx} {E : WX}
/-- a slice's part -/
def POd (X : Cx) (E : WX) (e : Option Expr) (o : Option Opd) : Prop := PO X e (rdP X.K E o)
theorem pod_none : POd X E none none := po_none
theorem pod_some {e : Expr} {o : Opd} (h : PE X e (rdO X.K E o)) : POd X E (some e) (some o) := po_some h
theorem de_slice {e : Expr} {lo hi : Option Expr} {a : Opd} {l h : Option Opd} {pos p2 : Pos} (he : PE X e (rdO X.K E a)) (hl : POd X E lo l) (hh : POd X E hi h) : PE X (.Subscript e (.Slice lo hi none p2) pos) (tD X.K E (sliceM a l h)) :=
  (pe_slice or_sl he hl hh).imp tD_slice
end

/-! ### truth, tests -/
def truD : D → Option Bool
  | .non => some false
  | .bl b => some b
  | .int i => some (i != 0)
  | .str x => if x.length ≤ sizeLine then some ((x.length : Int) != 0) else none
  | .tup ds => some (!ds.isEmpty)
  | .lst ds => some (!ds.isEmpty)
  | .fro ds => some (!ds.isEmpty)
  | .dct kds => some (!kds.isEmpty)
  | .ty _ => none
theorem Reps.emp {K : PySem.W.Frag} {H : Hp} {ds : List D} {vs : List V} {F : List Addr} (h : Reps K H ds vs F) : ds.isEmpty = vs.isEmpty := by
  have := h.length
  cases ds <;> cases vs <;> first | rfl | simp at this
theorem RepK.length {K : PySem.W.Frag} {H : Hp} : ∀ {ds : List (Key × D)} {vs : List (Key × V)} {F : List Addr}, RepK K H ds vs F → ds.length = vs.length
  | [], _, _, h => by cases h; rfl
  | d :: ds, _, _, h => by
    cases h with
    | cons h1 h2 => simp [RepK.length h2]
theorem RepK.emp {K : PySem.W.Frag} {H : Hp} {ds : List (Key × D)} {vs : List (Key × V)} {F : List Addr} (h : RepK K H ds vs F) : ds.isEmpty = vs.isEmpty := by
  cases h <;> rfl
theorem OV.tru {K : PySem.W.Frag} {B : Addr → Prop} {s : S} {σ : St} {H : Hp} {d : D} {x : V} {F : List Addr} {k : Bool} (o : OV K B s σ H d x F) (e : truD d = some k) : TruV K x H k := by
  unfold truD at e
  split at e
  · cases e; rw [o.non_inv]; rfl
  · cases e; rw [o.bl_inv]; rfl
  · cases e; rw [o.int_inv]; rfl
  · split at e
    · rename_i hz; cases e; rw [o.str_inv]; exact ⟨hz, rfl⟩
    · cases e
  · cases e
    obtain ⟨a, vs, rfl, h1, h2, _⟩ := o.tup_inv
    exact .inr (.inl ⟨vs, h1, by rw [h2.emp]⟩)
  · cases e
    obtain ⟨a, vs, _, rfl, h1, h2, _⟩ := o.lst_inv
    exact .inl ⟨vs, SqL.of h1, by rw [h2.emp]⟩
  · cases e
    obtain ⟨a, vs, rfl, h1, h2, _⟩ := o.fro_inv
    exact .inl ⟨vs, fz_sq h1, by rw [h2.emp]⟩
  · cases e
    obtain ⟨a, vs, _, rfl, h1, h2, _⟩ := o.dct_inv
    refine .inr (.inr ⟨vs, h1, ?_⟩)
    have := h2.emp
    rw [this]
  · cases e
/-- the reading of a test by its function -/
def tT (K : PySem.W.Frag) (E : WX) (f : M Bool) : TT := fun σ H Q => ∃ P B ia s Fs, SR K P B ia s σ H Fs ∧
  Post (fun x s' => ∀ cls dx H', RX K P B ia s' σ H H' x cls dx → E cls dx σ H') (fun b s' => ∀ H' Fs', Fr P H H' → SR K P B ia s' σ H' Fs' → Q b H') (f s)
def truM (a : Opd) : M Bool := op1 a fun x s => match truD x with
  | some b => .ok b s
  | none => .stuck
def notM (a : M Bool) : M Bool := fun s => (a s).bind fun b s' => .ok (!b) s'
def andM (a b : M Bool) : M Bool := fun s => (a s).bind fun x s' => if x = true then b s' else .ok false s'
def orM (a b : M Bool) : M Bool := fun s => (a s).bind fun x s' => if x = true then .ok true s' else b s'
/-- a if t else b -/
def iteM {α : Type} (t : M Bool) (a b : M α) : M α := fun s => (t s).bind fun x s' => if x = true then a s' else b s'
/-- x and y, x or y, not x as values -/
def andV (a b : M (Bool × D)) : M (Bool × D) := fun s => (a s).bind fun x s' => match truD x.2 with
  | some true => b s'
  | some false => .ok x s'
  | none => .stuck
def orV (a b : M (Bool × D)) : M (Bool × D) := fun s => (a s).bind fun x s' => match truD x.2 with
  | some true => .ok x s'
  | some false => b s'
  | none => .stuck
def notV (a : Opd) : M (Bool × D) := op1 a fun x s => match truD x with
  | some b => .ok (false, .bl (!b)) s
  | none => .stuck
section
variable {K : PySem.W.Frag} {P B : Addr → Prop} {ia : Nat → Addr} {s : S} {σ : St} {H H' H1 : Hp} {Fs : Nat → List Addr} {E : WX} {d : D} {v : V} {F : List Addr}
theorem RV.ov {fr : Bool} (h : RV K P B ia s σ H H' fr d v) : ∃ F Fs, OV K B s σ H' d v F ∧ Fr P H H' ∧ SR K P B ia s σ H' Fs := by
  obtain ⟨F, Fs, h1, h2, h3, h4, h5⟩ := h
  exact ⟨F, Fs, ⟨h1, h3, .inl (h4.noOwn fun a m => .inr m)⟩, h2, h4.weak fun b m => .inl m⟩
theorem RV.step {fr : Bool} {P' : Addr → Prop} {s' : S} {H2 : Hp} (h : Fr P H H1) (q : RV K P B ia s' σ H1 H2 fr d v) : RV K P B ia s' σ H H2 fr d v := by
  obtain ⟨F, Fs, h1, h2, h3, h4, h5⟩ := q
  exact ⟨F, Fs, h1, h.trans h2, h3, h4, h5⟩
theorem RX.step {s' : S} {x : Exn} {cls : Value} {dx : Option Addr} (h : Fr P H H1) (q : RX K P B ia s' σ H1 H' x cls dx) : RX K P B ia s' σ H H' x cls dx := by
  obtain ⟨Fs, h1, h2, h3⟩ := q
  exact ⟨Fs, h.trans h1, h2, h3⟩
end
section
variable {X : Cx} {E : WX} {a b : Expr} {pos : Pos}
theorem dt_tru {oa : Opd} (ha : PE X a (rdO X.K E oa)) (he : ∀ whole, isTrue a X.env whole = (do let v ← whole; standAt a.pos; holding [v] (truthy v)) := by intro _; rfl) : PT X a (tT X.K E (truM oa)) :=
  (pt_truth ha he).imp fun σ H Q h => by
    obtain ⟨P, B, ia, s, Fs, r, w⟩ := h
    refine rd1 r ((op1_post w).mono (fun _ _ q => q) fun d s' q x H' F Fs' ov fr r' => ?_)
    split at q
    · rename_i e; exact ⟨_, ov.tru e, q H' Fs' fr r'⟩
    · exact q.elim
theorem dt_not {f : M Bool} (ha : PT X a (tT X.K E f)) : PT X (.UnaryOp .Not a pos) (tT X.K E (notM f)) := (pt_not ha).imp fun σ H Q h => by
  obtain ⟨P, B, ia, s, Fs, r, w⟩ := h
  exact ⟨P, B, ia, s, Fs, r, (Post.bind w).mono (fun _ _ q => q) fun b s' q H' Fs' fr r' => q H' Fs' fr r'⟩
theorem tT_and {K : PySem.W.Frag} {f g : M Bool} (σ : St) (H : Hp) (Q : Bool → Hp → Prop) (h : tT K E (andM f g) σ H Q) : tAnd (tT K E f) (tT K E g) σ H Q := by
  obtain ⟨P, B, ia, s, Fs, r, w⟩ := h
  refine ⟨P, B, ia, s, Fs, r, (Post.bind w).mono (fun _ _ q => q) fun b s' q H' Fs' fr r' => ?_⟩
  cases b with
  | true =>
    rw [if_pos rfl] at q
    refine iteT ⟨P, B, ia, s', Fs', r', q.mono (fun x s2 q cls dx H2 rx => q cls dx H2 (rx.step fr)) fun b2 s2 q H2 Fs2 fr2 r2 => q H2 Fs2 (fr.trans fr2) r2⟩
  | false =>
    rw [if_neg (by decide)] at q
    exact iteF (q H' Fs' fr r')
theorem tT_or {K : PySem.W.Frag} {f g : M Bool} (σ : St) (H : Hp) (Q : Bool → Hp → Prop) (h : tT K E (orM f g) σ H Q) : tOr (tT K E f) (tT K E g) σ H Q := by
  obtain ⟨P, B, ia, s, Fs, r, w⟩ := h
  refine ⟨P, B, ia, s, Fs, r, (Post.bind w).mono (fun _ _ q => q) fun b s' q H' Fs' fr r' => ?_⟩
  cases b with
  | true =>
    rw [if_pos rfl] at q
    exact iteT (q H' Fs' fr r')
  | false =>
    rw [if_neg (by decide)] at q
    refine iteF ⟨P, B, ia, s', Fs', r', q.mono (fun x s2 q cls dx H2 rx => q cls dx H2 (rx.step fr)) fun b2 s2 q H2 Fs2 fr2 r2 => q H2 Fs2 (fr.trans fr2) r2⟩
variable {rest : List Expr}
theorem dw_and1 {f : M Bool} (ha : PT X a (tT X.K E f)) : PW X (.BoolOp .And [a] pos) (tT X.K E f) := pw_and1 ha
theorem dw_or1 {f : M Bool} (ha : PT X a (tT X.K E f)) : PW X (.BoolOp .Or [a] pos) (tT X.K E f) := pw_or1 ha
theorem dw_and {f g : M Bool} (ha : PT X a (tT X.K E f)) (hb : PW X (.BoolOp .And (b :: rest) pos) (tT X.K E g)) : PW X (.BoolOp .And (a :: b :: rest) pos) (tT X.K E (andM f g)) := (pw_and ha hb).imp tT_and
theorem dw_or {f g : M Bool} (ha : PT X a (tT X.K E f)) (hb : PW X (.BoolOp .Or (b :: rest) pos) (tT X.K E g)) : PW X (.BoolOp .Or (a :: b :: rest) pos) (tT X.K E (orM f g)) := (pw_or ha hb).imp tT_or
theorem dt_w {f : M Bool} (h : PW X a (tT X.K E f)) : PT X a (tT X.K E f) := h.pt
theorem de_ite {c : Expr} {t : M Bool} {f g : M (Bool × D)} (hc : PT X c (tT X.K E t)) (ha : PE X a (tD X.K E f)) (hb : PE X b (tD X.K E g)) : PE X (.IfExp c a b pos) (tD X.K E (iteM t f g)) := (pe_ifExp hc ha hb).imp fun σ H Q h => by
  obtain ⟨P, B, ia, s, Fs, r, w⟩ := h
  refine ⟨P, B, ia, s, Fs, r, (Post.bind w).mono (fun _ _ q => q) fun b s' q H' Fs' fr r' => ?_⟩
  cases b with
  | true =>
    rw [if_pos rfl] at q
    exact iteT ⟨P, B, ia, s', Fs', r', q.mono (fun x s2 q cls dx H2 rx => q cls dx H2 (rx.step fr)) fun b2 s2 q v H2 rv => q v H2 (RV.step (P' := P) fr rv)⟩
  | false =>
    rw [if_neg (by decide)] at q
    exact iteF ⟨P, B, ia, s', Fs', r', q.mono (fun x s2 q cls dx H2 rx => q cls dx H2 (rx.step fr)) fun b2 s2 q v H2 rv => q v H2 (RV.step (P' := P) fr rv)⟩
theorem de_one {op} {f : M (Bool × D)} (ha : PE X a (tD X.K E f)) : PE X (.BoolOp op [a] pos) (tD X.K E f) := pe_one ha
theorem de_and {f g : M (Bool × D)} (ha : PE X a (tD X.K E f)) (hb : PE X (.BoolOp .And (b :: rest) pos) (tD X.K E g)) : PE X (.BoolOp .And (a :: b :: rest) pos) (tD X.K E (andV f g)) := (pe_andT ha hb).imp fun σ H Q h => by
  obtain ⟨P, B, ia, s, Fs, r, w⟩ := h
  refine ⟨P, B, ia, s, Fs, r, (Post.bind w).mono (fun _ _ q => q) fun x s' q v H' rv => ?_⟩
  obtain ⟨F, Fs', ov, fr, r'⟩ := rv.ov
  split at q
  · rename_i e
    exact ⟨true, ov.tru e, iteT ⟨P, B, ia, s', Fs', r', q.mono (fun x s2 q cls dx H2 rx => q cls dx H2 (rx.step fr)) fun b2 s2 q v H2 rv => q v H2 (RV.step (P' := P) fr rv)⟩⟩
  · rename_i e
    exact ⟨false, ov.tru e, iteF (q v H' rv)⟩
  · exact q.elim
theorem de_or {f g : M (Bool × D)} (ha : PE X a (tD X.K E f)) (hb : PE X (.BoolOp .Or (b :: rest) pos) (tD X.K E g)) : PE X (.BoolOp .Or (a :: b :: rest) pos) (tD X.K E (orV f g)) := (pe_orT ha hb).imp fun σ H Q h => by
  obtain ⟨P, B, ia, s, Fs, r, w⟩ := h
  refine ⟨P, B, ia, s, Fs, r, (Post.bind w).mono (fun _ _ q => q) fun x s' q v H' rv => ?_⟩
  obtain ⟨F, Fs', ov, fr, r'⟩ := rv.ov
  split at q
  · rename_i e
    exact ⟨true, ov.tru e, iteT (q v H' rv)⟩
  · rename_i e
    exact ⟨false, ov.tru e, iteF ⟨P, B, ia, s', Fs', r', q.mono (fun x s2 q cls dx H2 rx => q cls dx H2 (rx.step fr)) fun b2 s2 q v H2 rv => q v H2 (RV.step (P' := P) fr rv)⟩⟩
  · exact q.elim
theorem de_not {oa : Opd} (ha : PE X a (rdO X.K E oa)) : PE X (.UnaryOp .Not a pos) (tD X.K E (notV oa)) := (pe_notT ha).imp fun σ H Q h => by
  obtain ⟨P, B, ia, s, Fs, r, w⟩ := h
  refine rd1 r ((op1_post w).mono (fun _ _ q => q) fun d s' q x H' F Fs' ov fr r' => ?_)
  split at q
  · rename_i e; exact ⟨_, ov.tru e, q _ _ (.flat .bl fr r')⟩
  · exact q.elim
/-- -x of an int -/
def negM (a : Opd) : M (Bool × D) := op1 a fun x s => match x with
  | .int i => .ok (false, .int (-i)) s
  | _ => .stuck
theorem de_neg {oa : Opd} (ha : PE X a (rdO X.K E oa)) : PE X (.UnaryOp .USub a pos) (tD X.K E (negM oa)) := (pe_un un_neg ha).imp fun σ H Q h => by
  obtain ⟨P, B, ia, s, Fs, r, w⟩ := h
  refine rd1 r ((op1_post w).mono (fun _ _ q => q) fun d s' q x H' F Fs' ov fr r' => ?_)
  split at q
  · exact ⟨_, ov.int_inv, q _ _ (.flat .int fr r')⟩
  · exact q.elim
/-- a < b < c -/
def chainM (g g' : D → D → Option (Bool × D)) (a b c : M (Bool × D)) : M (Bool × D) := fun s => (a s).bind fun x s1 => (b s1).bind fun y s2 => match g x.2 y.2 with
  | some (_, .bl true) => (c s2).bind fun z s3 => (match g' y.2 z.2 with | some r => .ok r s3 | none => .stuck)
  | some (_, .bl false) => .ok (false, .bl false) s2
  | _ => .stuck
end

/-! ### displays -/
def tupM (fs : List (M (Bool × D))) : M (Bool × D) := opsM (fs.map .ex) fun ds s => if ds.length ≤ sizeLine then .ok (false, .tup ds) s else .stuck
def lstM (fs : List (M (Bool × D))) : M (Bool × D) := opsM (fs.map .ex) fun ds s => if ds.length ≤ sizeLine then .ok (true, .lst ds) s else .stuck
theorem allEx : ∀ fs : List (M (Bool × D)), (fs.map Opd.ex).all Opd.isEx = true
  | [] => rfl
  | _ :: fs => by simp [Opd.isEx, allEx fs]
section
variable {X : Cx} {E : WX} {es : List Expr} {pos : Pos}
/-- arguments -/
abbrev PAd (X : Cx) (E : WX) (es : List Expr) (os : List Opd) : Prop := PA X es (rdOs X.K E os)
theorem da_nil : PAd X E [] [] := pa_nil
theorem da_cons {e : Expr} {o : Opd} {os : List Opd} (h : PE X e (rdO X.K E o)) (hs : PAd X E es os) (hst : starEach (e :: es) X.env = (false, eval e X.env) :: starEach es X.env := by rfl) : PAd X E (e :: es) (o :: os) := pa_cons h hs hst
theorem de_tup {x1} {fs : List (M (Bool × D))} (h : PAd X E es (fs.map .ex)) : PE X (.Tuple es x1 pos) (tD X.K E (tupM fs)) := (pe_tup h).imp fun σ H Q h => by
  obtain ⟨P, B, ia, s, Fs, r, w⟩ := h
  refine rdOps r w (fun _ _ q => q) fun ds s' vs H' Gs Fs' q ov fr r' => ?_
  split at q
  · rename_i hz
    obtain ⟨G, g1, g2, g3⟩ := ov.reps (allEx fs)
    exact ⟨by rw [← ov.length.1]; exact hz, fun p np => q _ _ (.tup g1 g2 g3 fr r' np)⟩
  · exact q.elim
theorem de_lst {fs : List (M (Bool × D))} (h : PAd X E es (fs.map .ex)) : PE X (.List es pos) (tD X.K E (lstM fs)) := (pe_lst h).imp fun σ H Q h => by
  obtain ⟨P, B, ia, s, Fs, r, w⟩ := h
  refine rdOps r w (fun _ _ q => q) fun ds s' vs H' Gs Fs' q ov fr r' => ?_
  split at q
  · rename_i hz
    obtain ⟨G, g1, g2, g3⟩ := ov.reps (allEx fs)
    exact ⟨by rw [← ov.length.1]; exact hz, fun p np => q _ _ (.lst g1 g2 g3 fr r' np)⟩
  · exact q.elim
end
end PV

/-! PV: statements by values. -/
namespace PV
open PySem PySem.Spec L2

inductive Fl where
  | nx | rt (fr : Bool) (d : D) | bk | ct
section
variable {K : PySem.W.Frag} {P B : Addr → Prop} {ia : Nat → Addr} {s : S} {σ : St} {H H' H1 : Hp} {Fs : Nat → List Addr} {E : WX} {d : D} {v : V} {F : List Addr}
/-- a slot is stored -/
theorem SR.set (r : SR K P B ia s σ H Fs) (h : Rep K H d v F) (hp : NoOwn s σ F) (hb : ∀ a, a ∈ F → B a) {i : Nat} {x : Slot} (e : s[i]? = some x) (nio : ∀ d, x ≠ some (.io, d)) {o : Own} (hio : o ≠ .io)
    (ho : o ≠ .sh → ∃ a G, v = .ref a ∧ F = a :: G ∧ RepM K H d a G ∧ a ∉ G ∧ ¬ P a ∧ ∀ j, a ∉ Fs j) :
    SR K P B ia (s.set i (some (o, d))) (σ.set i (some v)) H (fun j => if j = i then F else Fs j) := by
  have hi : i < s.length := (List.getElem?_eq_some_iff.mp e).1
  have hiσ : i < σ.length := by rw [← r.len]; exact hi
  have σe : (σ.set i (some v))[i]? = some (some v) := List.getElem?_set_self hiσ
  have σn : ∀ {j : Nat}, j ≠ i → (σ.set i (some v))[j]? = σ[j]? := fun h => List.getElem?_set_ne fun e => h e.symm
  refine ⟨by simp [r.len], fun j o' d' q => ?_, fun j o' d' q n => ?_, fun j d' q => ?_, fun j q => ?_, fun j a m => ?_, r.tr, r.nb⟩
  · by_cases hj : j = i
    · subst hj
      rw [get_set_eq e] at q; cases q
      exact ⟨v, σe, by rw [if_pos rfl]; exact h⟩
    · rw [get_set_ne hj] at q; rw [σn hj, if_neg hj]; exact r.rep j o' d' q
  · by_cases hj : j = i
    · subst hj
      rw [get_set_eq e] at q; cases q
      obtain ⟨a, G, h1, h2, h3, h4, h5, h6⟩ := ho n
      subst h1
      exact ⟨a, G, σe, by rw [if_pos rfl]; exact h2, h3, h4, h5, fun k hk => by rw [if_neg hk]; exact h6 k⟩
    · rw [get_set_ne hj] at q; rw [σn hj, if_neg hj]
      obtain ⟨a, G, h1, h2, h3, h4, h5, h6⟩ := r.own j o' d' q n
      refine ⟨a, G, h1, h2, h3, h4, h5, fun k hk => ?_⟩
      by_cases hk2 : k = i
      · rw [if_pos hk2]; exact hp j o' d' a q n h1
      · rw [if_neg hk2]; exact h6 k hk
  · by_cases hj : j = i
    · subst hj
      rw [get_set_eq e] at q; cases q
      exact absurd rfl hio
    · rw [get_set_ne hj] at q; rw [σn hj]; exact r.iov j d' q
  · by_cases hj : j = i
    · subst hj
      exact absurd (get_set_eq e) (q o d)
    · rw [if_neg hj]
      exact r.dead j fun o' d' z => q o' d' (by rw [get_set_ne hj]; exact z)
  · by_cases hj : j = i
    · rw [if_pos hj] at m; exact hb a m
    · rw [if_neg hj] at m; exact r.inB j a m
/-- what stands in a slot of one's own is changed -/
theorem SR.write {F2 : List Addr} (r : SR K (fun b => P b ∨ b ∈ F2) B ia s σ H Fs) {i : Nat} {o : Own} (e : s[i]? = some (some (o, d))) (n : o ≠ .sh) {a : Addr} {G G' : List Addr} (ha : σ[i]? = some (some (V.ref a))) (hF : Fs i = a :: G) {ob : HO} {d' : D}
    (h : RepM K (upd H a ob) d' a G') (hG : ∀ b, b ∈ G' → b ∈ G ∨ b ∈ F2) (hb : ∀ b, b ∈ F2 → B b) :
    SR K P B ia (s.set i (some (o, d'))) σ (upd H a ob) (fun j => if j = i then a :: G' else Fs j) ∧ Fr P H (upd H a ob) := by
  obtain ⟨a', G0, h1, h2, h3, h4, h5, h6⟩ := r.own i o d e n
  rw [ha] at h1; cases h1
  rw [hF] at h2; cases h2
  obtain ⟨ob0, hm, nim⟩ := h3.mut
  have fr : Fr P H (upd H a ob) := Fr.put hm nim fun q => h5 (.inl q)
  have keepF : ∀ j, j ≠ i → ∀ b, b ∈ Fs j → upd H a ob b = H b := fun j hj b m => upd_ne fun e => h6 j hj (e ▸ m)
  have nG' : a ∉ G' := fun m => (hG a m).elim h4 fun m => h5 (.inr m)
  refine ⟨⟨by simp [r.len], fun j o' d2 q => ?_, fun j o' d2 q n' => ?_, fun j d2 q => ?_, fun j q => ?_, fun j b m => ?_, fun b q => ?_, fun b q => ?_⟩, fr⟩
  · by_cases hj : j = i
    · subst hj
      rw [get_set_eq e] at q; cases q
      exact ⟨.ref a, ha, by rw [if_pos rfl]; exact h.rep⟩
    · rw [get_set_ne hj] at q; rw [if_neg hj]
      obtain ⟨v, g1, g2⟩ := r.rep j o' d2 q
      exact ⟨v, g1, g2.keep fr.i fun b m => keepF j hj b m⟩
  · by_cases hj : j = i
    · subst hj
      rw [get_set_eq e] at q; cases q
      exact ⟨a, G', ha, by rw [if_pos rfl], h, nG', fun q => h5 (.inl q), fun k hk => by rw [if_neg hk]; exact h6 k hk⟩
    · rw [get_set_ne hj] at q; rw [if_neg hj]
      obtain ⟨b, G2, g1, g2, g3, g4, g5, g6⟩ := r.own j o' d2 q n'
      refine ⟨b, G2, g1, g2, g3.keep fr.i fun c m => keepF j hj c (by rw [g2]; exact m), g4, fun q => g5 (.inl q), fun k hk => ?_⟩
      by_cases hk2 : k = i
      · rw [if_pos hk2]
        intro m
        have nb : b ∉ a :: G := by rw [← hF]; exact g6 i (Ne.symm hj)
        rcases List.mem_cons.mp m with rfl | m
        · exact nb List.mem_cons_self
        · exact (hG b m).elim (fun m => nb (List.mem_cons_of_mem _ m)) fun m => g5 (.inr m)
      · rw [if_neg hk2]; exact g6 k hk
  · by_cases hj : j = i
    · subst hj
      rw [get_set_eq e] at q; cases q
      exact r.iov j d e
    · rw [get_set_ne hj] at q; exact r.iov j d2 q
  · by_cases hj : j = i
    · subst hj
      exact absurd (get_set_eq e) (q o d')
    · rw [if_neg hj]
      exact r.dead j fun o' d2 z => q o' d2 (by rw [get_set_ne hj]; exact z)
  · by_cases hj : j = i
    · rw [if_pos hj] at m
      have hin : ∀ c, c ∈ a :: G → B c := fun c mc => r.inB i c (by rw [hF]; exact mc)
      rcases List.mem_cons.mp m with rfl | m
      · exact hin _ List.mem_cons_self
      · exact (hG b m).elim (fun m => hin b (List.mem_cons_of_mem _ m)) (hb b)
    · rw [if_neg hj] at m; exact r.inB j b m
  · by_cases hba : b = a
    · subst hba; rw [upd_same]; simp
    · rw [upd_ne hba]; exact r.tr b (.inl q)
  · by_cases hba : b = a
    · subst hba; rw [upd_same] at q; cases q
    · rw [upd_ne hba] at q; exact r.nb b q
end

/-- a statement's ways -/
def SPd (K : PySem.W.Frag) (P B : Addr → Prop) (ia : Nat → Addr) (H : Hp) (Dn : Ends) (fl : Fl) (s' : S) : Prop := match fl with
  | .nx => ∀ σ' H' Fs', Fr P H H' → SR K P B ia s' σ' H' Fs' → Dn.nx σ' H'
  | .bk => ∀ σ' H' Fs', Fr P H H' → SR K P B ia s' σ' H' Fs' → Dn.bk σ' H'
  | .ct => ∀ σ' H' Fs', Fr P H H' → SR K P B ia s' σ' H' Fs' → Dn.ct σ' H'
  | .rt fr d => ∀ v σ' H', RV K P B ia s' σ' H H' fr d v → Dn.rt v H'
/-- an exception's way, whatever the slots are -/
def XPd (K : PySem.W.Frag) (P B : Addr → Prop) (ia : Nat → Addr) (H : Hp) (E : WX) (x : Exn) (s' : S) : Prop := ∀ σ' cls dx H', RX K P B ia s' σ' H H' x cls dx → E cls dx σ' H'
def tS (K : PySem.W.Frag) (E : WX) (f : M Fl) : TS := fun Dn σ H => ∃ P B ia s Fs, SR K P B ia s σ H Fs ∧ Post (XPd K P B ia H E) (SPd K P B ia H Dn) (f s)
section
variable {K : PySem.W.Frag} {P B : Addr → Prop} {ia : Nat → Addr} {s s' : S} {σ : St} {H H' H1 : Hp} {Fs : Nat → List Addr} {E : WX} {x : Exn} {Dn : Ends} {fl : Fl}
theorem XPd.to (h : XPd K P B ia H E x s') : ∀ cls dx H', RX K P B ia s' σ H H' x cls dx → E cls dx σ H' := fun cls dx H' r => h σ cls dx H' r
theorem XPd.step (h : XPd K P B ia H E x s') (f : Fr P H H1) : XPd K P B ia H1 E x s' := fun σ' cls dx H' r => h σ' cls dx H' (r.step f)
theorem SPd.step (h : SPd K P B ia H Dn fl s') (f : Fr P H H1) : SPd K P B ia H1 Dn fl s' := by
  cases fl with
  | nx => exact fun σ' H' Fs' fr r => h σ' H' Fs' (f.trans fr) r
  | bk => exact fun σ' H' Fs' fr r => h σ' H' Fs' (f.trans fr) r
  | ct => exact fun σ' H' Fs' fr r => h σ' H' Fs' (f.trans fr) r
  | rt fr d => exact fun v σ' H' rv => h v σ' H' (RV.step (P' := P) f rv)
end

/-! ### the statements -/
def nxM : M Fl := fun s => .ok .nx s
def bkM : M Fl := fun s => .ok .bk s
def ctM : M Fl := fun s => .ok .ct s
def seqM (a b : M Fl) : M Fl := fun s => (a s).bind fun fl s' => match fl with
  | .nx => b s'
  | fl => .ok fl s'
def dropM (f : M (Bool × D)) : M Fl := fun s => (f s).bind fun _ s' => .ok .nx s'
def retM (f : M (Bool × D)) : M Fl := fun s => (f s).bind fun r s' => .ok (.rt r.1 r.2) s'
def retN : M Fl := fun s => .ok (.rt false .non) s
/-- the slots behind a store -/
def putS (s : S) (i : Nat) (o : Own) (d : D) : Option S := match s[i]? with
  | some (some (.io, _)) => none
  | some _ => some (s.set i (some (o, d)))
  | none => none
def setM (i : Nat) (f : M (Bool × D)) : M Fl := fun s => (f s).bind fun r s' => match putS s' i (if r.1 = true then .ow else .sh) r.2 with
  | some s2 => .ok .nx s2
  | none => .stuck
theorem putS_inv {s s' : S} {i : Nat} {o : Own} {d : D} (h : putS s i o d = some s') : ∃ x, s[i]? = some x ∧ (∀ d, x ≠ some (.io, d)) ∧ s' = s.set i (some (o, d)) := by
  unfold putS at h
  split at h
  · cases h
  · rename_i x hx e
    cases h
    exact ⟨x, e, fun d' q => hx d' q, rfl⟩
  · cases h
section
variable {X : Cx} {E : WX} {st : Stmt} {rest : List Stmt} {pos : Pos}
theorem ds_nil : PSs X [] (tS X.K E nxM) := pss_nil.imp fun Dn σ H h => by
  obtain ⟨P, B, ia, s, Fs, r, w⟩ := h
  exact w σ H Fs Fr.refl r
theorem tS_seq {K : PySem.W.Frag} {f g : M Fl} (Dn : Ends) (σ : St) (H : Hp) (h : tS K E (seqM f g) Dn σ H) : tSeq (tS K E f) (tS K E g) Dn σ H := by
  obtain ⟨P, B, ia, s, Fs, r, w⟩ := h
  refine ⟨P, B, ia, s, Fs, r, (Post.bind w).mono (fun _ _ q => q) fun fl s' q => ?_⟩
  cases fl with
  | nx => exact fun σ' H' Fs' fr r' => ⟨P, B, ia, s', Fs', r', q.mono (fun x s2 q => q.step fr) fun fl s2 q => q.step fr⟩
  | bk => exact q
  | ct => exact q
  | rt fr d => exact q
theorem ds_cons {f g : M Fl} (h1 : PS X st (tS X.K E f)) (h2 : PSs X rest (tS X.K E g)) : PSs X (st :: rest) (tS X.K E (seqM f g)) := (pss_cons h1 h2).imp tS_seq
theorem ds_one {f : M Fl} (h1 : PS X st (tS X.K E f)) : PSs X [st] (tS X.K E f) := pss_one h1
theorem ds_pass : PS X (.Pass pos) (tS X.K E nxM) := ps_pass.imp fun Dn σ H h => by
  obtain ⟨P, B, ia, s, Fs, r, w⟩ := h
  exact w σ H Fs Fr.refl r
theorem ds_break : PS X (.Break pos) (tS X.K E bkM) := ps_break.imp fun Dn σ H h => by
  obtain ⟨P, B, ia, s, Fs, r, w⟩ := h
  exact w σ H Fs Fr.refl r
theorem ds_continue : PS X (.Continue pos) (tS X.K E ctM) := ps_continue.imp fun Dn σ H h => by
  obtain ⟨P, B, ia, s, Fs, r, w⟩ := h
  exact w σ H Fs Fr.refl r
theorem ds_expr {e : Expr} {f : M (Bool × D)} (he : PE X e (tD X.K E f)) (hs : swapsWith e none pos.line X.env = pure false := by rfl) : PS X (.Expr e pos) (tS X.K E (dropM f)) := (ps_expr he hs).imp fun Dn σ H h => by
  obtain ⟨P, B, ia, s, Fs, r, w⟩ := h
  refine ⟨P, B, ia, s, Fs, r, (Post.bind w).mono (fun _ _ q => q.to) fun a s' q v H' rv => ?_⟩
  obtain ⟨F, Fs', ov, fr, r'⟩ := rv.ov
  exact q σ H' Fs' fr r'
theorem ds_ret {e : Expr} {f : M (Bool × D)} (he : PE X e (tD X.K E f)) : PS X (.Return (some e) pos) (tS X.K E (retM f)) := (ps_ret he).imp fun Dn σ H h => by
  obtain ⟨P, B, ia, s, Fs, r, w⟩ := h
  exact ⟨P, B, ia, s, Fs, r, (Post.bind w).mono (fun _ _ q => q.to) fun a s' q v H' rv => q v σ H' rv⟩
theorem ds_retN : PS X (.Return none pos) (tS X.K E retN) := ps_retN.imp fun Dn σ H h => by
  obtain ⟨P, B, ia, s, Fs, r, w⟩ := h
  exact w .non σ H (.flat .non Fr.refl r)
theorem ds_if {c : Expr} {a b : List Stmt} {t : M Bool} {f g : M Fl} (hc : PT X c (tT X.K E t)) (ha : PSs X a (tS X.K E f)) (hb : PSs X b (tS X.K E g)) : PS X (.If c a b pos) (tS X.K E (iteM t f g)) := (ps_if hc ha hb).imp fun Dn σ H h => by
  obtain ⟨P, B, ia, s, Fs, r, w⟩ := h
  refine ⟨P, B, ia, s, Fs, r, (Post.bind w).mono (fun _ _ q => q.to) fun b s' q H' Fs' fr r' => ?_⟩
  cases b with
  | true =>
    rw [if_pos rfl] at q
    exact iteT ⟨P, B, ia, s', Fs', r', q.mono (fun x s2 q => q.step fr) fun fl s2 q => q.step fr⟩
  | false =>
    rw [if_neg (by decide)] at q
    exact iteF ⟨P, B, ia, s', Fs', r', q.mono (fun x s2 q => q.step fr) fun fl s2 q => q.step fr⟩
theorem tS_set {K : PySem.W.Frag} {i : Nat} {f : M (Bool × D)} (Dn : Ends) (σ : St) (H : Hp) (h : tS K E (setM i f) Dn σ H) : tAsg (tD K E f) (gName i) Dn σ H := by
  obtain ⟨P, B, ia, s, Fs, r, w⟩ := h
  refine ⟨P, B, ia, s, Fs, r, (Post.bind w).mono (fun _ _ q => q.to) fun a s' q v H' rv => ?_⟩
  obtain ⟨F, Fs', h1, h2, h3, h4, h5⟩ := rv
  split at q
  · rename_i s2 e
    obtain ⟨x, e1, e2, e3⟩ := putS_inv e
    subst e3
    refine q _ H' _ h2 ((h4.weak fun b m => .inl m).set h1 (h4.noOwn fun a m => .inr m) h3 e1 e2 (by split <;> decide) fun ho => ?_)
    split at ho
    · rename_i hfr
      obtain ⟨a, G, g1, g2, g3, g4, g5, g6⟩ := h5 hfr
      exact ⟨a, G, g1, g2, g3, g4, g5, g6⟩
    · exact absurd rfl ho
  · exact q.elim
theorem ds_set {i : Nat} {x : Str} {e : Expr} {pos' : Pos} {f : M (Bool × D)} (he : PE X e (tD X.K E f)) (hN : X.N.Nodup) (hi : X.N[i]? = some x := by rfl) (hx : Loc X.env.scope x := by first | exact .inl rfl | exact .inr rfl) (hs : swapsWith e (some (.Name x pos')) pos.line X.env = pure false := by rfl)
    (hf : X.fn x = true ∨ X.env.scope.names.lookup x = some .local := by first | exact .inl rfl | exact .inr rfl | assumption) : PS X (.Assign [.Name x pos'] e pos) (tS X.K E (setM i f)) := (ps_set hN hi hx he hs hf).imp tS_set
end

/-! ### x op= e at a name -/
def augM (g : D → D → Option (Bool × D)) (i : Nat) (f : M (Bool × D)) : M Fl := fun s => match s[i]? with
  | some (some (.io, _)) => .stuck
  | some (some (_, _)) => (f s).bind fun y s' => (match s'[i]? with
    | some (some (_, dx)) => (match g dx y.2 with
      | some (false, z) => (match putS s' i .sh z with | some s2 => .ok .nx s2 | none => .stuck)
      | _ => .stuck)
    | _ => .stuck)
  | _ => .stuck
def addI : D → D → Option (Bool × D)
  | .int i, .int j => some (false, .int (i + j))
  | .str x, .str y => if x.length + y.length ≤ sizeLine then some (false, .str (x ++ y)) else none
  | _, _ => none
def rAddI : TIp := fun x y H Q => rI0 (fun i j => .int (i + j)) x y H Q ∨ ∃ i j, x = .str i ∧ y = .str j ∧ i.length + j.length ≤ sizeLine ∧ Q (.str (i ++ j)) H
section
variable {X : Cx} {E : WX} {pos : Pos}
theorem ip_addI : PIp X .Add rAddI := fun pins s σ H x y v u Q I rx ry h => h.elim (iop_add pins s σ H x y v u Q I rx ry) (iop_add_str pins s σ H x y v u Q I rx ry)
theorem ip_subI : PIp X .Sub (rI0 fun i j => .int (i - j)) := fun pins s σ H x y v u Q I rx ry h => iop_sub pins s σ H x y v u Q I rx ry h
theorem opd_addI {K : PySem.W.Frag} : OpD K addI rAddI := by
  intro P B ia s σ H H0 Fs dx dy q x y F G Q R o1 o2 fr e k
  unfold addI at e
  split at e
  · cases e; exact .inl ⟨_, _, o1.int_inv, o2.int_inv, k _ _ (.flat .int fr R)⟩
  · split at e
    · rename_i hz
      cases e; exact .inr ⟨_, _, o1.str_inv, o2.str_inv, hz, k _ _ (.flat .str fr R)⟩
    · cases e
  · cases e
theorem tS_aug {K : PySem.W.Frag} {g : D → D → Option (Bool × D)} {ti : TIp} (ho : OpD K g ti) {i : Nat} {f : M (Bool × D)} (Dn : Ends) (σ : St) (H : Hp) (h : tS K E (augM g i f) Dn σ H) : tAug i (tD K E f) ti Dn σ H := by
  obtain ⟨P, B, ia, s, Fs, r, w⟩ := h
  unfold augM at w
  have go : ∀ (o : Own) (d : D), s[i]? = some (some (o, d)) → Post (XPd K P B ia H E) (SPd K P B ia H Dn) ((f s).bind fun y s' => match s'[i]? with
      | some (some (_, dx)) => (match g dx y.2 with
        | some (false, z) => (match putS s' i .sh z with | some s2 => .ok .nx s2 | none => .stuck)
        | _ => .stuck)
      | _ => .stuck) → tAug i (tD K E f) ti Dn σ H := by
    intro o d e w
    obtain ⟨v, F0, hv, _⟩ := r.opd e
    refine ⟨v, hv, P, B, ia, s, Fs, r, (Post.bind w).mono (fun _ _ q => q.to) fun y s' q u H' rv => ?_⟩
    obtain ⟨F, Fs', h1, h2, h3, h4, h5⟩ := rv
    match e2 : s'[i]? with
    | none => rw [e2] at q; exact q.elim
    | some none => rw [e2] at q; exact q.elim
    | some (some (o', dx)) =>
      simp only [e2] at q
      obtain ⟨v', G, hv', ov⟩ := h4.opd e2
      rw [hv] at hv'; cases hv'
      match e3 : g dx y.2 with
      | none => rw [e3] at q; exact q.elim
      | some (true, z) => rw [e3] at q; exact q.elim
      | some (false, z) =>
        simp only [e3] at q
        refine ho (h4.weak fun b m => .inl m) ov ⟨h1, h3, .inl (h4.noOwn fun a m => .inr m)⟩ h2 e3 fun w H2 rv2 => ?_
        obtain ⟨F2, Fs2, g1, g2, g3, g4, _⟩ := rv2
        match e4 : putS s' i .sh z with
        | none => rw [e4] at q; exact q.elim
        | some s2 =>
          simp only [e4] at q
          obtain ⟨x, e5, e6, e7⟩ := putS_inv e4
          subst e7
          exact q _ H2 _ g2 ((g4.weak fun b m => .inl m).set g1 (g4.noOwn fun a m => .inr m) g3 e5 e6 (by decide) fun n => absurd rfl n)
  match e : s[i]? with
  | some (some (.io, _)) => simp only [e] at w; exact w.elim
  | some (some (.sh, d)) => simp only [e] at w; exact go _ _ e w
  | some (some (.ow, d)) => simp only [e] at w; exact go _ _ e w
  | some none => simp only [e] at w; exact w.elim
  | none => simp only [e] at w; exact w.elim
theorem ds_aug {op : Operator} {g : D → D → Option (Bool × D)} {ti : TIp} {i : Nat} {x : Str} {e : Expr} {pos' : Pos} {f : M (Bool × D)} (hop : PIp X op ti) (ho : OpD X.K g ti) (he : PE X e (tD X.K E f)) (hN : X.N.Nodup) (hi : X.N[i]? = some x := by rfl)
    (hx : Loc X.env.scope x := by first | exact .inl rfl | exact .inr rfl) (hf : X.fn x = true ∨ X.env.scope.names.lookup x = some .local := by first | exact .inl rfl | exact .inr rfl | assumption) : PS X (.AugAssign (.Name x pos') op e pos) (tS X.K E (augM g i f)) := (ps_aug hN hi hx he hop hf).imp (tS_aug ho)
end

/-! ### targets -/
inductive Tg where
  | nm (i : Nat)
  | tp (ts : List Tg)
mutual
def Tg.put : Tg → D → S → Option S
  | .nm i, d, s => putS s i .sh d
  | .tp ts, d, s => match d with
    | .tup ds => Tg.puts ts ds s
    | _ => none
def Tg.puts : List Tg → List D → S → Option S
  | [], [], s => some s
  | t :: ts, d :: ds, s => (t.put d s).bind fun s' => Tg.puts ts ds s'
  | _, _, _ => none
end
mutual
def gT (K : PySem.W.Frag) : Tg → TG
  | .nm i => gName i
  | .tp ts => gTup K ts.length (gTs K ts)
def gTs (K : PySem.W.Frag) : List Tg → TGs
  | [] => gNil
  | t :: ts => gCons (gT K t) (gTs K ts)
end
theorem puts_len : ∀ {ts : List Tg} {ds : List D} {s s' : S}, Tg.puts ts ds s = some s' → ds.length = ts.length
  | [], [], _, _, _ => rfl
  | [], _ :: _, _, _, h => by simp [Tg.puts] at h
  | _ :: _, [], _, _, h => by simp [Tg.puts] at h
  | t :: ts, d :: ds, s, s', h => by
    rw [Tg.puts] at h
    obtain ⟨s1, e1, e2⟩ := Option.bind_eq_some_iff.mp h
    simp [puts_len e2]
mutual
theorem put_ok {K : PySem.W.Frag} {P B : Addr → Prop} {ia : Nat → Addr} {H : Hp} : ∀ {t : Tg} {d : D} {s s' : S} {σ : St} {Fs : Nat → List Addr} {x : V} {F : List Addr} {Q : St → Hp → Prop}, t.put d s = some s' → SR K P B ia s σ H Fs → Rep K H d x F → (∀ a, a ∈ F → P a) → (∀ a, a ∈ F → B a) →
    (∀ σ' Fs', SR K P B ia s' σ' H Fs' → Q σ' H) → gT K t x σ H Q
  | .nm i, d, s, s', σ, Fs, x, F, Q, h, r, hr, hp, hb, k => by
    rw [Tg.put] at h
    obtain ⟨y, e1, e2, e3⟩ := putS_inv h
    subst e3
    rw [gT]
    exact k _ _ (r.set hr (r.noOwn hp) hb e1 e2 (by decide) fun n => absurd rfl n)
  | .tp ts, d, s, s', σ, Fs, x, F, Q, h, r, hr, hp, hb, k => by
    cases d with
    | tup ds =>
      rw [Tg.put] at h
      cases hr with
      | @tup a _ vs F h1 h2 =>
        rw [gT]
        exact ⟨a, vs, rfl, h1, by rw [← h2.length]; exact puts_len h, puts_ok h r h2 hp hb k⟩
    | _ => simp [Tg.put] at h
theorem puts_ok {K : PySem.W.Frag} {P B : Addr → Prop} {ia : Nat → Addr} {H : Hp} : ∀ {ts : List Tg} {ds : List D} {s s' : S} {σ : St} {Fs : Nat → List Addr} {xs : List V} {F : List Addr} {Q : St → Hp → Prop}, Tg.puts ts ds s = some s' → SR K P B ia s σ H Fs → Reps K H ds xs F → (∀ a, a ∈ F → P a) → (∀ a, a ∈ F → B a) →
    (∀ σ' Fs', SR K P B ia s' σ' H Fs' → Q σ' H) → gTs K ts xs σ H Q
  | [], [], s, s', σ, Fs, xs, F, Q, h, r, hr, hp, hb, k => by
    cases hr
    rw [Tg.puts] at h; cases h
    rw [gTs]
    exact ⟨rfl, k σ Fs r⟩
  | [], _ :: _, _, _, _, _, _, _, _, h, _, _, _, _, _ => by simp [Tg.puts] at h
  | _ :: _, [], _, _, _, _, _, _, _, h, _, _, _, _, _ => by simp [Tg.puts] at h
  | t :: ts, d :: ds, s, s', σ, Fs, xs, F, Q, h, r, hr, hp, hb, k => by
    rw [Tg.puts] at h
    obtain ⟨s1, e1, e2⟩ := Option.bind_eq_some_iff.mp h
    cases hr with
    | @cons _ v F1 _ vs G h1 h2 =>
      rw [gTs]
      refine ⟨v, vs, rfl, put_ok e1 r h1 (fun a m => hp a (List.mem_append_left _ m)) (fun a m => hb a (List.mem_append_left _ m)) fun σ1 Fs1 r1 => ?_⟩
      exact puts_ok e2 r1 h2 (fun a m => hp a (List.mem_append_right _ m)) (fun a m => hb a (List.mem_append_right _ m)) k
end
/-- targets = e -/
def asgM (t : Tg) (f : M (Bool × D)) : M Fl := fun s => (f s).bind fun r s' => match t.put r.2 s' with
  | some s2 => .ok .nx s2
  | none => .stuck
section
variable {X : Cx} {E : WX} {pos : Pos}
theorem tS_asg {K : PySem.W.Frag} {t : Tg} {f : M (Bool × D)} (Dn : Ends) (σ : St) (H : Hp) (h : tS K E (asgM t f) Dn σ H) : tAsg (tD K E f) (gT K t) Dn σ H := by
  obtain ⟨P, B, ia, s, Fs, r, w⟩ := h
  refine ⟨P, B, ia, s, Fs, r, (Post.bind w).mono (fun _ _ q => q.to) fun a s' q v H' rv => ?_⟩
  obtain ⟨F, Fs', h1, h2, h3, h4, h5⟩ := rv
  split at q
  · rename_i s2 e
    exact put_ok e h4 h1 (fun a m => .inr m) h3 fun σ' Fs2 r2 => q σ' H' Fs2 h2 (r2.weak fun b m => .inl m)
  · exact q.elim
theorem ds_asg {tg e : Expr} {t : Tg} {f : M (Bool × D)} (he : PE X e (tD X.K E f)) (hg : PG X tg (gT X.K t)) (hs : swapsWithSole [tg] e pos.line X.env = pure false := by rfl) (hw : swappedStores [tg] e X.env = pure none := by rfl)
    (h1 : (assignEach [tg] X.env).map (·.2) = [assign tg X.env] := by rfl) : PS X (.Assign [tg] e pos) (tS X.K E (asgM t f)) := (ps_asg he hg hs hw h1).imp tS_asg
theorem dg_name {i : Nat} {x : Str} (hN : X.N.Nodup) (hi : X.N[i]? = some x := by rfl) (hx : Loc X.env.scope x := by first | exact .inl rfl | exact .inr rfl) (hf : X.fn x = true ∨ X.env.scope.names.lookup x = some .local := by first | exact .inl rfl | exact .inr rfl | assumption) : PG X (.Name x pos) (gT X.K (.nm i)) := by
  rw [gT]; exact pg_name hN hi hx hf
theorem dgs_nil : PGs X [] (gTs X.K []) := by rw [gTs]; exact pgs_nil
theorem dgs_cons {e : Expr} {es : List Expr} {t : Tg} {ts : List Tg} (h1 : PG X e (gT X.K t)) (h2 : PGs X es (gTs X.K ts)) (hs : (assignEach (e :: es) X.env).map (·.2) = assign e X.env :: (assignEach es X.env).map (·.2) := by rfl) : PGs X (e :: es) (gTs X.K (t :: ts)) := by
  rw [gTs]; exact pgs_cons h1 h2 hs
theorem dg_tup {es : List Expr} {k : Nat} {ts : List Tg} (hc : X.calm = true) (h : PGs X es (gTs X.K ts)) (hn : (assignEach es X.env).length = ts.length := by rfl) (hst : (assignEach es X.env).findIdx? (·.1) = none := by rfl) : PG X (.Tuple es k pos) (gT X.K (.tp ts)) := by
  rw [gT]; exact pg_tup hc h hn hst
end
end PV

/-! PV: loops and comprehensions by values. -/
namespace PV
open PySem PySem.Spec L2

/-! ### while -/
/-- one turn of a while, k behind it -/
def wstep (c : M Bool) (b : M Fl) (k : M Fl) : M Fl := fun s => (c s).bind fun t s1 => if t = true then (b s1).bind fun fl s2 => (match fl with
      | .bk => .ok .nx s2
      | .rt fr d => .ok (.rt fr d) s2
      | _ => k s2) else .ok .nx s1
def whileN (c : M Bool) (b : M Fl) : Nat → M Fl
  | 0 => fun _ => .stuck
  | n + 1 => wstep c b (whileN c b n)
def Res.isStuck {α : Type} : Res α → Prop
  | .stuck => True
  | _ => False
open Classical in
noncomputable def whileM (c : M Bool) (b : M Fl) : M Fl := fun s => if h : ∃ n, ¬ (whileN c b n s).isStuck then whileN c b h.choose s else .stuck
section
variable {c : M Bool} {b : M Fl}
theorem wstep_cases (c : M Bool) (b : M Fl) (s : S) : (∃ r, ∀ k, wstep c b k s = r) ∨ ∃ s2, ∀ k, wstep c b k s = k s2 := by
  unfold wstep
  cases c s with
  | stuck => exact .inl ⟨_, fun _ => rfl⟩
  | exc x s1 => exact .inl ⟨_, fun _ => rfl⟩
  | ok t s1 =>
    cases t with
    | false => exact .inl ⟨_, fun _ => rfl⟩
    | true =>
      simp only [Res.bind_ok, if_pos]
      cases b s1 with
      | stuck => exact .inl ⟨_, fun _ => rfl⟩
      | exc x s1 => exact .inl ⟨_, fun _ => rfl⟩
      | ok fl s2 =>
        cases fl with
        | bk => exact .inl ⟨_, fun _ => rfl⟩
        | rt fr d => exact .inl ⟨_, fun _ => rfl⟩
        | nx => exact .inr ⟨s2, fun _ => rfl⟩
        | ct => exact .inr ⟨s2, fun _ => rfl⟩
theorem whileN_succ : ∀ (n : Nat) (s : S), ¬ (whileN c b n s).isStuck → whileN c b (n + 1) s = whileN c b n s
  | 0, s, h => absurd trivial h
  | n + 1, s, h => by
    show wstep c b (whileN c b (n + 1)) s = wstep c b (whileN c b n) s
    rcases wstep_cases c b s with ⟨r, hr⟩ | ⟨s2, hr⟩
    · rw [hr, hr]
    · have h' : ¬ (wstep c b (whileN c b n) s).isStuck := h
      rw [hr] at h'
      rw [hr, hr, whileN_succ n s2 h']
theorem whileN_le {n m : Nat} (hm : n ≤ m) {s : S} (h : ¬ (whileN c b n s).isStuck) : whileN c b m s = whileN c b n s := by
  induction hm with
  | refl => rfl
  | step hm ih => rw [whileN_succ _ _ (by rw [ih]; exact h), ih]
theorem whileM_of {n : Nat} {s : S} (h : ¬ (whileN c b n s).isStuck) : whileM c b s = whileN c b n s := by
  unfold whileM
  have hx : ∃ n, ¬ (whileN c b n s).isStuck := ⟨n, h⟩
  rw [dif_pos hx]
  rcases Nat.le_total n hx.choose with q | q
  · exact whileN_le q h
  · exact (whileN_le q hx.choose_spec).symm
theorem whileM_no {s : S} (h : ∀ n, (whileN c b n s).isStuck) : whileM c b s = .stuck := by
  unfold whileM
  rw [dif_neg fun ⟨n, q⟩ => q (h n)]
theorem whileM_ex (s : S) (h : ¬ (whileM c b s).isStuck) : ∃ n, whileM c b s = whileN c b n s := by
  by_cases q : ∃ n, ¬ (whileN c b n s).isStuck
  · obtain ⟨n, q⟩ := q
    exact ⟨n, whileM_of q⟩
  · rw [whileM_no fun n => Classical.byContradiction fun z => q ⟨n, z⟩] at h
    exact absurd trivial h
theorem isStuck_eq {α : Type} {r : Res α} (h : r.isStuck) : r = .stuck := by
  cases r with
  | stuck => rfl
  | ok a s => exact h.elim
  | exc x s => exact h.elim
/-- one turn of a while -/
theorem whileM_eq (s : S) : whileM c b s = wstep c b (whileM c b) s := by
  by_cases q : ∃ n, ¬ (whileN c b n s).isStuck
  · obtain ⟨n, q⟩ := q
    rw [whileM_of q]
    cases n with
    | zero => exact absurd trivial q
    | succ n =>
      have q' : ¬ (wstep c b (whileN c b n) s).isStuck := q
      show wstep c b (whileN c b n) s = _
      rcases wstep_cases c b s with ⟨r, hr⟩ | ⟨s2, hr⟩
      · rw [hr, hr]
      · rw [hr] at q'
        rw [hr, hr, whileM_of q']
  · have h : ∀ n, (whileN c b n s).isStuck := fun n => Classical.byContradiction fun z => q ⟨n, z⟩
    rw [whileM_no h]
    rcases wstep_cases c b s with ⟨r, hr⟩ | ⟨s2, hr⟩
    · have := isStuck_eq (h 1)
      rw [hr]
      exact this.symm.trans (hr _)
    · rw [hr, whileM_no fun n => ?_]
      have := h (n + 1)
      have e : whileN c b (n + 1) s = whileN c b n s2 := hr _
      rw [e] at this
      exact this
theorem Post.notStuck {α : Type} {E : Exn → S → Prop} {Q : α → S → Prop} {r : Res α} (h : Post E Q r) : ¬ r.isStuck := by
  cases r with
  | stuck => exact fun _ => h
  | ok a s => exact fun q => q
  | exc x s => exact fun q => q
end
section
variable {X : Cx} {E : WX} {pos : Pos}
theorem tS_while {K : PySem.W.Frag} {c : M Bool} {b : M Fl} (Dn : Ends) (σ : St) (H : Hp) (h : tS K E (whileM c b) Dn σ H) : tWhile (tT K E c) (tS K E b) Dn σ H := by
  obtain ⟨P, B, ia, s, Fs, r, w⟩ := h
  obtain ⟨n, en⟩ := whileM_ex s w.notStuck
  rw [en] at w
  refine ⟨fun m σ' H' => ∃ s' Fs', Fr P H H' ∧ SR K P B ia s' σ' H' Fs' ∧ Post (XPd K P B ia H E) (SPd K P B ia H Dn) (whileN c b m s'), ⟨n, s, Fs, Fr.refl, r, w⟩, ?_⟩
  rintro m σ1 H1 ⟨s1, Fs1, fr1, r1, w1⟩
  cases m with
  | zero => exact w1.elim
  | succ m =>
    have w1 : Post _ _ ((c s1).bind _) := w1
    refine ⟨P, B, ia, s1, Fs1, r1, (Post.bind w1).mono (fun x s2 q => (q.step fr1).to) fun t s2 q H2 Fs2 fr2 r2 => ?_⟩
    cases t with
    | false =>
      rw [if_neg (by decide)] at q
      exact iteF (q σ1 H2 Fs2 (fr1.trans fr2) r2)
    | true =>
      rw [if_pos rfl] at q
      refine iteT ⟨fun σ' H' => ∃ s' Fs', Fr P H H' ∧ SR K P B ia s' σ' H' Fs' ∧ Post (XPd K P B ia H E) (SPd K P B ia H Dn) (whileN c b m s'), fun σ' H' hN => ⟨m, Nat.lt_succ_self m, hN⟩, P, B, ia, s2, Fs2, r2, ?_⟩
      refine (Post.bind q).mono (fun x s3 q => q.step (fr1.trans fr2)) fun fl s3 q => ?_
      cases fl with
      | nx => exact fun σ' H' Fs' fr r' => ⟨s3, Fs', (fr1.trans fr2).trans fr, r', q⟩
      | ct => exact fun σ' H' Fs' fr r' => ⟨s3, Fs', (fr1.trans fr2).trans fr, r', q⟩
      | bk => exact fun σ' H' Fs' fr r' => q σ' H' Fs' ((fr1.trans fr2).trans fr) r'
      | rt f d => exact fun v σ' H' rv => q v σ' H' (RV.step (P' := P) (fr1.trans fr2) rv)
theorem ds_while {t : Expr} {body : List Stmt} {c : M Bool} {b : M Fl} (hp : PassesOwn (model X.prog X.w) X.A X.env X.xe) (hc : PT X t (tT X.K E c)) (hb : PSs X body (tS X.K E b)) : PS X (.While t body [] pos) (tS X.K E (whileM c b)) := (ps_while hp hc hb).imp tS_while
end

/-! ### for -/
def forL (t : Tg) (b : M Fl) : List D → M Fl
  | [] => fun s => .ok .nx s
  | d :: ds => fun s => match t.put d s with
    | none => .stuck
    | some s1 => (b s1).bind fun fl s2 => (match fl with
      | .bk => .ok .nx s2
      | .rt fr d => .ok (.rt fr d) s2
      | _ => forL t b ds s2)
def forM (it : M (List D)) (t : Tg) (b : M Fl) : M Fl := fun s => (it s).bind fun ds s1 => forL t b ds s1
/-- what a walk hands out, turn by turn -/
def ItOK (K : PySem.W.Frag) (P B : Addr → Prop) (J : It) (ds : List D) (H : Hp) : Prop :=
  ∃ inv : Hp → Prop, inv H ∧ (∀ H1 H2, inv H1 → Fr P H1 H2 → inv H2) ∧ ∀ i H1, inv H1 →
    (∀ d, ds[i]? = some d → J.go i H1 ∧ ∀ x H2, J.yld i H1 x H2 → (H2 = H1 ∨ ∃ p o, H1 p = none ∧ H2 = upd H1 p o) ∧ ∃ F, Rep K H2 d x F ∧ (∀ a, a ∈ F → P a) ∧ ∀ a, a ∈ F → B a) ∧ (ds.length ≤ i → J.stop i H1)
def tI (K : PySem.W.Frag) (E : WX) (it : M (List D)) : TI := fun σ H R => ∃ P B ia s Fs, SR K P B ia s σ H Fs ∧
  Post (fun x s' => ∀ cls dx H', RX K P B ia s' σ H H' x cls dx → E cls dx σ H') (fun ds s' => ∀ J H' P' Fs', (∀ b, P b → P' b) → Fr P H H' → SR K P' B ia s' σ H' Fs' → ItOK K P' B J ds H' → R J H') (it s)
section
variable {X : Cx} {E : WX} {pos : Pos}
theorem tS_for {K : PySem.W.Frag} {it : M (List D)} {t : Tg} {b : M Fl} (Dn : Ends) (σ : St) (H : Hp) (h : tS K E (forM it t b) Dn σ H) : tFor (tI K E it) (gT K t) (tS K E b) Dn σ H := by
  obtain ⟨P, B, ia, s, Fs, r, w⟩ := h
  refine ⟨P, B, ia, s, Fs, r, (Post.bind w).mono (fun _ _ q => q.to) fun ds s1 q J H1 P' Fs1 hP fr1 r1 ok => ?_⟩
  obtain ⟨inv, i0, keep, turn⟩ := ok
  refine ⟨fun i m σ' H' => m + i = ds.length ∧ ∃ s' Fs', Fr P H H' ∧ inv H' ∧ SR K P' B ia s' σ' H' Fs' ∧ Post (XPd K P B ia H E) (SPd K P B ia H Dn) (forL t b (ds.drop i) s'), ⟨ds.length, by simp, s1, Fs1, fr1, i0, r1, by simpa using q⟩, ?_⟩
  rintro i m σ2 H2 ⟨em, s2, Fs2, fr2, i2, r2, w2⟩
  obtain ⟨go, stop⟩ := turn i H2 i2
  cases e : ds[i]? with
  | none =>
    have hl : ds.length ≤ i := List.getElem?_eq_none_iff.mp e
    rw [List.drop_eq_nil_of_le hl, forL] at w2
    exact .inl ⟨stop hl, w2 σ2 H2 Fs2 fr2 (r2.weak hP)⟩
  | some d =>
    obtain ⟨g1, g2⟩ := go d e
    have hi : i < ds.length := (List.getElem?_eq_some_iff.mp e).1
    have ed : ds.drop i = d :: ds.drop (i + 1) := by
      rw [List.drop_eq_getElem_cons hi, (List.getElem?_eq_some_iff.mp e).2]
    rw [ed, forL] at w2
    refine .inr ⟨g1, fun σ' H' => ∃ s' Fs', Fr P H H' ∧ inv H' ∧ SR K P' B ia s' σ' H' Fs' ∧ Post (XPd K P B ia H E) (SPd K P B ia H Dn) (forL t b (ds.drop (i + 1)) s'), fun σ' H' hN => ⟨m - 1, by omega, by omega, hN⟩, fun x H3 y => ?_⟩
    obtain ⟨hH, F, rep, hp, hb⟩ := g2 x H3 y
    have fr3 : Fr P' H2 H3 := by
      rcases hH with e | ⟨p, o, np, e⟩
      · subst e; exact Fr.refl
      · subst e; exact Fr.new np r2.tr
    have r3 : SR K P' B ia s2 σ2 H3 Fs2 := by
      rcases hH with e | ⟨p, o, np, e⟩
      · subst e; exact r2
      · subst e; exact r2.new np
    dsimp only at w2
    split at w2
    · exact w2.elim
    · rename_i s3 e3
      refine put_ok e3 r3 rep hp hb fun σ4 Fs4 r4 => ⟨P', B, ia, s3, Fs4, r4, (Post.bind w2).mono (fun x s5 q => fun σ' cls dx H' rx => q σ' cls dx H' (rx.weak (fr2.trans (fr3.mono hP)) hP)) fun fl s5 q => ?_⟩
      have fr23 := fr2.trans (fr3.mono hP)
      cases fl with
      | nx => exact fun σ' H' Fs' fr r' => ⟨s5, Fs', fr23.trans (fr.mono hP), keep _ _ (keep _ _ i2 fr3) fr, r', q⟩
      | ct => exact fun σ' H' Fs' fr r' => ⟨s5, Fs', fr23.trans (fr.mono hP), keep _ _ (keep _ _ i2 fr3) fr, r', q⟩
      | bk => exact fun σ' H' Fs' fr r' => q σ' H' Fs' (fr23.trans (fr.mono hP)) (r'.weak hP)
      | rt f d =>
        refine fun v σ' H' rv => q v σ' H' ?_
        obtain ⟨F, Fs', h1, h2, h3, h4, h5⟩ := rv
        refine ⟨F, Fs', h1, fr23.trans (h2.mono hP), h3, h4.weak fun b m => m.elim (fun m => .inl (hP b m)) .inr, fun hf => ?_⟩
        obtain ⟨a, G, k1, k2, k3, k4, k5, k6⟩ := h5 hf
        exact ⟨a, G, k1, k2, k3, k4, fun m => k5 (hP a m), k6⟩
theorem ds_for {tg iter : Expr} {body : List Stmt} {it : M (List D)} {t : Tg} {b : M Fl} (hp : PassesOwn (model X.prog X.w) X.A X.env X.xe) (hc : X.calm = true) (hi : PI X tg iter (tI X.K E it)) (hg : PG X tg (gT X.K t)) (hb : PSs X body (tS X.K E b))
    (hs : ∀ x, foldedSetIterable iter X.env x = pure x := by intro _; rfl) : PS X (.For tg iter body [] pos) (tS X.K E (forM it t b)) := (ps_for hp hc hi hg hb hs).imp tS_for
theorem _root_.L2.PI.imp {tg e : Expr} {t t' : TI} (h : PI X tg e t) (q : ∀ σ H R, t' σ H R → t σ H R) : PI X tg e t' := ⟨fun pins s σ H R I w => h.run pins s σ H R I (q σ H R w)⟩
end

/-! ### what is walked -/
section
variable {K : PySem.W.Frag} {P B : Addr → Prop} {H : Hp} {ds : List D} {vs : List V} {F : List Addr} {a : Addr}
theorem it_list (h : H a = some (.lst vs)) (hr : Reps K H ds vs F) (pa : P a) (hp : ∀ a, a ∈ F → P a) (hb : ∀ a, a ∈ F → B a) : ItOK K P B (Itl K a) ds H := by
  refine ⟨fun H' => H' a = some (.lst vs) ∧ Reps K H' ds vs F, ⟨h, hr⟩, fun H1 H2 q fr => ⟨(fr.p a pa).trans q.1, Reps.keep fr.i q.2 fun b m => fr.p b (hp b m)⟩, fun i H1 q => ⟨fun d e => ?_, fun hl => ⟨vs, SqL.of q.1, by rw [← q.2.length]; exact hl⟩⟩⟩
  obtain ⟨v, G, e1, e2, e3⟩ := q.2.get e
  refine ⟨⟨vs, v, SqL.of q.1, e1⟩, fun x H2 y => ?_⟩
  obtain ⟨rfl, y⟩ := y
  have := y vs (SqL.of q.1)
  rw [e1] at this; cases this
  exact ⟨.inl rfl, G, e2, fun b m => hp b (e3 b m), fun b m => hb b (e3 b m)⟩
theorem it_fro (h : Fz K H a vs) (hr : Reps K H ds vs F) (hp : ∀ a, a ∈ F → P a) (hb : ∀ a, a ∈ F → B a) : ItOK K P B (Itl K a) ds H := by
  refine ⟨fun H' => Fz K H' a vs ∧ Reps K H' ds vs F, ⟨h, hr⟩, fun H1 H2 q fr => ⟨fz_keep q.1 fr.i, Reps.keep fr.i q.2 fun b m => fr.p b (hp b m)⟩, fun i H1 q => ⟨fun d e => ?_, fun hl => ⟨vs, fz_sq q.1, by rw [← q.2.length]; exact hl⟩⟩⟩
  obtain ⟨v, G, e1, e2, e3⟩ := q.2.get e
  refine ⟨⟨vs, v, fz_sq q.1, e1⟩, fun x H2 y => ?_⟩
  obtain ⟨rfl, y⟩ := y
  have := y vs (fz_sq q.1)
  rw [e1] at this; cases this
  exact ⟨.inl rfl, G, e2, fun b m => hp b (e3 b m), fun b m => hb b (e3 b m)⟩
theorem it_tup (h : SqT K H a vs) (hr : Reps K H ds vs F) (hp : ∀ a, a ∈ F → P a) (hb : ∀ a, a ∈ F → B a) : ItOK K P B (Itt K a) ds H := by
  refine ⟨fun H' => SqT K H' a vs ∧ Reps K H' ds vs F, ⟨h, hr⟩, fun H1 H2 q fr => ⟨sqT_keep q.1 fr.i, Reps.keep fr.i q.2 fun b m => fr.p b (hp b m)⟩, fun i H1 q => ⟨fun d e => ?_, fun hl => ⟨vs, q.1, by rw [← q.2.length]; exact hl⟩⟩⟩
  obtain ⟨v, G, e1, e2, e3⟩ := q.2.get e
  refine ⟨⟨vs, v, q.1, e1⟩, fun x H2 y => ?_⟩
  obtain ⟨rfl, y⟩ := y
  have := y vs q.1
  rw [e1] at this; cases this
  exact ⟨.inl rfl, G, e2, fun b m => hp b (e3 b m), fun b m => hb b (e3 b m)⟩
/-- the signs of a text -/
def signs (x : Str) : List D := x.cps.toList.map fun c => .str ⟨#[c]⟩
theorem it_str {x : Str} : ItOK K P B (Its x) (signs x) H := by
  refine ⟨fun _ => True, trivial, fun _ _ _ _ => trivial, fun i H1 _ => ⟨fun d e => ?_, fun hl => ?_⟩⟩
  · unfold signs at e
    rw [List.getElem?_map] at e
    obtain ⟨c, e1, e2⟩ := Option.map_eq_some_iff.mp e
    have e3 : x.cps[i]? = some c := by simpa using e1
    refine ⟨(Array.getElem?_eq_some_iff.mp e3).1, fun v H2 y => ?_⟩
    obtain ⟨rfl, c', e4, rfl⟩ := y
    rw [e3] at e4; cases e4
    subst e2
    exact ⟨.inl rfl, [], .str, nofun, nofun⟩
  · show x.cps.size ≤ i
    simpa [signs] using hl
def intsD (lo : Int) (n : Nat) : List D := (List.range n).map fun i => .int (lo + (i : Nat))
theorem intsD_get {lo : Int} {n i : Nat} {d : D} (e : (intsD lo n)[i]? = some d) : i < n ∧ d = .int (lo + (i : Nat)) := by
  unfold intsD at e
  rw [List.getElem?_map] at e
  obtain ⟨c, e1, e2⟩ := Option.map_eq_some_iff.mp e
  obtain ⟨h1, h2⟩ := List.getElem?_eq_some_iff.mp e1
  simp at h1 h2
  subst h2
  exact ⟨h1, e2.symm⟩
theorem it_range {lo : Int} {n : Nat} : ItOK K P B (Itr lo n) (intsD lo n) H := by
  refine ⟨fun _ => True, trivial, fun _ _ _ _ => trivial, fun i H1 _ => ⟨fun d e => ?_, fun hl => ?_⟩⟩
  · obtain ⟨h1, rfl⟩ := intsD_get e
    refine ⟨h1, fun v H2 y => ?_⟩
    obtain ⟨rfl, rfl⟩ := y
    exact ⟨.inl rfl, [], .int, nofun, nofun⟩
  · show n ≤ i
    simpa [intsD] using hl
end
/-- for .. in e: a list, a tuple, a text -/
def itM (f : M (Bool × D)) : M (List D) := fun s => (f s).bind fun r s' => match r.2 with
  | .lst ds => .ok ds s'
  | .tup ds => .ok ds s'
  | .fro ds => .ok ds s'
  | .str x => .ok (signs x) s'
  | _ => .stuck
/-- range(n) -/
noncomputable def rng1M (f : M (Bool × D)) : M (List D) := fun s => (f s).bind fun r s' => match r.2 with
  | .int j => if gd (-(2 ^ 62) ≤ j ∧ j < 2 ^ 62) = true then .ok (intsD 0 j.toNat) s' else .stuck
  | _ => .stuck
section
variable {X : Cx} {E : WX} {pos : Pos} {tg : Expr}
theorem _root_.L2.PI.or {e : Expr} {t t' : TI} (h : PI X tg e t) (h' : PI X tg e t') : PI X tg e (fun σ H R => t σ H R ∨ t' σ H R) := ⟨fun pins s σ H R I w => w.elim (h.run pins s σ H R I) (h'.run pins s σ H R I)⟩
theorem di_it {e : Expr} {f : M (Bool × D)} (he : PE X e (tD X.K E f)) : PI X tg e (tI X.K E (itM f)) := ((pi_list he).or ((pi_tup he).or (pi_str he))).imp fun σ H R h => by
  obtain ⟨P, B, ia, s, Fs, r, w⟩ := h
  unfold itM at w
  have w' := Post.bind w
  cases e : f s with
  | stuck => rw [e] at w'; exact w'.elim
  | exc x s1 =>
    rw [e] at w'
    exact .inl ⟨P, B, ia, s, Fs, r, by rw [e]; exact w'⟩
  | ok a s1 =>
    rw [e] at w'
    obtain ⟨fr0, d⟩ := a
    simp only [Post.ok] at w'
    split at w'
    · rename_i ds
      refine .inl ⟨P, B, ia, s, Fs, r, ?_⟩
      rw [e]
      intro v H' rv
      obtain ⟨F, Fs', h1, h2, h3, h4, h5⟩ := rv
      cases h1 with
      | @lst a _ vs G g1 g2 => exact ⟨a, rfl, ⟨vs, SqL.of g1⟩, w' _ H' _ Fs' (fun b m => .inl m) h2 h4 (it_list g1 g2 (.inr List.mem_cons_self) (fun b m => .inr (List.mem_cons_of_mem _ m)) fun b m => h3 b (List.mem_cons_of_mem _ m))⟩
    · rename_i ds
      refine .inr (.inl ⟨P, B, ia, s, Fs, r, ?_⟩)
      rw [e]
      intro v H' rv
      obtain ⟨F, Fs', h1, h2, h3, h4, h5⟩ := rv
      cases h1 with
      | @tup a _ vs G g1 g2 => exact ⟨a, rfl, ⟨vs, g1⟩, w' _ H' _ Fs' (fun b m => .inl m) h2 h4 (it_tup g1 g2 (fun b m => .inr m) h3)⟩
    · rename_i ds
      refine .inl ⟨P, B, ia, s, Fs, r, ?_⟩
      rw [e]
      intro v H' rv
      obtain ⟨F, Fs', h1, h2, h3, h4, h5⟩ := rv
      cases h1 with
      | @lsz a _ vs G g1 g2 => exact ⟨a, rfl, ⟨vs, fz_sq g1⟩, w' _ H' _ Fs' (fun b m => .inl m) h2 h4 (it_fro g1 g2 (fun b m => .inr m) h3)⟩
    · rename_i x
      refine .inr (.inr ⟨P, B, ia, s, Fs, r, ?_⟩)
      rw [e]
      intro v H' rv
      obtain ⟨F, Fs', h1, h2, h3, h4, h5⟩ := rv
      cases h1
      exact ⟨x, rfl, w' _ H' P Fs' (fun b m => m) h2 (h4.weak fun b m => .inl m) it_str⟩
    · exact w'.elim
theorem di_rng1 {a : Expr} {f : M (Bool × D)} {p : Pos} (hg : Gl X "range") (hm : X.mg "range" = none) (ha : PE X a (tD X.K E f)) (hs : starEach [a] X.env = [(false, eval a X.env)] := by rfl) : PI X tg (.Call (.Name "range" p) [a] [] pos) (tI X.K E (rng1M f)) :=
  (pi_range1 hg hm (pa_cons ha pa_nil hs) hs).imp fun σ H R h => by
    obtain ⟨P, B, ia, s, Fs, r, w⟩ := h
    refine ⟨P, B, ia, s, Fs, r, (Post.bind w).mono (fun _ _ q => q) fun a s' q v H' rv => ?_⟩
    obtain ⟨F, Fs', h1, h2, h3, h4, h5⟩ := rv
    split at q
    · rename_i j ej
      rw [ej] at h1
      cases h1
      split at q
      · rename_i hj
        have hj := gd_iff.mp hj
        exact ⟨j, rfl, hj.1, hj.2, q _ H' P Fs' (fun b m => m) h2 (h4.weak fun b m => .inl m) it_range⟩
      · exact q.elim
    · exact q.elim
end
end PV

/-! PV: defs by values. -/
namespace PV
open PySem PySem.Spec L2

/-- what a def gives: a value (fr: its object is new) and what stands in the arguments that it changes; or an exception -/
inductive FRes where
  | ret (fr : Bool) (d : D) (outs : List D)
  | exc (x : Exn) (outs : List D)
  | stuck
abbrev FS := List D → FRes

/-- behind a call: H the heap ahead of it, vs the arguments, Fa their footprints, G, Go those of what came -/
structure FV0 (K : PySem.W.Frag) (ios : List Nat) (vs : List V) (Fa : Nat → List Addr) (H H' : Hp) (outs : List D) (Go : Nat → List Addr) : Prop where
  keep : ∀ b, H b ≠ none → (∀ j, j ∈ ios → vs[j]? ≠ some (.ref b)) → H' b = H b
  len : outs.length = ios.length
  out : ∀ (n j : Nat), ios[n]? = some j → ∃ (a : Addr) (d' : D) (T : List Addr), vs[j]? = some (.ref a) ∧ outs[n]? = some d' ∧ Go n = a :: T ∧ RepM K H' d' a T ∧ a ∉ T ∧ (∀ b, b ∈ T → (∃ i, b ∈ Fa i) ∨ H b = none) ∧ ∀ m, m ≠ n → m < ios.length → a ∉ Go m
structure FV (K : PySem.W.Frag) (ios : List Nat) (vs : List V) (Fa : Nat → List Addr) (H H' : Hp) (fr : Bool) (d : D) (outs : List D) (v : V) (G : List Addr) (Go : Nat → List Addr) : Prop extends FV0 K ios vs Fa H H' outs Go where
  rep : Rep K H' d v G
  gin : ∀ b, b ∈ G → (∃ i, b ∈ Fa i) ∨ H b = none
  gio : ∀ (n j : Nat) (a : Addr), ios[n]? = some j → vs[j]? = some (.ref a) → a ∉ G
  own : fr = true → ∃ a T, v = .ref a ∧ G = a :: T ∧ RepM K H' d a T ∧ a ∉ T ∧ H a = none ∧ ∀ n, n < ios.length → a ∉ Go n
/-- a def's promise by its function F; ios: the parameters whose objects it may change -/
def spF (K : PySem.W.Frag) (ios : List Nat) (n : Nat) (F : FS) : Sp := fun vs H Q E => vs.length = n ∧ ∃ (ds : List D) (Fa : Nat → List Addr), ds.length = n ∧ (∀ i d, ds[i]? = some d → ∃ v, vs[i]? = some v ∧ Rep K H d v (Fa i)) ∧ (∀ i, n ≤ i → Fa i = []) ∧
  (∀ j, j ∈ ios → ∃ a T d, ds[j]? = some d ∧ vs[j]? = some (.ref a) ∧ Fa j = a :: T ∧ RepM K H d a T ∧ a ∉ T ∧ ∀ i, i ≠ j → a ∉ Fa i) ∧
  match F ds with
  | .ret fr d outs => ∀ v H' G Go, FV K ios vs Fa H H' fr d outs v G Go → Q v H'
  | .exc x outs => ∀ cls dx H' Go, FV0 K ios vs Fa H H' outs Go → XRep K H' x cls dx → E cls dx H'
  | .stuck => False

/-! ### the body -/
def initS (ios : List Nat) (m : Nat) (ds : List D) : S := ds.mapIdx (fun i d => some (if i ∈ ios then Own.io else Own.sh, d)) ++ List.replicate (m - ds.length) none
def outsOf (s : S) : List Nat → Option (List D)
  | [] => some []
  | i :: is => match s[i]? with
    | some (some (.io, d)) => (outsOf s is).map fun ds => d :: ds
    | _ => none
/-- a def's function from its body's: n parameters, m slots in all -/
def runF (ios : List Nat) (n m : Nat) (f : M Fl) : FS := fun ds => if ds.length = n then (match f (initS ios m ds) with
  | .ok (.rt fr d) s => (match outsOf s ios with
    | some outs => .ret fr d outs
    | none => .stuck)
  | .ok .nx s => (match outsOf s ios with
    | some outs => .ret false .non outs
    | none => .stuck)
  | .exc x s => (match outsOf s ios with
    | some outs => .exc x outs
    | none => .stuck)
  | _ => .stuck) else .stuck
theorem outsOf_get {s : S} : ∀ {ios : List Nat} {outs : List D}, outsOf s ios = some outs → outs.length = ios.length ∧ ∀ (n i : Nat), ios[n]? = some i → ∃ d : D, outs[n]? = some d ∧ s[i]? = some (some (Own.io, d))
  | [], outs, h => by cases h; exact ⟨rfl, fun n i e => by simp at e⟩
  | i :: is, outs, h => by
    rw [outsOf] at h
    split at h
    · rename_i d e
      obtain ⟨ds, e1, e2⟩ := Option.map_eq_some_iff.mp h
      subst e2
      obtain ⟨l, g⟩ := outsOf_get e1
      refine ⟨by simp [l], fun n j q => ?_⟩
      cases n with
      | zero =>
        simp at q; subst q
        exact ⟨d, rfl, e⟩
      | succ n =>
        obtain ⟨d', g1, g2⟩ := g n j (by simpa using q)
        exact ⟨d', by simpa using g1, g2⟩
    · cases h
section
variable {K : PySem.W.Frag} {ios : List Nat} {vs : List V} {Fa : Nat → List Addr} {H : Hp} {ds : List D} {N : List Str} {n : Nat}
theorem initS_get {m i : Nat} {x : Slot} (h : (initS ios m ds)[i]? = some x) : (∃ d, ds[i]? = some d ∧ x = some (if i ∈ ios then Own.io else Own.sh, d)) ∨ (ds.length ≤ i ∧ x = none) := by
  unfold initS at h
  by_cases hi : i < ds.length
  · left
    rw [List.getElem?_append_left (by simpa using hi)] at h
    rw [List.getElem?_mapIdx] at h
    obtain ⟨d, e1, e2⟩ := Option.map_eq_some_iff.mp h
    exact ⟨d, e1, e2.symm⟩
  · right
    rw [List.getElem?_append_right (by simpa using hi)] at h
    rw [List.getElem?_replicate] at h
    split at h
    · cases h; exact ⟨Nat.le_of_not_lt hi, rfl⟩
    · cases h
/-- the state at a body's start -/
theorem SR.start (hv : vs.length = n) (hd : ds.length = n) (hN : n ≤ N.length) (rep : ∀ i d, ds[i]? = some d → ∃ v, vs[i]? = some v ∧ Rep K H d v (Fa i)) (out : ∀ i, n ≤ i → Fa i = [])
    (io : ∀ j, j ∈ ios → ∃ a T d, ds[j]? = some d ∧ vs[j]? = some (.ref a) ∧ Fa j = a :: T ∧ RepM K H d a T ∧ a ∉ T ∧ ∀ i, i ≠ j → a ∉ Fa i) :
    SR K (fun b => H b ≠ none ∧ ∀ j, j ∈ ios → vs[j]? ≠ some (.ref b)) (fun b => (∃ i, b ∈ Fa i) ∨ H b = none) (fun i => match vs[i]? with | some (.ref a) => a | _ => 0) (initS ios N.length ds) (L2.start N vs) H Fa := by
  have st : ∀ {i : Nat} {v : V}, vs[i]? = some v → (L2.start N vs)[i]? = some (some v) := fun {i v} h => by
    unfold L2.start
    have hi : i < vs.length := (List.getElem?_eq_some_iff.mp h).1
    rw [List.getElem?_append_left (by simpa using hi), List.getElem?_map, h]; rfl
  refine ⟨?_, fun i o d e => ?_, fun i o d e ne => ?_, fun i d e => ?_, fun i q => ?_, fun j a m => .inl ⟨j, m⟩, fun b q => q.1, fun b q => .inr q⟩
  · unfold initS L2.start
    simp [hv, hd]
  · rcases initS_get e with ⟨d', e1, e2⟩ | ⟨_, e2⟩
    · cases e2
      obtain ⟨v, h1, h2⟩ := rep i d e1
      exact ⟨v, st h1, h2⟩
    · cases e2
  · rcases initS_get e with ⟨d', e1, e2⟩ | ⟨_, e2⟩
    · have hm : i ∈ ios := by
        by_cases hm : i ∈ ios
        · exact hm
        · rw [if_neg hm] at e2; cases e2; exact absurd rfl ne
      rw [if_pos hm] at e2; cases e2
      obtain ⟨a, T, d2, h1, h2, h3, h4, h5, h6⟩ := io i hm
      rw [e1] at h1; cases h1
      exact ⟨a, T, st h2, h3, h4, h5, fun q => q.2 i hm h2, h6⟩
    · cases e2
  · rcases initS_get e with ⟨d', e1, e2⟩ | ⟨_, e2⟩
    · have hm : i ∈ ios := by
        by_cases hm : i ∈ ios
        · exact hm
        · rw [if_neg hm] at e2; cases e2
      obtain ⟨a, T, d2, h1, h2, h3, h4, h5, h6⟩ := io i hm
      rw [st h2, h2]
    · cases e2
  · refine out i (Nat.le_of_not_lt fun hi => ?_)
    have e0 : ds[i]? = some ds[i] := List.getElem?_eq_getElem (by rw [hd]; exact hi)
    refine q (if i ∈ ios then Own.io else Own.sh) ds[i] ?_
    unfold initS
    rw [List.getElem?_append_left (by simpa [hd] using hi), List.getElem?_mapIdx, e0]; rfl
end
/-- what a body's end gives its caller -/
theorem fv0_of {K : PySem.W.Frag} {ios : List Nat} {vs : List V} {Fa : Nat → List Addr} {H H' : Hp} {s : S} {σ : St} {Fs : Nat → List Addr} {P : Addr → Prop} {outs : List D} (nd : ios.Nodup)
    (fr : Fr (fun b => H b ≠ none ∧ ∀ j, j ∈ ios → vs[j]? ≠ some (.ref b)) H H') (r : SR K P (fun b => (∃ i, b ∈ Fa i) ∨ H b = none) (fun i => match vs[i]? with | some (.ref a) => a | _ => 0) s σ H' Fs) (ho : outsOf s ios = some outs)
    (hio : ∀ j, j ∈ ios → ∃ a, vs[j]? = some (.ref a)) : FV0 K ios vs Fa H H' outs (fun n => match ios[n]? with | some j => Fs j | none => []) := by
  obtain ⟨l, g⟩ := outsOf_get ho
  refine ⟨fun b h1 h2 => fr.p b ⟨h1, h2⟩, l, fun n j e => ?_⟩
  obtain ⟨d, g1, g2⟩ := g n j e
  obtain ⟨a, T, h1, h2, h3, h4, h5, h6⟩ := r.own j _ d g2 (by decide)
  have ev := r.iov j d g2
  obtain ⟨a', ea⟩ := hio j (List.mem_of_getElem? e)
  rw [ea] at ev
  rw [h1] at ev
  cases ev
  refine ⟨_, d, T, ea, g1, by rw [e]; exact h2, h3, h4, fun b m => r.inB j b (by rw [h2]; exact List.mem_cons_of_mem _ m), fun m hm hl => ?_⟩
  rw [List.getElem?_eq_getElem hl]
  refine h6 _ fun q => hm ?_
  have e' : ios[m]? = some j := by rw [List.getElem?_eq_getElem hl, q]
  obtain ⟨hn, en⟩ := List.getElem?_eq_some_iff.mp e
  exact (List.getElem_inj nd).mp ((show ios[m] = ios[n] from q.trans en.symm))
section
variable {P : Program} {w : World} {K : PySem.W.Frag} {mg : Str → Option Value} {base : Heap} {x qual : Str} {params : Arguments} {body : List Stmt} {scope : Scope} {f : Addr} {fd : FuncData}
/-- THE RULE for a def: its body by a function keeps the promise by this function -/
theorem fn_okD {N ps : List Str} {k : Nat} {ios : List Nat} {g : M Fl} (F : FunD K x qual params body scope [] [] f fd) (S : FnScope N ps scope) (nd : ios.Nodup) (hN : ps.length ≤ N.length)
    (hbody : ∀ (cdv : Value) (A : Around) (outer : List Env) (s : Shared) (H : Hp) (E : XK), Room k (A.deeper (PyProof.Rows.envOfC qual scope s.heap.objs.size f cdv)) → PSs (cxOf (L2.CX P w) P w K mg base N qual scope f cdv A outer s H E) body (tS K (fun cls d _ H => E cls d H) g)) :
    FnOk P w K mg base (L2.CX P w) (k + 1) f fd ps (spF K ios ps.length (runF ios ps.length N.length g)) := by
  refine F.ok S (fun vs H Q E h => h.1) fun cdv A outer s H vs Q E hr h => ?_
  obtain ⟨hv, ds, Fa, hd, rep, out, io, h⟩ := h
  refine ⟨_, hbody cdv A outer s H E hr, ?_⟩
  have r := SR.start (N := N) hv hd hN rep out io
  have hio : ∀ j, j ∈ ios → ∃ a, vs[j]? = some (.ref a) := fun j hj => let ⟨a, _, _, _, e, _⟩ := io j hj; ⟨a, e⟩
  refine ⟨_, _, _, _, Fa, r, ?_⟩
  unfold runF at h
  rw [if_pos hd] at h
  cases e : g (initS ios N.length ds) with
  | stuck => rw [e] at h; exact h.elim
  | exc y s' =>
    rw [e] at h
    dsimp only at h
    cases eo : outsOf s' ios with
    | none => rw [eo] at h; exact h.elim
    | some outs =>
      rw [eo] at h
      intro σ' cls dx H' rx
      obtain ⟨Fs', h1, h2, h3⟩ := rx
      exact h cls dx H' _ (fv0_of nd h1 h2 eo hio) h3
  | ok fl s' =>
    rw [e] at h
    cases fl with
    | bk => exact h.elim
    | ct => exact h.elim
    | nx =>
      dsimp only at h
      cases eo : outsOf s' ios with
      | none => rw [eo] at h; exact h.elim
      | some outs =>
        rw [eo] at h
        intro σ' H' Fs' fr r'
        exact h .non H' [] _ ⟨fv0_of nd fr r' eo hio, .non, nofun, fun _ _ _ _ _ => List.not_mem_nil, nofun⟩
    | rt fr d =>
      dsimp only at h
      cases eo : outsOf s' ios with
      | none => rw [eo] at h; exact h.elim
      | some outs =>
        rw [eo] at h
        intro v σ' H' rv
        obtain ⟨G, Fs', h1, h2, h3, h4, h5⟩ := rv
        refine h v H' G _ ⟨fv0_of nd h2 h4 eo hio, h1, h3, fun n j a e1 e2 => ?_, fun hf => ?_⟩
        · obtain ⟨_, g⟩ := outsOf_get eo
          obtain ⟨d', g1, g2⟩ := g n j e1
          obtain ⟨a', T, k1, k2, k3, k4, k5, k6⟩ := h4.own j _ d' g2 (by decide)
          have ev := h4.iov j d' g2
          rw [e2, k1] at ev
          cases ev
          exact fun m => k5 (.inr m)
        · obtain ⟨a, T, k1, k2, k3, k4, k5, k6⟩ := h5 hf
          refine ⟨a, T, k1, k2, k3, k4, ?_, fun n hn => ?_⟩
          · refine Classical.byContradiction fun q => k5 ⟨q, fun j hj e => ?_⟩
            obtain ⟨n, hn⟩ := List.getElem?_of_mem hj
            obtain ⟨_, g⟩ := outsOf_get eo
            obtain ⟨d', g1, g2⟩ := g n j hn
            obtain ⟨a', T', m1, m2, m3, m4, m5, m6⟩ := h4.own j _ d' g2 (by decide)
            have ev := h4.iov j d' g2
            rw [e, m1] at ev
            cases ev
            exact k6 j (by rw [m2]; exact List.mem_cons_self)
          · rw [List.getElem?_eq_getElem hn]
            exact k6 _
end

/-! ### the call -/
def ioSlots : List Opd → List Nat
  | [] => []
  | .ex _ :: os => ioSlots os
  | .sl i :: os => i :: ioSlots os
def ioPos : List Opd → Nat → List Nat
  | [], _ => []
  | .ex _ :: os, n => ioPos os (n + 1)
  | .sl _ :: os, n => n :: ioPos os (n + 1)
def isMut (s : S) (i : Nat) : Bool := match s[i]? with
  | some (some (o, _)) => decide (o ≠ .sh)
  | _ => false
def wb (s : S) : List Nat → List D → Option S
  | [], [] => some s
  | i :: is, d :: ds => (match s[i]? with
    | some (some (o, _)) => wb (s.set i (some (o, d))) is ds
    | _ => none)
  | _, _ => none
def callM (F : FS) (os : List Opd) : M (Bool × D) := opsM os fun ds s => if decide (ioSlots os).Nodup && (ioSlots os).all (isMut s) then (match F ds with
  | .ret fr d outs => (match wb s (ioSlots os) outs with
    | some s' => .ok (fr, d) s'
    | none => .stuck)
  | .exc x outs => (match wb s (ioSlots os) outs with
    | some s' => .exc x s'
    | none => .stuck)
  | .stuck => .stuck) else .stuck
theorem ioPos_get : ∀ {os : List Opd} {c n j : Nat}, (ioPos os c)[n]? = some j → ∃ i k, j = c + k ∧ os[k]? = some (.sl i) ∧ (ioSlots os)[n]? = some i
  | [], c, n, j, h => by simp [ioPos] at h
  | .ex f :: os, c, n, j, h => by
    obtain ⟨i, k, e1, e2, e3⟩ := ioPos_get (os := os) (c := c + 1) h
    exact ⟨i, k + 1, by omega, by simpa using e2, e3⟩
  | .sl i :: os, c, 0, j, h => by
    simp [ioPos] at h
    exact ⟨i, 0, by omega, rfl, rfl⟩
  | .sl i :: os, c, n + 1, j, h => by
    obtain ⟨i', k, e1, e2, e3⟩ := ioPos_get (os := os) (c := c + 1) (n := n) (j := j) (by simpa [ioPos] using h)
    exact ⟨i', k + 1, by omega, by simpa using e2, by simpa [ioSlots] using e3⟩
theorem ioPos_len : ∀ {os : List Opd} {c : Nat}, (ioPos os c).length = (ioSlots os).length
  | [], _ => rfl
  | .ex f :: os, c => ioPos_len (os := os)
  | .sl i :: os, c => by simp [ioPos, ioSlots, ioPos_len (os := os)]
theorem ioPos_of : ∀ {os : List Opd} {c k i : Nat}, os[k]? = some (.sl i) → ∃ n : Nat, (ioPos os c)[n]? = some (c + k) ∧ (ioSlots os)[n]? = some i
  | [], c, k, i, h => by simp at h
  | .ex f :: os, c, 0, i, h => by simp at h
  | .ex f :: os, c, k + 1, i, h => by
    obtain ⟨n, e1, e2⟩ := ioPos_of (os := os) (c := c + 1) (k := k) (by simpa using h)
    exact ⟨n, by rw [ioPos, e1]; congr 1; omega, e2⟩
  | .sl j :: os, c, 0, i, h => by
    simp at h; subst h
    exact ⟨0, rfl, rfl⟩
  | .sl j :: os, c, k + 1, i, h => by
    obtain ⟨n, e1, e2⟩ := ioPos_of (os := os) (c := c + 1) (k := k) (by simpa using h)
    exact ⟨n + 1, by simp [ioPos, e1]; omega, by simpa [ioSlots] using e2⟩
theorem ioPos_nd : ∀ {os : List Opd} {c : Nat}, (ioPos os c).Nodup ∧ ∀ j, j ∈ ioPos os c → c ≤ j
  | [], _ => ⟨List.nodup_nil, fun _ h => by cases h⟩
  | .ex f :: os, c => ⟨(ioPos_nd (os := os)).1, fun j h => Nat.le_of_succ_le ((ioPos_nd (os := os)).2 j h)⟩
  | .sl i :: os, c => by
    obtain ⟨h1, h2⟩ := ioPos_nd (os := os) (c := c + 1)
    refine ⟨List.nodup_cons.mpr ⟨fun m => ?_, h1⟩, fun j h => ?_⟩
    · have := h2 c m; omega
    · rcases List.mem_cons.mp h with rfl | h
      · exact Nat.le_refl _
      · exact Nat.le_of_succ_le (h2 j h)
theorem wb_get : ∀ {is : List Nat} {ds : List D} {s s' : S}, wb s is ds = some s' → is.Nodup → s'.length = s.length ∧ ds.length = is.length ∧
    (∀ (n i : Nat), is[n]? = some i → ∃ o d d', s[i]? = some (some (o, d)) ∧ ds[n]? = some d' ∧ s'[i]? = some (some (o, d'))) ∧ ∀ j, j ∉ is → s'[j]? = s[j]?
  | [], [], s, s', h, _ => by
    cases h
    exact ⟨rfl, rfl, fun n i e => by simp at e, fun _ _ => rfl⟩
  | [], _ :: _, _, _, h, _ => by simp [wb] at h
  | _ :: _, [], _, _, h, _ => by simp [wb] at h
  | i :: is, d :: ds, s, s', h, nd => by
    rw [wb] at h
    split at h
    · rename_i o d0 e
      obtain ⟨n1, n2⟩ := List.nodup_cons.mp nd
      obtain ⟨h1, h2, h3, h4⟩ := wb_get h n2
      refine ⟨by rw [h1]; simp, by simp [h2], fun n j q => ?_, fun j hj => ?_⟩
      · cases n with
        | zero =>
          simp at q; subst q
          exact ⟨o, d0, d, e, rfl, by rw [h4 i n1]; exact get_set_eq e⟩
        | succ n =>
          obtain ⟨o', d1, d2, g1, g2, g3⟩ := h3 n j (by simpa using q)
          have hne : j ≠ i := fun z => n1 (by subst z; exact List.mem_of_getElem? (by simpa using q))
          exact ⟨o', d1, d2, by rw [get_set_ne hne] at g1; exact g1, by simpa using g2, g3⟩
      · have h5 : j ≠ i := fun z => hj (by subst z; exact List.mem_cons_self)
        rw [h4 j fun m => hj (List.mem_cons_of_mem _ m), get_set_ne h5]
    · cases h
/-- the arguments' footprints -/
def argF (Fs : Nat → List Addr) : List Opd → List (List Addr) → Nat → List Addr
  | .ex _ :: _, G :: _, 0 => G
  | .sl i :: _, _ :: _, 0 => Fs i
  | _ :: os, _ :: Gs, j + 1 => argF Fs os Gs j
  | _, _, _ => []
section
variable {K : PySem.W.Frag} {P B : Addr → Prop} {ia : Nat → Addr} {s s' : S} {σ : St} {H H' : Hp} {Fs : Nat → List Addr}
theorem OVs.arg (r : SR K P B ia s σ H Fs) : ∀ {os : List Opd} {ds : List D} {vs : List V} {Gs : List (List Addr)}, OVs K B s σ H os ds vs Gs →
    (∀ (i : Nat) (d : D), ds[i]? = some d → ∃ v, vs[i]? = some v ∧ Rep K H d v (argF Fs os Gs i)) ∧ (∀ i, os.length ≤ i → argF Fs os Gs i = []) ∧
    (∀ (j i : Nat), os[j]? = some (.sl i) → argF Fs os Gs j = Fs i ∧ ∃ (w : Own) (d : D) (v : V), s[i]? = some (some (w, d)) ∧ ds[j]? = some d ∧ vs[j]? = some v ∧ σ[i]? = some (some v)) ∧
    (∀ (j : Nat), (∀ i, os[j]? ≠ some (.sl i)) → NoOwn s σ (argF Fs os Gs j)) ∧ (∀ (j : Nat) (a : Addr), a ∈ argF Fs os Gs j → B a)
  | _, _, _, _, .nil => ⟨fun i d e => by simp at e, fun i _ => by simp [argF], fun j i e => by simp at e, fun j _ => by simp [argF]; exact .nil, fun j a m => by simp [argF] at m⟩
  | o :: os, d :: ds, v :: vs, F :: Gs, .cons h1 h2 h3 h4 => by
    obtain ⟨g1, g2, g3, g4, g5⟩ := OVs.arg r h4
    refine ⟨fun i d' e => ?_, fun i hi => ?_, fun j i e => ?_, fun j e => ?_, fun j a m => ?_⟩
    · cases i with
      | zero =>
        simp at e; subst e
        refine ⟨v, rfl, ?_⟩
        cases o with
        | ex f => exact h1.rep
        | sl i =>
          obtain ⟨w, e1, e2⟩ := h3 i rfl
          obtain ⟨v', k1, k2⟩ := r.rep i w d e1
          rw [e2] at k1; cases k1
          exact k2
      | succ i =>
        obtain ⟨v', k1, k2⟩ := g1 i d' (by simpa using e)
        exact ⟨v', by simpa using k1, by cases o <;> exact k2⟩
    · cases i with
      | zero => simp at hi
      | succ i =>
        have := g2 i (by simpa using hi)
        cases o <;> exact this
    · cases j with
      | zero =>
        simp at e; subst e
        obtain ⟨w, e1, e2⟩ := h3 i rfl
        exact ⟨rfl, w, d, v, e1, rfl, rfl, e2⟩
      | succ j =>
        obtain ⟨k1, k2⟩ := g3 j i (by simpa using e)
        exact ⟨by cases o <;> exact k1, by simpa using k2⟩
    · cases j with
      | zero =>
        cases o with
        | ex f => exact h2 rfl
        | sl i => exact absurd rfl (e i)
      | succ j =>
        have := g4 j fun i z => e i (by simpa using z)
        cases o <;> exact this
    · cases j with
      | zero =>
        cases o with
        | ex f => exact h1.inB a m
        | sl i => exact r.inB i a m
      | succ j => exact g5 j a (by cases o <;> exact m)
theorem isMut_inv {i : Nat} (h : isMut s i = true) : ∃ o d, s[i]? = some (some (o, d)) ∧ o ≠ Own.sh := by
  unfold isMut at h
  split at h
  · rename_i o d e; exact ⟨o, d, e, of_decide_eq_true h⟩
  · cases h
open Classical in
/-- behind the call -/
theorem SR.call {os : List Opd} {ds : List D} {vs : List V} {Gs : List (List Addr)} {outs : List D} {Go : Nat → List Addr} (r : SR K P B ia s σ H Fs) (ov : OVs K B s σ H os ds vs Gs) (nd : (ioSlots os).Nodup) (mu : ∀ i, i ∈ ioSlots os → isMut s i = true)
    (fv : FV0 K (ioPos os 0) vs (argF Fs os Gs) H H' outs Go) (w : wb s (ioSlots os) outs = some s') :
    ∃ Fs', SR K P B ia s' σ H' Fs' ∧ Fr P H H' ∧ (∀ j, j ∉ ioSlots os → Fs' j = Fs j) ∧ ∀ n i, (ioSlots os)[n]? = some i → Fs' i = Go n := by
  obtain ⟨w1, w2, w3, w4⟩ := wb_get w nd
  obtain ⟨a1, a2, a3, a4, a5⟩ := ov.arg r
  have uq : ∀ {n m i : Nat}, (ioSlots os)[n]? = some i → (ioSlots os)[m]? = some i → n = m := fun {n m i} h h' => nd_ix nd h h'
  -- what an io slot holds
  have io : ∀ {n i : Nat}, (ioSlots os)[n]? = some i → ∃ j a d o, (ioPos os 0)[n]? = some j ∧ vs[j]? = some (.ref a) ∧ σ[i]? = some (some (.ref a)) ∧ s[i]? = some (some (o, d)) ∧ o ≠ Own.sh ∧ os[j]? = some (.sl i) := by
    intro n i h
    have hl : n < (ioPos os 0).length := by rw [ioPos_len]; exact (List.getElem?_eq_some_iff.mp h).1
    have e0 : (ioPos os 0)[n]? = some (ioPos os 0)[n] := List.getElem?_eq_getElem hl
    obtain ⟨i', k, e1, e2, e3⟩ := ioPos_get e0
    rw [h] at e3; cases e3
    rw [Nat.zero_add] at e1
    obtain ⟨_, w', d, v, b1, b2, b3, b4⟩ := a3 k i e2
    obtain ⟨o, d', c1, c2⟩ := isMut_inv (mu i (List.mem_of_getElem? h))
    obtain ⟨a, F, q1, _⟩ := r.own i o d' c1 c2
    rw [b4] at q1; cases q1
    exact ⟨k, a, d', o, by rw [e0, e1], b3, b4, c1, c2, e2⟩
  -- the io objects' addresses
  have isTop : ∀ {b : Addr}, (∀ (n i : Nat), (ioSlots os)[n]? = some i → σ[i]? ≠ some (some (V.ref b))) → ∀ (j : Nat), j ∈ ioPos os 0 → vs[j]? ≠ some (.ref b) := by
    intro b hb j hj e
    obtain ⟨n, hn⟩ := List.getElem?_of_mem hj
    have hl : n < (ioSlots os).length := by rw [← ioPos_len (c := 0)]; exact (List.getElem?_eq_some_iff.mp hn).1
    have e1 : (ioSlots os)[n]? = some (ioSlots os)[n] := List.getElem?_eq_getElem hl
    obtain ⟨j', a, d, o, q1, q2, q3, q4, q5, _⟩ := io e1
    rw [hn] at q1; cases q1
    rw [e] at q2; cases q2
    exact hb n _ e1 q3
  have keepF : ∀ j, j ∉ ioSlots os → ∀ b, b ∈ Fs j → H' b = H b := by
    intro j hj b m
    refine fv.keep b (r.trF m) (isTop fun n i h e => ?_)
    obtain ⟨j', a, d, o, q1, q2, q3, q4, q5, _⟩ := io h
    rw [e] at q3; cases q3
    obtain ⟨a', F, g1, g2, g3, g4, g5, g6⟩ := r.own i o d q4 q5
    rw [e] at g1; cases g1
    exact g6 j (fun z => hj (by rw [z]; exact List.mem_of_getElem? h)) m
  have fr : Fr P H H' := by
    refine ⟨fun b hb => fv.keep b (r.tr b hb) (isTop fun n i h e => ?_), fun b o hb hi => ?_⟩
    · obtain ⟨j', a, d, o, q1, q2, q3, q4, q5, _⟩ := io h
      rw [e] at q3; cases q3
      exact r.noOwn (F := [b]) (fun a m => by rw [List.mem_singleton.mp m]; exact hb) i o d b q4 q5 e List.mem_cons_self
    · rw [fv.keep b (by rw [hb]; simp) (isTop fun n i h e => ?_)]
      · exact hb
      · obtain ⟨j', a, d, o', q1, q2, q3, q4, q5, _⟩ := io h
        obtain ⟨a', F, g1, g2, g3, _⟩ := r.own i o' d q4 q5
        rw [e] at g1; cases g1
        obtain ⟨ob, m1, m2⟩ := g3.mut
        rw [hb] at m1; cases m1
        exact m2 hi
  let Fs' : Nat → List Addr := fun i => if h : ∃ n : Nat, (ioSlots os)[n]? = some i then Go h.choose else Fs i
  have F1 : ∀ {n i : Nat}, (ioSlots os)[n]? = some i → Fs' i = Go n := by
    intro n i h
    have hx : ∃ n : Nat, (ioSlots os)[n]? = some i := ⟨n, h⟩
    show (if h : ∃ n : Nat, (ioSlots os)[n]? = some i then Go h.choose else Fs i) = Go n
    rw [dif_pos hx, uq hx.choose_spec h]
  have F2 : ∀ {j : Nat}, j ∉ ioSlots os → Fs' j = Fs j := by
    intro j h
    show (if h : ∃ n : Nat, (ioSlots os)[n]? = some j then Go h.choose else Fs j) = Fs j
    rw [dif_neg fun ⟨n, q⟩ => h (List.mem_of_getElem? q)]
  -- an io slot behind the call
  have ioN : ∀ {n i : Nat}, (ioSlots os)[n]? = some i → ∃ o d d' a T, s[i]? = some (some (o, d)) ∧ o ≠ Own.sh ∧ s'[i]? = some (some (o, d')) ∧ σ[i]? = some (some (.ref a)) ∧ Go n = a :: T ∧ RepM K H' d' a T ∧ a ∉ T ∧
      (∀ b, b ∈ T → (∃ i, b ∈ argF Fs os Gs i) ∨ H b = none) ∧ ∀ m, m ≠ n → m < (ioSlots os).length → a ∉ Go m := by
    intro n i h
    obtain ⟨j, a, d, o, q1, q2, q3, q4, q5, _⟩ := io h
    obtain ⟨o', d1, d2, g1, g2, g3⟩ := w3 n i h
    rw [q4] at g1; cases g1
    obtain ⟨a', d', T, k1, k2, k3, k4, k5, k6, k7⟩ := fv.out n j q1
    rw [q2] at k1; cases k1
    rw [g2] at k2; cases k2
    exact ⟨o, d, d2, a, T, q4, q5, g3, q3, k3, k4, k5, k6, fun m h1 h2 => k7 m h1 (by rw [ioPos_len]; exact h2)⟩
  -- a slot of one's own that isn't io has its object in nothing that came
  have sep : ∀ {j : Nat} {o : Own} {d : D} {a : Addr}, j ∉ ioSlots os → s[j]? = some (some (o, d)) → o ≠ Own.sh → σ[j]? = some (some (.ref a)) → ∀ b, ((∃ i, b ∈ argF Fs os Gs i) ∨ H b = none) → a ≠ b := by
    intro j o d a hj e n ha b hb eq
    subst eq
    rcases hb with ⟨k, hk⟩ | hb
    · by_cases hs : ∃ i, os[k]? = some (.sl i)
      · obtain ⟨i, hs⟩ := hs
        rw [(a3 k i hs).1] at hk
        obtain ⟨a', F, g1, g2, g3, g4, g5, g6⟩ := r.own j o d e n
        rw [ha] at g1; cases g1
        obtain ⟨nn, _, hn⟩ := ioPos_of (c := 0) hs
        exact g6 i (fun z => hj (by rw [← z]; exact List.mem_of_getElem? hn)) hk
      · exact a4 k (fun i z => hs ⟨i, z⟩) j o d a e n ha hk
    · exact r.ownTr e n ha hb
  have nbk : ∀ b, H' b = none → H b = none := by
    intro b hb
    refine Classical.byContradiction fun hn => ?_
    by_cases ht : ∃ (n i : Nat), (ioSlots os)[n]? = some i ∧ σ[i]? = some (some (V.ref b))
    · obtain ⟨n, i, h1, h2⟩ := ht
      obtain ⟨o, d, d', a, T, q1, q2, q3, q4, q5, q6, _⟩ := ioN h1
      rw [h2] at q4; cases q4
      obtain ⟨ob, m1, _⟩ := q6.mut
      rw [hb] at m1; cases m1
    · rw [fv.keep b hn (isTop fun n i h e => ht ⟨n, i, h, e⟩)] at hb
      exact hn hb
  refine ⟨Fs', ⟨by rw [w1]; exact r.len, fun j o d e => ?_, fun j o d e n => ?_, fun j d e => ?_, fun j q => ?_, fun j a m => ?_, fun b q => by rw [fr.p b q]; exact r.tr b q, fun b q => r.nb b (nbk b q)⟩, fr, fun j h => F2 h, fun n i h => F1 h⟩
  · by_cases hj : j ∈ ioSlots os
    · obtain ⟨n, hn⟩ := List.getElem?_of_mem hj
      obtain ⟨o', d1, d', a, T, q1, q2, q3, q4, q5, q6, _⟩ := ioN hn
      rw [e] at q3; cases q3
      exact ⟨.ref a, q4, by rw [F1 hn, q5]; exact q6.rep⟩
    · rw [w4 j hj] at e
      obtain ⟨v, g1, g2⟩ := r.rep j o d e
      exact ⟨v, g1, by rw [F2 hj]; exact g2.keep fr.i fun b m => keepF j hj b m⟩
  · by_cases hj : j ∈ ioSlots os
    · obtain ⟨m, hm⟩ := List.getElem?_of_mem hj
      obtain ⟨o', d1, d', a, T, q1, q2, q3, q4, q5, q6, q7, q8, q9⟩ := ioN hm
      rw [e] at q3; cases q3
      obtain ⟨a', F, g1, g2, g3, g4, g5, g6⟩ := r.own j _ d1 q1 q2
      rw [q4] at g1; cases g1
      refine ⟨a, T, q4, by rw [F1 hm]; exact q5, q6, q7, g5, fun k hk => ?_⟩
      by_cases hk2 : k ∈ ioSlots os
      · obtain ⟨m2, hm2⟩ := List.getElem?_of_mem hk2
        rw [F1 hm2]
        exact q9 m2 (fun z => hk (by rw [z, hm] at hm2; exact (Option.some.inj hm2).symm)) (List.getElem?_eq_some_iff.mp hm2).1
      · rw [F2 hk2]; exact g6 k hk
    · rw [w4 j hj] at e
      obtain ⟨a, F, g1, g2, g3, g4, g5, g6⟩ := r.own j o d e n
      refine ⟨a, F, g1, by rw [F2 hj]; exact g2, g3.keep fr.i fun b m => keepF j hj b (by rw [g2]; exact m), g4, g5, fun k hk => ?_⟩
      by_cases hk2 : k ∈ ioSlots os
      · obtain ⟨m2, hm2⟩ := List.getElem?_of_mem hk2
        obtain ⟨o', d1, d', a', T, q1, q2, q3, q4, q5, q6, q7, q8, q9⟩ := ioN hm2
        rw [F1 hm2, q5]
        intro m
        rcases List.mem_cons.mp m with rfl | m
        · obtain ⟨b, F', k1, k2, _⟩ := r.own k o' d1 q1 q2
          rw [q4] at k1; cases k1
          exact g6 k hk (by rw [k2]; exact List.mem_cons_self)
        · exact sep hj e n g1 a (q8 a m) rfl
      · rw [F2 hk2]; exact g6 k hk
  · by_cases hj : j ∈ ioSlots os
    · obtain ⟨m, hm⟩ := List.getElem?_of_mem hj
      obtain ⟨o', d1, d', a, T, q1, q2, q3, q4, _⟩ := ioN hm
      rw [e] at q3; cases q3
      exact r.iov j d1 q1
    · rw [w4 j hj] at e; exact r.iov j d e
  · have hj : j ∉ ioSlots os := fun hj => by
      obtain ⟨m, hm⟩ := List.getElem?_of_mem hj
      obtain ⟨o', d1, d', a, T, q1, q2, q3, _⟩ := ioN hm
      exact q _ _ q3
    rw [F2 hj]
    exact r.dead j fun o d z => q o d (by rw [w4 j hj]; exact z)
  · by_cases hj : j ∈ ioSlots os
    · obtain ⟨n, hn⟩ := List.getElem?_of_mem hj
      obtain ⟨o', d1, d', a', T, q1, q2, q3, q4, q5, q6, q7, q8, q9⟩ := ioN hn
      rw [F1 hn, q5] at m
      rcases List.mem_cons.mp m with rfl | m
      · obtain ⟨b, F', k1, k2, _⟩ := r.own j o' d1 q1 q2
        rw [q4] at k1; cases k1
        exact r.inB j a (by rw [k2]; exact List.mem_cons_self)
      · rcases q8 a m with ⟨i, mi⟩ | hn
        · exact a5 i a mi
        · exact r.nb a hn
    · rw [F2 hj] at m; exact r.inB j a m
end
end PV

/-! PV: calls of defs and of built-ins, what changes a list or a dict. -/
namespace PV
open PySem PySem.Spec L2

section
variable {X : Cx} {E : WX} {f : Addr} {fd : FuncData} {ps : List Str} {x : Str} {p pos : Pos} {e : Expr} {es : List Expr} {F : FS} {os : List Opd} {k : Nat}
theorem tD_call {K : PySem.W.Frag} {n : Nat} (hn : os.length = n) (σ : St) (H : Hp) (Q : VK) (h : tD K E (callM F os) σ H Q) : tCallS (spF K (ioPos os 0) n F) (WE E) (rdOs K E os) σ H Q := by
  obtain ⟨P, B, ia, s, Fs, r, w⟩ := h
  refine rdOps r w (fun _ _ q => q) fun ds s1 vs H1 Gs Fs1 q ov fr r1 => ?_
  cases hc : decide (ioSlots os).Nodup && (ioSlots os).all (isMut s1) with
  | false => rw [hc] at q; exact q.elim
  | true =>
    rw [hc] at q
    obtain ⟨hnd, hmu⟩ := Bool.and_eq_true_iff.mp hc
    have nd := of_decide_eq_true hnd
    have mu : ∀ i, i ∈ ioSlots os → isMut s1 i = true := List.all_eq_true.mp hmu
    obtain ⟨a1, a2, a3, a4, a5⟩ := ov.arg r1
    obtain ⟨l1, l2⟩ := ov.length
    rw [if_pos rfl] at q
    refine ⟨by rw [← l1, l2, hn], ds, argF Fs1 os Gs, by rw [l2, hn], a1, fun i hi => a2 i (by rw [hn]; exact hi), fun j hj => ?_, ?_⟩
    · obtain ⟨m, hm⟩ := List.getElem?_of_mem hj
      obtain ⟨i, kk, e1, e2, e3⟩ := ioPos_get hm
      rw [Nat.zero_add] at e1; subst e1
      obtain ⟨b1, w', d, v, b2, b3, b4, b5⟩ := a3 _ i e2
      obtain ⟨o, d', c1, c2⟩ := isMut_inv (mu i (List.mem_of_getElem? e3))
      rw [b2] at c1; cases c1
      obtain ⟨a, T, g1, g2, g3, g4, g5, g6⟩ := r1.own i _ d b2 c2
      rw [b5] at g1; cases g1
      refine ⟨a, T, d, b3, b4, by rw [b1, g2], g3, g4, fun m' hm' => ?_⟩
      by_cases hs : ∃ i', os[m']? = some (.sl i')
      · obtain ⟨i', hs⟩ := hs
        rw [(a3 m' i' hs).1]
        refine g6 i' fun z => hm' ?_
        subst z
        obtain ⟨n1, f1, f2⟩ := ioPos_of (c := 0) hs
        obtain ⟨n2, f3, f4⟩ := ioPos_of (c := 0) e2
        have : n1 = n2 := nd_ix nd f2 f4
        subst this
        rw [f1] at f3
        have := Option.some.inj f3
        omega
      · exact a4 m' (fun i z => hs ⟨i, z⟩) i _ d a b2 c2 b5
    · cases hF : F ds with
      | stuck => rw [hF] at q; exact q
      | exc y outs =>
        rw [hF] at q
        dsimp only at q
        split at q
        · rename_i s2 ew
          intro cls dx H2 Go fv xr
          obtain ⟨Fs2, r2, fr2, _⟩ := SR.call r1 ov nd mu fv ew
          exact q cls dx H2 ⟨Fs2, fr.trans fr2, r2, xr⟩
        · exact q.elim
      | ret f d outs =>
        rw [hF] at q
        dsimp only at q
        split at q
        · rename_i s2 ew
          intro v H2 G Go fv
          obtain ⟨Fs2, r2, fr2, F2, F1⟩ := SR.call r1 ov nd mu fv.toFV0 ew
          obtain ⟨w1, w2, w3, w4⟩ := wb_get ew nd
          have gB : ∀ a, a ∈ G → B a := fun a m => (fv.gin a m).elim (fun ⟨i, h⟩ => a5 i a h) fun h => r1.nb a h
          have no : NoOwn s2 σ G := by
            intro j o d' a ej n ea m
            by_cases hj : j ∈ ioSlots os
            · obtain ⟨m', hm'⟩ := List.getElem?_of_mem hj
              have hl : m' < (ioPos os 0).length := by rw [ioPos_len]; exact (List.getElem?_eq_some_iff.mp hm').1
              have e0 : (ioPos os 0)[m']? = some (ioPos os 0)[m'] := List.getElem?_eq_getElem hl
              obtain ⟨i', kk, e1, e2, e3⟩ := ioPos_get e0
              rw [hm'] at e3; cases e3
              rw [Nat.zero_add] at e1
              obtain ⟨_, w', d2, v2, b2, b3, b4, b5⟩ := a3 kk j e2
              rw [ea] at b5; cases b5
              exact fv.gio m' kk a (by rw [e0, e1]) b4 m
            · rw [w4 j hj] at ej
              rcases fv.gin a m with ⟨i, hi⟩ | hn
              · by_cases hs : ∃ i', os[i]? = some (.sl i')
                · obtain ⟨i', hs⟩ := hs
                  rw [(a3 i i' hs).1] at hi
                  obtain ⟨a', T, g1, g2, g3, g4, g5, g6⟩ := r1.own j o d' ej n
                  rw [ea] at g1; cases g1
                  obtain ⟨n1, f1, f2⟩ := ioPos_of (c := 0) hs
                  exact g6 i' (fun z => hj (by rw [← z]; exact List.mem_of_getElem? f2)) hi
                · exact a4 i (fun i' z => hs ⟨i', z⟩) j o d' a ej n ea hi
              · exact r1.ownTr ej n ea hn
          refine q v H2 ⟨G, Fs2, fv.rep, fr.trans fr2, gB, r2.prot fv.rep.tr no, fun hf => ?_⟩
          obtain ⟨a, T, k1, k2, k3, k4, k5, k6⟩ := fv.own hf
          refine ⟨a, T, k1, k2, k3, k4, fun q => r1.tr a q k5, fun j m => ?_⟩
          by_cases hj : j ∈ ioSlots os
          · obtain ⟨m', hm'⟩ := List.getElem?_of_mem hj
            rw [F1 m' j hm'] at m
            exact k6 m' (by rw [ioPos_len]; exact (List.getElem?_eq_some_iff.mp hm').1) m
          · rw [F2 j hj] at m
            exact r1.trF m k5
        · exact q.elim
/-- f(..) of a def -/
theorem de_call {ios : List Nat} (G : FnOk X.prog X.w X.K X.mg X.base (L2.CX X.prog X.w) k f fd ps (spF X.K ios ps.length F)) (hr : Room k X.A) (hg : Gl X x) (hm : X.mg x = some (.ref f)) (hk : PySem.W.keepIn X.K (.ref f) = true) (hb : Binds X.K fd ps []) (tk : Takes X E)
    (ha : PAd X E (e :: es) os) (hio : ioPos os 0 = ios := by rfl) (hn : os.length = ps.length := by rfl) (hdb : (x == ("__debug__" : Str)) = false := by decide) (he : starEach (e :: es) X.env = (false, eval e X.env) :: starEach es X.env := by rfl) (hpl : (backTo pos (starEach es X.env)).any (·.1) = false := by rfl) :
    PE X (.Call (.Name x p) (e :: es) [] pos) (tD X.K E (callM F os)) := by
  subst hio
  exact (pe_callS G hr hg hm hk hb (passAt tk) ha hdb he hpl).imp (tD_call hn)
end

/-! ### built-ins of one value -/
def OpD1 (K : PySem.W.Frag) (g : D → Option (Bool × D)) (r : V → Hp → VK → Prop) : Prop :=
  ∀ {P B : Addr → Prop} {ia : Nat → Addr} {s : S} {σ : St} {H H0 : Hp} {Fs : Nat → List Addr} {dx : D} {q : Bool × D} {x : V} {F : List Addr} {Q : VK}, SR K P B ia s σ H Fs → OV K B s σ H dx x F → Fr P H0 H → g dx = some q →
    (∀ v H', RV K P B ia s σ H0 H' q.1 q.2 v → Q v H') → r x H Q
def unM (g : D → Option (Bool × D)) (a : Opd) : M (Bool × D) := op1 a fun x s => match g x with
  | some r => .ok r s
  | none => .stuck
theorem tD_un {K : PySem.W.Frag} {E : WX} {g : D → Option (Bool × D)} {r : V → Hp → VK → Prop} (hd : OpD1 K g r) {a : Opd} (σ : St) (H : Hp) (Q : VK) (h : tD K E (unM g a) σ H Q) : rdO K E a σ H fun x H1 => r x H1 Q := by
  obtain ⟨P, B, ia, s, Fs, R, h⟩ := h
  refine rd1 R ((op1_post h).mono (fun _ _ q => q) fun d s' w x H' F Fs' ov fr R' => ?_)
  cases e : g d with
  | none => rw [e] at w; exact (show False from w).elim
  | some z =>
    rw [e] at w
    exact hd R' ov fr e w
section
variable {X : Cx} {E : WX} {x : Str} {p pos : Pos} {e e2 : Expr} {o o2 : Opd}
theorem CallR.or {f : Value} {r r' : List V → Hp → VK → Prop} (h : CallR X f r) (h' : CallR X f r') : CallR X f (fun xs H Q => r xs H Q ∨ r' xs H Q) := fun pins s σ H xs us Q I rs q => q.elim (h pins s σ H xs us Q I rs) (h' pins s σ H xs us Q I rs)
theorem de_b1 {id : String} {r : List V → Hp → VK → Prop} {g : D → Option (Bool × D)} (hc : CallR X (.builtin id) r) (hd : OpD1 X.K g fun x H Q => r [x] H Q) (hg : Gl X x) (hm : X.mg x = none) (hv : bootBuiltins x = some (.builtin id)) (ha : PE X e (rdO X.K E o)) (hn : x ≠ "__name__" := by decide)
    (hs : starEach [e] X.env = [(false, eval e X.env)] := by rfl) (hdb : (x == ("__debug__" : Str)) = false := by decide) (hpl : (backTo pos (starEach [] X.env)).any (·.1) = false := by rfl) : PE X (.Call (.Name x p) [e] [] pos) (tD X.K E (unM g o)) :=
  (pe_callB hc hg hm hv (pa_cons ha pa_nil hs) hn hdb hs hpl).imp (tD_un hd)
theorem de_t1 {T : String} {r : List V → Hp → VK → Prop} {g : D → Option (Bool × D)} (hc : CallR X (.type T) r) (hd : OpD1 X.K g fun x H Q => r [x] H Q) (hg : Gl X x) (hm : X.mg x = none) (hv : bootBuiltins x = some (.type T)) (ha : PE X e (rdO X.K E o)) (hn : x ≠ "__name__" := by decide)
    (hs : starEach [e] X.env = [(false, eval e X.env)] := by rfl) (hdb : (x == ("__debug__" : Str)) = false := by decide) (hpl : (backTo pos (starEach [] X.env)).any (·.1) = false := by rfl) : PE X (.Call (.Name x p) [e] [] pos) (tD X.K E (unM g o)) :=
  (pe_callTy hc hg hm hv (pa_cons ha pa_nil hs) hn hdb hs hpl).imp (tD_un hd)
theorem de_b2 {id : String} {r : List V → Hp → VK → Prop} {g : D → D → Option (Bool × D)} (hc : CallR X (.builtin id) r) (hd : OpD X.K g fun x y H Q => r [x, y] H Q) (hg : Gl X x) (hm : X.mg x = none) (hv : bootBuiltins x = some (.builtin id)) (ha : PE X e (rdO X.K E o)) (hb : PE X e2 (rdO X.K E o2))
    (hn : x ≠ "__name__" := by decide) (hs : starEach [e, e2] X.env = [(false, eval e X.env), (false, eval e2 X.env)] := by rfl) (hs2 : starEach [e2] X.env = [(false, eval e2 X.env)] := by rfl) (hdb : (x == ("__debug__" : Str)) = false := by decide) (hpl : (backTo pos (starEach [e2] X.env)).any (·.1) = false := by rfl) :
    PE X (.Call (.Name x p) [e, e2] [] pos) (tD X.K E (binM g o o2)) :=
  (pe_callB hc hg hm hv (pa_cons ha (pa_cons hb pa_nil hs2) (by rw [hs, hs2])) hn hdb (by rw [hs, hs2]) hpl).imp (tD_op hd)
end
section
variable {K : PySem.W.Frag}
/-- len -/
def lenD : D → Option (Bool × D)
  | .str x => if x.length ≤ sizeLine then some (false, .int x.length) else none
  | .lst ds => some (false, .int ds.length)
  | .tup ds => some (false, .int ds.length)
  | .fro ds => some (false, .int ds.length)
  | .dct kds => some (false, .int kds.length)
  | _ => none
def rLenD (K : PySem.W.Frag) : List V → Hp → VK → Prop := fun xs H Q => (∃ x n, xs = [x] ∧ LenV K x H n ∧ Q (.int n) H) ∨ ∃ a kvs, xs = [V.ref a] ∧ H a = some (.dK kvs) ∧ Q (.int kvs.length) H
theorem or_len {X : Cx} : CallR X (.builtin "len") (rLenD X.K) := CallR.or call_len call_lenD
theorem opd_len : OpD1 K lenD fun x H Q => rLenD K [x] H Q := by
  intro P B ia s σ H H0 Fs dx q x F Q R o fr e k
  unfold lenD at e
  split at e
  · split at e
    · rename_i hz
      cases e; exact .inl ⟨x, _, rfl, by rw [o.str_inv]; exact ⟨hz, rfl⟩, k _ _ (.flat .int fr R)⟩
    · cases e
  · cases e
    obtain ⟨a, vs, G, rfl, h1, h2, no, ib⟩ := o.lst_inv
    exact .inl ⟨_, _, rfl, .inl ⟨vs, SqL.of h1, h2.length⟩, k _ _ (.flat .int fr R)⟩
  · cases e
    obtain ⟨a, vs, rfl, h1, h2, no⟩ := o.tup_inv
    exact .inl ⟨_, _, rfl, .inr ⟨vs, h1, h2.length⟩, k _ _ (.flat .int fr R)⟩
  · cases e
    obtain ⟨a, vs, rfl, h1, h2, no⟩ := o.fro_inv
    exact .inl ⟨_, _, rfl, .inl ⟨vs, fz_sq h1, h2.length⟩, k _ _ (.flat .int fr R)⟩
  · cases e
    obtain ⟨a, vs, G, rfl, h1, h2, no, ib⟩ := o.dct_inv
    exact .inr ⟨_, _, rfl, h1, by rw [← h2.length]; exact k _ _ (.flat .int fr R)⟩
  · cases e
/-- int, abs, str -/
def toInt : D → Option (Bool × D)
  | .int i => some (false, .int i)
  | .bl b => some (false, .int (if b then 1 else 0))
  | _ => none
theorem opd_toInt : OpD1 K toInt fun x H Q => (∃ i, [x] = [V.int i] ∧ Q (.int i) H) ∨ ∃ k, [x] = [V.bl k] ∧ Q (.int (if k then 1 else 0)) H := by
  intro P B ia s σ H H0 Fs dx q x F Q R o fr e k
  unfold toInt at e
  split at e
  · cases e; exact .inl ⟨_, by rw [o.int_inv], k _ _ (.flat .int fr R)⟩
  · cases e; exact .inr ⟨_, by rw [o.bl_inv], k _ _ (.flat .int fr R)⟩
  · cases e
def absD : D → Option (Bool × D)
  | .int i => some (false, .int (if i < 0 then -i else i))
  | _ => none
theorem opd_abs : OpD1 K absD fun x H Q => ∃ i, [x] = [V.int i] ∧ Q (.int (if i < 0 then -i else i)) H := by
  intro P B ia s σ H H0 Fs dx q x F Q R o fr e k
  unfold absD at e
  split at e
  · cases e; exact ⟨_, by rw [o.int_inv], k _ _ (.flat .int fr R)⟩
  · cases e
def toStr : D → Option (Bool × D)
  | .int i => if i.natAbs.log2 < 1920 then some (false, .str (toString i)) else none
  | .str x => some (false, .str x)
  | _ => none
def rStrD : List V → Hp → VK → Prop := fun xs H Q => (∃ i, xs = [V.int i] ∧ i.natAbs.log2 < 1920 ∧ Q (.str (toString i)) H) ∨ ∃ a, xs = [V.str a] ∧ Q (.str a) H
theorem or_str {X : Cx} : CallR X (.type "str") rStrD := CallR.or call_str_int SkE.call_str_str
theorem opd_toStr : OpD1 K toStr fun x H Q => rStrD [x] H Q := by
  intro P B ia s σ H H0 Fs dx q x F Q R o fr e k
  unfold toStr at e
  split at e
  · split at e
    · rename_i hz
      cases e; exact .inl ⟨_, by rw [o.int_inv], hz, k _ _ (.flat .str fr R)⟩
    · cases e
  · cases e; exact .inr ⟨_, by rw [o.str_inv], k _ _ (.flat .str fr R)⟩
  · cases e
/-- tuple(xs), list(xs) -/
def toTup : D → Option (Bool × D)
  | .lst ds => some (false, .tup ds)
  | .tup ds => some (false, .tup ds)
  | .fro ds => some (false, .tup ds)
  | _ => none
theorem opd_toTup : OpD1 K toTup fun x H Q => ∃ p ys, [x] = [V.ref p] ∧ ((SqL K H p ys ∧ ∀ l, H l = none → Q (.ref l) (upd H l (.tup ys))) ∨ (SqT K H p ys ∧ Q (.ref p) H)) := by
  intro P B ia s σ H H0 Fs dx q x F Q R o fr e k
  unfold toTup at e
  split at e
  · cases e
    obtain ⟨a, vs, G, rfl, h1, h2, no, ib⟩ := o.lst_inv
    exact ⟨a, vs, rfl, .inl ⟨SqL.of h1, fun l hl => k _ _ (.tup h2 no ib fr R hl)⟩⟩
  · cases e
    obtain ⟨a, vs, rfl, h1, h2, no⟩ := o.tup_inv
    exact ⟨a, vs, rfl, .inr ⟨h1, k _ _ (.part (.tup h1 h2) no o.inB fr R)⟩⟩
  · cases e
    obtain ⟨a, vs, rfl, h1, h2, no⟩ := o.fro_inv
    exact ⟨a, vs, rfl, .inl ⟨fz_sq h1, fun l hl => k _ _ (.tup h2 no o.inB fr R hl)⟩⟩
  · cases e
def toLst : D → Option (Bool × D)
  | .lst ds => some (true, .lst ds)
  | .tup ds => some (true, .lst ds)
  | .fro ds => some (true, .lst ds)
  | _ => none
theorem opd_toLst : OpD1 K toLst fun x H Q => ∃ p ys, [x] = [V.ref p] ∧ (SqL K H p ys ∨ SqT K H p ys) ∧ ∀ l, H l = none → Q (.ref l) (upd H l (.lst ys)) := by
  intro P B ia s σ H H0 Fs dx q x F Q R o fr e k
  unfold toLst at e
  split at e
  · cases e
    obtain ⟨a, vs, G, rfl, h1, h2, no, ib⟩ := o.lst_inv
    exact ⟨a, vs, rfl, .inl (SqL.of h1), fun l hl => k _ _ (.lst h2 no ib fr R hl)⟩
  · cases e
    obtain ⟨a, vs, rfl, h1, h2, no⟩ := o.tup_inv
    exact ⟨a, vs, rfl, .inr h1, fun l hl => k _ _ (.lst h2 no o.inB fr R hl)⟩
  · cases e
    obtain ⟨a, vs, rfl, h1, h2, no⟩ := o.fro_inv
    exact ⟨a, vs, rfl, .inl (fz_sq h1), fun l hl => k _ _ (.lst h2 no o.inB fr R hl)⟩
  · cases e
/-- all, any of a list of truth values -/
def bls : List D → Option (List Bool)
  | [] => some []
  | .bl b :: ds => (bls ds).map fun bs => b :: bs
  | _ => none
theorem Reps.bls {H : Hp} : ∀ {ds : List D} {vs : List V} {F : List Addr} {bs : List Bool}, Reps K H ds vs F → PV.bls ds = some bs → vs = bs.map V.bl
  | [], _, _, _, h, e => by cases h; cases e; rfl
  | d :: ds, _, _, _, h, e => by
    cases h with
    | cons h1 h2 =>
      cases h1 with
      | bl =>
        rw [PV.bls] at e
        obtain ⟨bs', e1, e2⟩ := Option.map_eq_some_iff.mp e
        subst e2
        rw [h2.bls e1]; rfl
      | _ => cases e
def allD : D → Option (Bool × D)
  | .lst ds => (bls ds).map fun bs => (false, .bl (bs.all id))
  | _ => none
def anyD : D → Option (Bool × D)
  | .lst ds => (bls ds).map fun bs => (false, .bl (bs.any id))
  | _ => none
theorem opd_all : OpD1 K allD fun x H Q => rAll K [x] H Q := by
  intro P B ia s σ H H0 Fs dx q x F Q R o fr e k
  unfold allD at e
  split at e
  · obtain ⟨bs, e1, e2⟩ := Option.map_eq_some_iff.mp e
    cases e2
    obtain ⟨a, vs, G, rfl, h1, h2, no, ib⟩ := o.lst_inv
    exact ⟨a, bs, rfl, by rw [← h2.bls e1]; exact SqL.of h1, k _ _ (.flat .bl fr R)⟩
  · cases e
theorem opd_any : OpD1 K anyD fun x H Q => rAny K [x] H Q := by
  intro P B ia s σ H H0 Fs dx q x F Q R o fr e k
  unfold anyD at e
  split at e
  · obtain ⟨bs, e1, e2⟩ := Option.map_eq_some_iff.mp e
    cases e2
    obtain ⟨a, vs, G, rfl, h1, h2, no, ib⟩ := o.lst_inv
    exact ⟨a, bs, rfl, by rw [← h2.bls e1]; exact SqL.of h1, k _ _ (.flat .bl fr R)⟩
  · cases e
/-- isinstance -/
def tyName : D → String
  | .non => "NoneType"
  | .bl _ => "bool"
  | .int _ => "int"
  | .str _ => "str"
  | .tup _ => "tuple"
  | .lst _ => "list"
  | .fro _ => "list"
  | .dct _ => "dict"
  | .ty _ => "type"
def isiD : D → D → Option (Bool × D)
  | .ty _, _ => none
  | d, .ty n => (kitB (tyName d) n).map fun b => (false, .bl b)
  | _, _ => none
theorem opd_isi : OpD K isiD fun x y H Q => rIsi K [x, y] H Q := by
  intro P B ia s σ H H0 Fs dx dy q x y F G Q R o1 o2 fr e k
  unfold isiD at e
  split at e
  · cases e
  · rename_i n hn
    obtain ⟨b, e1, e2⟩ := Option.map_eq_some_iff.mp e
    cases e2
    have ey : y = .ty n := by have := o2.rep; cases this; rfl
    subst ey
    refine ⟨x, .ty n, .type (tyName dx), .type n, b, rfl, .ty n, ?_, kit_ty e1, k _ _ (.flat .bl fr R)⟩
    cases dx with
    | non => rw [o1.non_inv]; exact .base .non
    | bl b => rw [o1.bl_inv]; exact .base (.bl _)
    | int b => rw [o1.int_inv]; exact .base (.int _)
    | str b => rw [o1.str_inv]; exact .base (.str _)
    | ty m => exact absurd rfl (hn m)
    | tup ds =>
      obtain ⟨a, vs, rfl, h1, h2, no⟩ := o1.tup_inv
      rcases h1 with (h1 | ⟨o, h1⟩) | ⟨o, its, n, h1, h3, _⟩
      · exact .base (.tup h1)
      · exact .fTuple h1
      · exact .kTuple h1 h3
    | lst ds =>
      obtain ⟨a, vs, _, rfl, h1, h2, no⟩ := o1.lst_inv
      exact .base (.lst h1)
    | fro ds =>
      obtain ⟨a, vs, rfl, h1, h2, no⟩ := o1.fro_inv
      rcases h1 with ⟨o, h1⟩ | ⟨o, its, n, h1, h3, _⟩
      · exact .base (.frz h1)
      · exact .kList h1 h3
    | dct ds =>
      obtain ⟨a, vs, _, rfl, h1, h2, no⟩ := o1.dct_inv
      exact .base (.dK h1)
  · cases e
/-- max, min of two ints -/
abbrev maxD := intD (fun _ _ => true) fun i j => if j > i then j else i
abbrev minD := intD (fun _ _ => true) fun i j => if j < i then j else i
theorem opd_two {f : Int → Int → Int} : OpD K (intD (fun _ _ => true) f) fun x y H Q => ∃ i j, [x, y] = [V.int i, V.int j] ∧ Q (.int (f i j)) H := by
  intro P B ia s σ H H0 Fs dx dy q x y F G Q R o1 o2 fr e k
  unfold intD at e
  split at e
  · cases e; exact ⟨_, _, by rw [o1.int_inv, o2.int_inv], k _ _ (.flat .int fr R)⟩
  · cases e
end
end PV

/-! PV: what changes a list or a dict; dicts; methods of texts. -/
namespace PV
open PySem PySem.Spec L2

/-! ### xs.append(e), xs.extend(e) -/
def appD (ds : List D) (y : D) : Option (List D) := if ds.length < sizeLine then some (ds ++ [y]) else none
def extD (ds : List D) (y : D) : Option (List D) := match y with
  | .lst zs => if ds.length + zs.length ≤ sizeLine then some (ds ++ zs) else none
  | _ => none
def isLst (s : S) (i : Nat) : Bool := match s[i]? with
  | some (some (_, .lst _)) => true
  | _ => false
def growM (g : List D → D → Option (List D)) (i : Nat) (f : M (Bool × D)) : M (Bool × D) := fun s => if isLst s i = true then (f s).bind fun y s1 => (match s1[i]? with
  | some (some (o, .lst ds)) => if o = .sh then .stuck else (match g ds y.2 with
    | some ds' => .ok (false, .non) (s1.set i (some (o, .lst ds')))
    | none => .stuck)
  | _ => .stuck) else .stuck
/-- the rule r grows a list as g says -/
def GrowR (K : PySem.W.Frag) (g : List D → D → Option (List D)) (r : V → List V → Hp → VK → Prop) : Prop :=
  ∀ {H : Hp} {a : Addr} {vs : List V} {ds ds' : List D} {y : D} {v : V} {F G : List Addr} {Q : VK}, H a = some (.lst vs) → Reps K H ds vs F → Rep K H y v G → g ds y = some ds' →
    (∀ vs' F', (∀ H', (∀ b o, H b = some o → Im o → H' b = some o) → (∀ b, b ∈ F ++ G → b ≠ a → H' b = H b) → a ∉ F' → Reps K H' ds' vs' F') → (∀ b, b ∈ F' → b ∈ F ∨ b ∈ G) → Q .non (upd H a (.lst vs'))) → r (.ref a) [v] H Q
theorem grow_app {K : PySem.W.Frag} : GrowR K appD rAppend := by
  intro H a vs ds ds' y v F G Q h hr hy e k
  unfold appD at e
  split at e
  · rename_i hz
    cases e
    refine ⟨a, vs, v, rfl, rfl, h, by rw [← hr.length]; exact hz, k (vs ++ [v]) (F ++ G) (fun H' i f na => ?_) fun b m => List.mem_append.mp m⟩
    have f' : ∀ b, b ∈ F ++ G → H' b = H b := fun b m => f b m fun e => na (e ▸ m)
    exact (Reps.keep i hr fun b m => f' b (List.mem_append_left _ m)).append (Reps.one (hy.keep i fun b m => f' b (List.mem_append_right _ m)))
  · cases e
theorem grow_ext {K : PySem.W.Frag} : GrowR K extD rExtend := by
  intro H a vs ds ds' y v F G Q h hr hy e k
  unfold extD at e
  split at e
  · rename_i zs
    split at e
    · rename_i hz
      cases e
      cases hy with
      | @lst b _ ws G' h1 h2 =>
        refine ⟨a, b, vs, ws, rfl, rfl, h, h1, by rw [← hr.length, ← h2.length]; exact hz, k (vs ++ ws) (F ++ G') (fun H' i f na => ?_) fun c m => (List.mem_append.mp m).imp (fun m => m) fun m => List.mem_cons_of_mem _ m⟩
        have f' : ∀ c, c ∈ F ++ G' → H' c = H c := fun c m => f c ((List.mem_append.mp m).elim (fun m => List.mem_append_left _ m) fun m => List.mem_append_right _ (List.mem_cons_of_mem _ m)) fun e => na (e ▸ m)
        exact (Reps.keep i hr fun c m => f' c (List.mem_append_left _ m)).append (Reps.keep i h2 fun c m => f' c (List.mem_append_right _ m))
    · cases e
  · cases e
theorem isLst_inv {s : S} {i : Nat} (h : isLst s i = true) : ∃ o ds, s[i]? = some (some (o, .lst ds)) := by
  unfold isLst at h
  split at h
  · rename_i o ds e; exact ⟨o, ds, e⟩
  · cases h
theorem tD_grow {K : PySem.W.Frag} {E : WX} {g : List D → D → Option (List D)} {r : V → List V → Hp → VK → Prop} (hg : GrowR K g r) {i : Nat} {f : M (Bool × D)} (σ : St) (H : Hp) (Q : VK) (h : tD K E (growM g i f) σ H Q) : tBM K "list" r (tVar i) (tCons (tD K E f) tNil) σ H Q := by
  obtain ⟨P, B, ia, s, Fs, R, w⟩ := h
  unfold growM at w
  split at w
  · rename_i hl
    obtain ⟨o, ds, e⟩ := isLst_inv hl
    obtain ⟨v, F0, hv, ov⟩ := R.opd e
    obtain ⟨a, vs, G0, rfl, h1, h2, _, _⟩ := ov.lst_inv
    refine ⟨.ref a, hv, .inl ⟨rfl, vs, SqL.of h1⟩, P, B, ia, s, Fs, R, (Post.bind w).mono (fun _ _ q => q) fun y s1 q u H1 rv => ?_⟩
    obtain ⟨G, Fs1, g1, g2, g3, g4, g5⟩ := rv
    split at q
    · rename_i o1 ds1 e1
      split at q
      · exact q.elim
      · rename_i ho
        split at q
        · rename_i ds2 e2
          obtain ⟨a', F, k1, k2, k3, k4, k5, k6⟩ := g4.own i o1 _ e1 ho
          rw [hv] at k1; cases k1
          cases k3 with
          | @lst _ _ vs1 _ m1 m2 =>
            refine hg m1 m2 g1 e2 fun vs' F' hr hF => ?_
            have na : a ∉ F' := fun m => (hF a m).elim k4 fun m => k5 (.inr m)
            have rm : RepM K (upd H1 a (.lst vs')) (.lst ds2) a F' := .lst upd_same (hr _ (fun b o hb hi => by rw [upd_ne fun e => by subst e; rw [m1] at hb; cases hb; exact hi]; exact hb) (fun b m hb => upd_ne hb) na)
            obtain ⟨r2, fr2⟩ := g4.write e1 ho hv k2 rm hF (fun b m => g3 b m)
            exact q .non _ (.flat .non (g2.trans fr2) r2)
        · exact q.elim
    · exact q.elim
  · exact w.elim
/-- a method that grows a list: h is pe_bm .. -/
theorem dm_grow {X : Cx} {E : WX} {e : Expr} {g : List D → D → Option (List D)} {r : V → List V → Hp → VK → Prop} {i : Nat} {f : M (Bool × D)} (h : PE X e (tBM X.K "list" r (tVar i) (tCons (tD X.K E f) tNil))) (hg : GrowR X.K g r) : PE X e (tD X.K E (growM g i f)) := h.imp (tD_grow hg)

/-! ### xs.pop(), xs.pop(i) -/
def popM (i : Nat) : M (Bool × D) := fun s => match s[i]? with
  | some (some (o, .lst ds)) => if o = .sh then .stuck else (match ds[ds.length - 1]? with
    | some d => .ok (false, d) (s.set i (some (o, .lst ds.dropLast)))
    | none => .stuck)
  | _ => .stuck
theorem Reps.dropLast {K : PySem.W.Frag} {H : Hp} {ds : List D} {vs : List V} {F : List Addr} (h : Reps K H ds vs F) : ∃ G, Reps K H ds.dropLast vs.dropLast G ∧ ∀ b, b ∈ G → b ∈ F := by
  rw [List.dropLast_eq_take, List.dropLast_eq_take, h.length]
  have := h.sub 0 (vs.length - 1)
  simpa using this
theorem Reps.erase {K : PySem.W.Frag} {H : Hp} : ∀ {ds : List D} {vs : List V} {F : List Addr} (k : Nat), Reps K H ds vs F → ∃ G, Reps K H (ds.eraseIdx k) (vs.eraseIdx k) G ∧ ∀ b, b ∈ G → b ∈ F
  | [], _, _, k, h => by cases h; exact ⟨[], by simpa using Reps.nil, fun _ m => m⟩
  | d :: ds, _, _, 0, h => by
    cases h with
    | cons h1 h2 => exact ⟨_, h2, fun b m => List.mem_append_right _ m⟩
  | d :: ds, _, _, k + 1, h => by
    cases h with
    | @cons _ v F1 _ vs G h1 h2 =>
      obtain ⟨G', e1, e2⟩ := Reps.erase k h2
      refine ⟨F1 ++ G', .cons h1 e1, fun b m => ?_⟩
      rcases List.mem_append.mp m with m | m
      · exact List.mem_append_left _ m
      · exact List.mem_append_right _ (e2 b m)
/-- a list in a slot of one's own becomes a part of itself, a part is handed out -/
theorem SR.less {K : PySem.W.Frag} {P B : Addr → Prop} {ia : Nat → Addr} {s : S} {σ : St} {H H0 : Hp} {Fs : Nat → List Addr} {i : Nat} {o : Own} {d d' y : D} {a : Addr} {v : V} {F F' G : List Addr} {ob : HO} (r : SR K P B ia s σ H Fs) (fr : Fr P H0 H) (e : s[i]? = some (some (o, d))) (n : o ≠ .sh) (ha : σ[i]? = some (some (V.ref a)))
    (hF : Fs i = a :: F) (h : ∀ H', (∀ b o, H b = some o → Im o → H' b = some o) → (∀ b, b ≠ a → H' b = H b) → H' a = some ob → RepM K H' d' a F') (hF' : ∀ b, b ∈ F' → b ∈ F) (hy : Rep K H y v G) (hG : ∀ b, b ∈ G → b ∈ F) :
    RV K P B ia (s.set i (some (o, d'))) σ H0 (upd H a ob) false y v := by
  obtain ⟨a', F0, k1, k2, k3, k4, k5, k6⟩ := r.own i o d e n
  rw [ha] at k1; cases k1
  rw [hF] at k2; cases k2
  obtain ⟨ob0, m1, m2⟩ := k3.mut
  have im : ∀ b o, H b = some o → Im o → upd H a ob b = some o := fun b o hb hi => by
    rw [upd_ne fun e => by subst e; rw [m1] at hb; cases hb; exact m2 hi]; exact hb
  have rm := h (upd H a ob) im (fun b hb => upd_ne hb) upd_same
  obtain ⟨r2, fr2⟩ := SR.write (F2 := []) (r.weak fun b m => m.elim (fun m => m) fun m => by cases m) e n ha hF rm (fun b m => .inl (hF' b m)) (fun b m => by cases m)
  have naG : ∀ b, b ∈ G → b ≠ a := fun b m z => k4 (by rw [← z]; exact hG b m)
  have no : NoOwn (s.set i (some (o, d'))) σ G := by
    intro j o' d2 b q n' x m
    by_cases hj : j = i
    · subst hj
      rw [ha] at x; cases x
      exact naG _ m rfl
    · rw [get_set_ne hj] at q
      obtain ⟨c, F2, g1, g2, g3, g4, g5, g6⟩ := r.own j o' d2 q n'
      rw [x] at g1; cases g1
      exact g6 i (Ne.symm hj) (by rw [hF]; exact List.mem_cons_of_mem _ (hG b m))
  exact .part (hy.keep im fun b m => upd_ne (naG b m)) no (fun b m => r.inB i b (by rw [hF]; exact List.mem_cons_of_mem _ (hG b m))) (fr.trans fr2) r2
theorem tD_pop {K : PySem.W.Frag} {E : WX} {i : Nat} (σ : St) (H : Hp) (Q : VK) (h : tD K E (popM i) σ H Q) : tBM0 K "list" rPop (tVar i) σ H Q := by
  obtain ⟨P, B, ia, s, Fs, R, w⟩ := h
  unfold popM at w
  split at w
  · rename_i o ds e
    split at w
    · exact w.elim
    · rename_i ho
      split at w
      · rename_i d ed
        obtain ⟨a, F, k1, k2, k3, k4, k5, k6⟩ := R.own i o _ e ho
        cases k3 with
        | @lst _ _ vs _ m1 m2 =>
          obtain ⟨v, G, g1, g2, g3⟩ := m2.get ed
          obtain ⟨F', f1, f2⟩ := m2.dropLast
          refine ⟨.ref a, k1, .inl ⟨rfl, vs, SqL.of m1⟩, a, vs, v, rfl, rfl, m1, by rw [← m2.length]; exact g1, w v _ (R.less Fr.refl e ho k1 k2 (fun H' i f ha => .lst ha (Reps.keep i f1 fun b m => f b fun z => k4 (by rw [← z]; exact f2 b m))) f2 g2 g3)⟩
      · exact w.elim
  · exact w.elim
theorem dm_pop {X : Cx} {E : WX} {e : Expr} {i : Nat} (h : PE X e (tBM0 X.K "list" rPop (tVar i))) : PE X e (tD X.K E (popM i)) := h.imp tD_pop
def popAtM (i : Nat) (f : M (Bool × D)) : M (Bool × D) := fun s => if isLst s i = true then (f s).bind fun y s1 => (match s1[i]?, y.2 with
  | some (some (o, .lst ds)), .int k => if o = .sh then .stuck else if -(2 ^ 63) ≤ k ∧ k < 2 ^ 63 then (match seqIndex? k ds.length with
    | some j => (match ds[j]? with
      | some d => .ok (false, d) (s1.set i (some (o, .lst (ds.eraseIdx j))))
      | none => .stuck)
    | none => .stuck) else .stuck
  | _, _ => .stuck) else .stuck
theorem tD_popAt {K : PySem.W.Frag} {E : WX} {i : Nat} {f : M (Bool × D)} (σ : St) (H : Hp) (Q : VK) (h : tD K E (popAtM i f) σ H Q) : tBM K "list" rPopAt (tVar i) (tCons (tD K E f) tNil) σ H Q := by
  obtain ⟨P, B, ia, s, Fs, R, w⟩ := h
  unfold popAtM at w
  split at w
  · rename_i hl
    obtain ⟨o, ds, e⟩ := isLst_inv hl
    obtain ⟨v, F0, hv, ov⟩ := R.opd e
    obtain ⟨a, vs, G0, rfl, h1, h2, _, _⟩ := ov.lst_inv
    refine ⟨.ref a, hv, .inl ⟨rfl, vs, SqL.of h1⟩, P, B, ia, s, Fs, R, (Post.bind w).mono (fun _ _ q => q) fun y s1 q u H1 rv => ?_⟩
    obtain ⟨G, Fs1, g1, g2, g3, g4, g5⟩ := rv
    split at q
    · rename_i o1 ds1 k e1 e2
      split at q
      · exact q.elim
      · rename_i ho
        split at q
        · rename_i hk
          split at q
          · rename_i j ej
            split at q
            · rename_i d ed
              obtain ⟨a', F, k1, k2, k3, k4, k5, k6⟩ := g4.own i o1 _ e1 ho
              rw [hv] at k1; cases k1
              cases k3 with
              | @lst _ _ vs1 _ m1 m2 =>
                obtain ⟨v', G', q1, q2, q3⟩ := m2.get ed
                obtain ⟨F', f1, f2⟩ := m2.erase j
                have eu : u = .int k := by rw [e2] at g1; cases g1; rfl
                exact ⟨a, vs1, k, j, v', rfl, by rw [eu], m1, hk.1, hk.2, by rw [← m2.length]; exact ej, q1, q v' _ ((g4.weak fun b m => .inl m).less g2 e1 ho hv k2 (fun H' i f ha => .lst ha (Reps.keep i f1 fun b m => f b fun z => k4 (by rw [← z]; exact f2 b m))) f2 q2 q3)⟩
            · exact q.elim
          · exact q.elim
        · exact q.elim
    · exact q.elim
  · exact w.elim
theorem dm_popAt {X : Cx} {E : WX} {e : Expr} {i : Nat} {f : M (Bool × D)} (h : PE X e (tBM X.K "list" rPopAt (tVar i) (tCons (tD X.K E f) tNil))) : PE X e (tD X.K E (popAtM i f)) := h.imp tD_popAt

/-! ### x[k] = e at a slot: a list, a dict -/
def kput (kds : List (Key × D)) (k : Key) (d : D) : List (Key × D) := if kds.any (fun q => decide (q.1 = k)) then kds.map (fun q => if q.1 = k then (q.1, d) else q) else kds ++ [(k, d)]
theorem RepK.any {K : PySem.W.Frag} {H : Hp} {k : Key} : ∀ {kds : List (Key × D)} {kvs : List (Key × V)} {F : List Addr}, RepK K H kds kvs F → kds.any (fun q => decide (q.1 = k)) = kvs.any (fun q => decide (q.1 = k))
  | [], _, _, h => by cases h; rfl
  | (k', d) :: ds, _, _, h => by
    cases h with
    | cons h1 h2 => simp [RepK.any h2]
theorem RepK.mapk {K : PySem.W.Frag} {H : Hp} {k : Key} {y : D} {v : V} {G : List Addr} (hy : Rep K H y v G) : ∀ {kds : List (Key × D)} {kvs : List (Key × V)} {F : List Addr}, RepK K H kds kvs F →
    ∃ F', RepK K H (kds.map fun q => if q.1 = k then (q.1, y) else q) (kvs.map fun q => if q.1 = k then (q.1, v) else q) F' ∧ ∀ b, b ∈ F' → b ∈ F ∨ b ∈ G
  | [], _, _, h => by cases h; exact ⟨[], .nil, fun _ m => nomatch m⟩
  | (k', d) :: ds, _, _, h => by
    cases h with
    | @cons _ _ w F1 _ vs F2 h1 h2 =>
      obtain ⟨F', e1, e2⟩ := RepK.mapk (k := k) hy h2
      by_cases hk : k' = k
      · refine ⟨G ++ F', ?_, fun b m => ?_⟩
        · simp only [List.map_cons, if_pos hk]; exact .cons hy e1
        · rcases List.mem_append.mp m with m | m
          · exact .inr m
          · exact (e2 b m).imp (fun m => List.mem_append_right _ m) fun m => m
      · refine ⟨F1 ++ F', ?_, fun b m => ?_⟩
        · simp only [List.map_cons, if_neg hk]; exact .cons h1 e1
        · rcases List.mem_append.mp m with m | m
          · exact .inl (List.mem_append_left _ m)
          · exact (e2 b m).imp (fun m => List.mem_append_right _ m) fun m => m
theorem RepK.app {K : PySem.W.Frag} {H : Hp} {k : Key} {y : D} {v : V} {G : List Addr} (hy : Rep K H y v G) : ∀ {kds : List (Key × D)} {kvs : List (Key × V)} {F : List Addr}, RepK K H kds kvs F → RepK K H (kds ++ [(k, y)]) (kvs ++ [(k, v)]) (F ++ G)
  | [], _, _, h => by
    cases h
    have := RepK.cons (k := k) hy (RepK.nil (K := K) (H := H))
    simpa using this
  | (k', d) :: ds, _, _, h => by
    cases h with
    | cons h1 h2 =>
      rw [List.append_assoc]
      exact .cons h1 (RepK.app hy h2)
theorem RepK.put {K : PySem.W.Frag} {H : Hp} {k : Key} {y : D} {v : V} {G : List Addr} (hy : Rep K H y v G) {kds : List (Key × D)} {kvs : List (Key × V)} {F : List Addr} (h : RepK K H kds kvs F) : ∃ F', RepK K H (kput kds k y) (putK kvs k v) F' ∧ ∀ b, b ∈ F' → b ∈ F ∨ b ∈ G := by
  unfold kput putK
  rw [h.any]
  split
  · exact RepK.mapk hy h
  · exact ⟨F ++ G, RepK.app hy h, fun b m => List.mem_append.mp m⟩
def isBox (s : S) (i : Nat) : Bool := match s[i]? with
  | some (some (_, .lst _)) => true
  | some (some (_, .dct _)) => true
  | _ => false
/-- what stands behind x[k] = y -/
def setD (x k y : D) : Option D := match x with
  | .lst ds => (match k with
    | .int j => (ixN ds.length j).map fun j => .lst (ds.set j y)
    | _ => none)
  | .dct kds => k.key.bind fun k => if kds.length < sizeLine then some (.dct (kput kds k y)) else none
  | _ => none
def setItM (i : Nat) (k f : M (Bool × D)) : M Fl := fun s => (f s).bind fun y s1 => if isBox s1 i = true then (k s1).bind fun kk s2 => (match s2[i]? with
  | some (some (o, x)) => if o = .sh then .stuck else (match setD x kk.2 y.2 with
    | some x' => .ok .nx (s2.set i (some (o, x')))
    | none => .stuck)
  | _ => .stuck) else .stuck
theorem Reps.set {K : PySem.W.Frag} {H : Hp} {y : D} {v : V} {G : List Addr} (hy : Rep K H y v G) : ∀ {ds : List D} {vs : List V} {F : List Addr} (j : Nat), Reps K H ds vs F → ∃ F', Reps K H (ds.set j y) (vs.set j v) F' ∧ ∀ b, b ∈ F' → b ∈ F ∨ b ∈ G
  | [], _, _, j, h => by cases h; exact ⟨[], by simpa using Reps.nil, fun _ m => nomatch m⟩
  | d :: ds, _, _, 0, h => by
    cases h with
    | cons h1 h2 => exact ⟨_, .cons hy h2, fun b m => (List.mem_append.mp m).elim .inr fun m => .inl (List.mem_append_right _ m)⟩
  | d :: ds, _, _, j + 1, h => by
    cases h with
    | @cons _ w F1 _ vs F2 h1 h2 =>
      obtain ⟨F', e1, e2⟩ := Reps.set hy j h2
      refine ⟨F1 ++ F', .cons h1 e1, fun b m => ?_⟩
      rcases List.mem_append.mp m with m | m
      · exact .inl (List.mem_append_left _ m)
      · exact (e2 b m).imp (fun m => List.mem_append_right _ m) fun m => m
/-- the two rules' readings -/
def rSetA (ti te : TE) (i : Nat) : TS := fun Dn σ H => tAsg te (gSub (tVar i) ti rSetL) Dn σ H ∨ sDPut (tVar i) ti te Dn σ H
theorem tS_setIt {K : PySem.W.Frag} {E : WX} {i : Nat} {k f : M (Bool × D)} (Dn : Ends) (σ : St) (H : Hp) (h : tS K E (setItM i k f) Dn σ H) : rSetA (tD K E k) (tD K E f) i Dn σ H := by
  obtain ⟨P, B, ia, s, Fs, R, w⟩ := h
  unfold setItM at w
  -- one end for both kinds
  have fin : ∀ {y : Bool × D} {s1 s2 : S} {H1 H2 : Hp} {u kv : V} {G Gk : List Addr} {Fs1 Fs2 : Nat → List Addr} {kk : Bool × D} {o : Own} {x x' : D} {a : Addr}, Rep K H1 y.2 u G → Fr P H H1 → (∀ a, a ∈ G → B a) → Fr (fun b => P b ∨ b ∈ G) H1 H2 → SR K (fun b => (P b ∨ b ∈ G) ∨ b ∈ Gk) B ia s2 σ H2 Fs2 →
      s2[i]? = some (some (o, x)) → o ≠ .sh → setD x kk.2 y.2 = some x' → Rep K H2 kk.2 kv Gk → σ[i]? = some (some (V.ref a)) → SPd K P B ia H Dn .nx (s2.set i (some (o, x'))) →
      (∃ ds vs j z, x = .lst ds ∧ H2 a = some (.lst vs) ∧ kv = .int z ∧ ixN vs.length z = some j ∧ Dn.nx σ (upd H2 a (.lst (vs.set j u)))) ∨ (∃ kds kvs kx, x = .dct kds ∧ H2 a = some (.dK kvs) ∧ kv = kV kx ∧ kvs.length < sizeLine ∧ Dn.nx σ (upd H2 a (.dK (putK kvs kx u)))) := by
    intro y s1 s2 H1 H2 u kv G Gk Fs1 Fs2 kk o x x' a hy f1 hb f2 r2 e ho es hk hv q
    have hy2 : Rep K H2 y.2 u G := hy.keep f2.i fun b m => f2.p b (.inr m)
    obtain ⟨a', F, k1, k2, k3, k4, k5, k6⟩ := r2.own i o x e ho
    rw [hv] at k1; cases k1
    have r3 : SR K (fun b => P b ∨ b ∈ G) B ia s2 σ H2 Fs2 := r2.weak fun b m => .inl m
    have f12 : Fr P H H2 := f1.trans (f2.mono fun b m => .inl m)
    cases k3 with
    | @lst _ ds vs _ m1 m2 =>
      left
      simp only [setD] at es
      split at es
      · rename_i z hz
        obtain ⟨j, e1, e2⟩ := Option.map_eq_some_iff.mp es
        subst e2
        rw [hz] at hk
        cases hk
        obtain ⟨F', g1, g2⟩ := m2.set hy2 j
        refine ⟨ds, vs, j, z, rfl, m1, rfl, by rw [← m2.length]; exact e1, ?_⟩
        have na : a ∉ F' := fun m => (g2 a m).elim k4 fun m => k5 (.inl (.inr m))
        have im : ∀ b o, H2 b = some o → Im o → upd H2 a (.lst (vs.set j u)) b = some o := fun b o hb hi => by rw [upd_ne fun e => by subst e; rw [m1] at hb; cases hb; exact hi]; exact hb
        obtain ⟨r4, f4⟩ := r3.write e ho hv k2 (RepM.lst (K := K) (H := upd H2 a (.lst (vs.set j u))) upd_same (Reps.keep im g1 fun b m => upd_ne fun z => na (z ▸ m))) g2 hb
        exact q σ _ _ (f12.trans f4) r4
      · cases es
    | @dct _ kds kvs _ m1 m2 =>
      right
      simp only [setD] at es
      obtain ⟨kx, e1, e2⟩ := Option.bind_eq_some_iff.mp es
      split at e2
      · rename_i hz
        cases e2
        obtain ⟨F', g1, g2⟩ := RepK.put (k := kx) hy2 m2
        refine ⟨kds, kvs, kx, rfl, m1, hk.key e1, by rw [← m2.length]; exact hz, ?_⟩
        have na : a ∉ F' := fun m => (g2 a m).elim k4 fun m => k5 (.inl (.inr m))
        have im : ∀ b o, H2 b = some o → Im o → upd H2 a (.dK (putK kvs kx u)) b = some o := fun b o hb hi => by rw [upd_ne fun e => by subst e; rw [m1] at hb; cases hb; exact hi]; exact hb
        obtain ⟨r4, f4⟩ := r3.write e ho hv k2 (RepM.dct (K := K) (H := upd H2 a (.dK (putK kvs kx u))) upd_same (RepK.keep im g1 fun b m => upd_ne fun z => na (z ▸ m))) g2 hb
        exact q σ _ _ (f12.trans f4) r4
      · cases e2
  have w' := Post.bind w
  cases ef : f s with
  | stuck => rw [ef] at w'; exact w'.elim
  | exc x s1 =>
    rw [ef] at w'
    exact .inl ⟨P, B, ia, s, Fs, R, by rw [ef]; exact w'.to⟩
  | ok y s1 =>
    rw [ef] at w'
    simp only [Post.ok] at w'
    split at w'
    · rename_i hbx
      cases ek : k s1 with
      | stuck => rw [ek] at w'; exact w'.elim
      | exc x s2 =>
        rw [ek] at w'
        -- the box's kind tells the rule
        unfold isBox at hbx
        split at hbx
        · rename_i o ds e1
          left
          refine ⟨P, B, ia, s, Fs, R, ?_⟩
          rw [ef]
          intro u H1 rv
          obtain ⟨G, Fs1, g1, g2, g3, g4, g5⟩ := rv
          obtain ⟨v, F0, hv, ov⟩ := g4.opd e1
          exact ⟨v, hv, _, B, ia, s1, Fs1, g4, by rw [ek]; exact fun cls dx H2 rx => w' σ cls dx H2 (rx.weak g2 fun b m => .inl m)⟩
        · rename_i o ds e1
          left
          refine ⟨P, B, ia, s, Fs, R, ?_⟩
          rw [ef]
          intro u H1 rv
          obtain ⟨G, Fs1, g1, g2, g3, g4, g5⟩ := rv
          obtain ⟨v, F0, hv, ov⟩ := g4.opd e1
          exact ⟨v, hv, _, B, ia, s1, Fs1, g4, by rw [ek]; exact fun cls dx H2 rx => w' σ cls dx H2 (rx.weak g2 fun b m => .inl m)⟩
        · cases hbx
      | ok kk s2 =>
        rw [ek] at w'
        simp only [Res.bind_ok] at w'
        split at w'
        · rename_i o x e2
          split at w'
          · exact w'.elim
          · rename_i ho
            split at w'
            · rename_i x' ex
              have live : ∃ o' d', s1[i]? = some (some (o', d')) := by
                unfold isBox at hbx
                split at hbx
                · rename_i o' ds e1; exact ⟨_, _, e1⟩
                · rename_i o' ds e1; exact ⟨_, _, e1⟩
                · cases hbx
              obtain ⟨o', d', e1⟩ := live
              cases x with
              | lst ds =>
                left
                refine ⟨P, B, ia, s, Fs, R, ?_⟩
                rw [ef]
                intro u H1 rv
                obtain ⟨G, Fs1, g1, g2, g3, g4, g5⟩ := rv
                obtain ⟨v, F0, hv, ov⟩ := g4.opd e1
                refine ⟨v, hv, _, B, ia, s1, Fs1, g4, ?_⟩
                rw [ek]
                intro kv H2 rv2
                obtain ⟨Gk, Fs2, k1, k2, k3, k4, k5⟩ := rv2
                obtain ⟨a, F, q1, q2, q3, _⟩ := k4.own i o _ e2 ho
                rw [hv] at q1; cases q1
                rcases fin (s1 := s1) (Fs1 := Fs1) g1 g2 g3 k2 k4 e2 ho ex k1 hv w' with ⟨ds, vs, j, z, _, m1, m2, m3, m4⟩ | ⟨_, _, _, m1, _⟩
                · exact ⟨a, vs, z, j, rfl, m2, m1, m3, m4⟩
                · cases m1
              | dct kds =>
                right
                refine ⟨P, B, ia, s, Fs, R, ?_⟩
                rw [ef]
                intro u H1 rv
                obtain ⟨G, Fs1, g1, g2, g3, g4, g5⟩ := rv
                obtain ⟨v, F0, hv, ov⟩ := g4.opd e1
                refine ⟨v, hv, _, B, ia, s1, Fs1, g4, ?_⟩
                rw [ek]
                intro kv H2 rv2
                obtain ⟨Gk, Fs2, k1, k2, k3, k4, k5⟩ := rv2
                obtain ⟨a, F, q1, q2, q3, _⟩ := k4.own i o _ e2 ho
                rw [hv] at q1; cases q1
                rcases fin (s1 := s1) (Fs1 := Fs1) g1 g2 g3 k2 k4 e2 ho ex k1 hv w' with ⟨_, _, _, _, m1, _⟩ | ⟨kds, kvs, kx, _, m1, m2, m3, m4⟩
                · cases m1
                · exact ⟨a, _, rfl, .inl ⟨kvs, kx, m1, m2, m3, rfl⟩, m4⟩
              | _ => simp [setD] at ex
            · exact w'.elim
        · exact w'.elim
    · exact w'.elim
theorem PS.or {X : Cx} {st : Stmt} {t t' : TS} (h : PS X st t) (h' : PS X st t') : PS X st (fun Dn σ H => t Dn σ H ∨ t' Dn σ H) := ⟨fun pins s σ H Dn I w => w.elim (h.run pins s σ H Dn I) (h'.run pins s σ H Dn I)⟩
/-- h1: ps_asg he (pg_sub (pv i) hk set_list); h2: ps_dput hu (pv i) hk he rfl -/
theorem ds_setIt {X : Cx} {E : WX} {st : Stmt} {i : Nat} {k f : M (Bool × D)} (h1 : PS X st (tAsg (tD X.K E f) (gSub (tVar i) (tD X.K E k) rSetL))) (h2 : PS X st (sDPut (tVar i) (tD X.K E k) (tD X.K E f))) : PS X st (tS X.K E (setItM i k f)) := (PS.or h1 h2).imp tS_setIt

/-! ### dict displays -/
def flat2 : List (M (Bool × D) × M (Bool × D)) → List (M (Bool × D))
  | [] => []
  | (k, v) :: r => k :: v :: flat2 r
/-- keys and values in a row, as pairs -/
def kpairs : List D → Option (List (Key × D))
  | [] => some []
  | k :: d :: r => k.key.bind fun kk => (kpairs r).map fun ps => (kk, d) :: ps
  | _ => none
def kmerge (kds more : List (Key × D)) : List (Key × D) := more.foldl (fun acc q => kput acc q.1 q.2) kds
def dispM (ps : List (M (Bool × D) × M (Bool × D))) : M (Bool × D) := opsM ((flat2 ps).map .ex) fun ds s => match kpairs ds with
  | some kds => if kds.length ≤ 15 then .ok (true, .dct (kmerge [] kds)) s else .stuck
  | none => .stuck
theorem rdOs_mono {K : PySem.W.Frag} {E : WX} : ∀ {os : List Opd} {σ : St} {H : Hp} {Q Q' : List V → Hp → Prop}, rdOs K E os σ H Q → (∀ vs H, Q vs H → Q' vs H) → rdOs K E os σ H Q'
  | [], σ, H, Q, Q', h, q => q _ _ h
  | o :: os, σ, H, Q, Q', h, q => rdO_mono (o := o) h fun x H1 h1 => rdOs_mono (os := os) h1 fun vs H2 h2 => q _ _ h2
theorem tPairs_of {K : PySem.W.Frag} {E : WX} : ∀ {ps : List (M (Bool × D) × M (Bool × D))} {σ : St} {H : Hp} {Q : List (V × V) → Hp → Prop}, rdOs K E ((flat2 ps).map .ex) σ H (fun vs H' => ∀ qs : List (V × V), vs = qs.flatMap (fun q => [q.1, q.2]) → Q qs H') → tPairs (ps.map fun p => (tD K E p.1, tD K E p.2)) σ H Q
  | [], σ, H, Q, h => h [] rfl
  | (k, v) :: r, σ, H, Q, h => by
    refine tD_mono h fun x H1 h1 => tD_mono h1 fun y H2 h2 => tPairs_of ?_
    exact rdOs_mono h2 fun vs H' q qs e => q ((x, y) :: qs) (by rw [e]; rfl)
theorem Rep.keyF {K : PySem.W.Frag} {H : Hp} {d : D} {v : V} {F : List Addr} {k : Key} (h : Rep K H d v F) (e : d.key = some k) : F = [] := by
  cases h <;> cases e <;> rfl
/-- pairs by their representation -/
theorem kpairs_rep {K : PySem.W.Frag} {H : Hp} : ∀ {ds : List D} {vs : List V} {F : List Addr} {kds : List (Key × D)}, Reps K H ds vs F → kpairs ds = some kds →
    ∃ kvs : List (Key × V), vs = kvs.flatMap (fun q => [kV q.1, q.2]) ∧ RepK K H kds kvs F
  | [], _, _, _, h, e => by cases h; cases e; exact ⟨[], rfl, .nil⟩
  | [_], _, _, _, h, e => by simp [kpairs] at e
  | k :: d :: r, _, _, _, h, e => by
    rw [kpairs] at e
    obtain ⟨kk, e1, e2⟩ := Option.bind_eq_some_iff.mp e
    obtain ⟨ps, e3, e4⟩ := Option.map_eq_some_iff.mp e2
    subst e4
    cases h with
    | @cons _ v1 F1 _ _ G1 h1 h2 =>
      cases h2 with
      | @cons _ v2 F2 _ _ G2 h3 h4 =>
        obtain ⟨kvs, g1, g2⟩ := kpairs_rep h4 e3
        have ek := h1.key e1
        have f1 : F1 = [] := h1.keyF e1
        subst ek
        subst f1
        exact ⟨(kk, v2) :: kvs, by rw [g1]; rfl, by simpa using RepK.cons (k := kk) h3 g2⟩
theorem RepK.merge {K : PySem.W.Frag} {H : Hp} : ∀ {more : List (Key × D)} {moreV : List (Key × V)} {G : List Addr} {kds : List (Key × D)} {kvs : List (Key × V)} {F : List Addr}, RepK K H more moreV G → RepK K H kds kvs F →
    ∃ F', RepK K H (kmerge kds more) (mergeK kvs moreV) F' ∧ ∀ b, b ∈ F' → b ∈ F ∨ b ∈ G
  | [], _, _, _, _, F, h, h' => by cases h; exact ⟨F, h', fun b m => .inl m⟩
  | (k, d) :: more, _, _, _, _, _, h, h' => by
    cases h with
    | cons h1 h2 =>
      obtain ⟨F1, e1, e2⟩ := RepK.put (k := k) h1 h'
      obtain ⟨F2, g1, g2⟩ := RepK.merge h2 e1
      exact ⟨F2, g1, fun b m => (g2 b m).elim (fun m => (e2 b m).imp (fun m => m) fun m => List.mem_append_left _ m) fun m => .inr (List.mem_append_right _ m)⟩
theorem flatMap_inj2 : ∀ {qs : List (V × V)} {kvs : List (Key × V)}, qs.flatMap (fun q => [q.1, q.2]) = kvs.flatMap (fun q => [kV q.1, q.2]) → qs = kvs.map fun q => (kV q.1, q.2)
  | [], [], _ => rfl
  | [], _ :: _, h => by simp at h
  | _ :: _, [], h => by simp at h
  | (a, b) :: qs, (k, v) :: kvs, h => by
    simp only [List.flatMap_cons, List.cons_append, List.nil_append, List.cons.injEq] at h
    obtain ⟨h1, h2, h3⟩ := h
    subst h1 h2
    rw [List.map_cons, flatMap_inj2 h3]
theorem tD_disp {K : PySem.W.Frag} {E : WX} {ps : List (M (Bool × D) × M (Bool × D))} (σ : St) (H : Hp) (Q : VK) (h : tD K E (dispM ps) σ H Q) : tDisp (ps.map fun p => (tD K E p.1, tD K E p.2)) σ H Q := by
  obtain ⟨P, B, ia, s, Fs, r, w⟩ := h
  intro p np
  have f0 : Fr P H (upd H p (.dK [])) := Fr.new np r.tr
  -- the new dict is protected while the pairs are made, and in nothing that they make
  have r1 : SR K (fun b => P b ∨ b ∈ [p]) (fun b => B b ∧ b ≠ p) ia s σ (upd H p (.dK [])) Fs := by
    have r0 := (r.new np (o := .dK [])).prot (F := [p]) (fun a m => by rw [List.mem_singleton.mp m, upd_same]; simp) (fun i o d a e n x m => by rw [List.mem_singleton.mp m] at x; exact r.ownTr e n x np)
    exact ⟨r0.len, r0.rep, r0.own, r0.iov, r0.dead, fun j a m => ⟨r0.inB j a m, fun e => r.trF m (e ▸ np)⟩, r0.tr, fun b q => ⟨r0.nb b q, fun e => by rw [e, upd_same] at q; cases q⟩⟩
  refine tPairs_of (rdOps (α := Bool × D) r1 w (fun x s' q cls dx H' rx => ?_) fun ds s' vs H' Gs Fs' q ov fr r' => ?_)
  · obtain ⟨Fs', h1, h2, h3⟩ := rx
    exact q cls dx H' ⟨Fs', f0.trans (h1.mono fun b m => .inl m), ⟨h2.len, h2.rep, fun i o d e n => let ⟨a, F, k1, k2, k3, k4, k5, k6⟩ := h2.own i o d e n; ⟨a, F, k1, k2, k3, k4, fun m => k5 (.inl m), k6⟩, h2.iov, h2.dead, fun j a m => (h2.inB j a m).1, fun b m => h2.tr b (.inl m), fun b m => (h2.nb b m).1⟩, h3⟩
  · intro qs eq
    split at q
    · rename_i kds ek
      split at q
      · rename_i hl
        obtain ⟨G, g1, g2, g3⟩ := ov.reps (allEx _)
        obtain ⟨kvs, k1, k2⟩ := kpairs_rep g1 ek
        obtain ⟨F', m1, m2⟩ := RepK.merge k2 (RepK.nil (K := K) (H := H'))
        have hp : H' p = some (.dK []) := (fr.p p (.inr List.mem_cons_self)).trans upd_same
        have m3 : ∀ b, b ∈ F' → b ∈ G := fun b m => (m2 b m).elim (fun m => by cases m) fun m => m
        have np' : p ∉ F' := fun m => (g3 p (m3 p m)).2 rfl
        refine ⟨hp, kvs, flatMap_inj2 (eq.symm.trans k1), by rw [← k2.length]; exact hl, q (.ref p) _ ?_⟩
        have im : ∀ b o, H' b = some o → Im o → upd H' p (.dK (mergeK [] kvs)) b = some o := fun b o hb hi => by rw [upd_ne fun e => by subst e; rw [hp] at hb; cases hb; exact hi]; exact hb
        have rm : RepM K (upd H' p (.dK (mergeK [] kvs))) (.dct (kmerge [] kds)) p F' := .dct upd_same (RepK.keep im m1 fun b m => upd_ne fun z => np' (z ▸ m))
        have fr2 : Fr P H (upd H' p (.dK (mergeK [] kvs))) := ⟨fun b hb => by
            have hbp : b ≠ p := fun e => r.tr b hb (by rw [e]; exact np)
            rw [upd_ne hbp]
            exact (fr.p b (.inl hb)).trans (upd_ne hbp), fun b o hb hi => im b o (fr.i b o (by rw [upd_ne (ne_of_none hb np)]; exact hb) hi) hi⟩
        have npF : ∀ j, p ∉ Fs' j := fun j m => (r'.inB j p m).2 rfl
        have r2 : SR K P B ia s' σ (upd H' p (.dK (mergeK [] kvs))) Fs' := by
          refine ⟨r'.len, fun j o d e => let ⟨v, h1, h2⟩ := r'.rep j o d e; ⟨v, h1, h2.keep im fun a m => upd_ne fun z => npF j (z ▸ m)⟩,
            fun j o d e n => let ⟨a, F, h1, h2, h3, h4, h5, h6⟩ := r'.own j o d e n; ⟨a, F, h1, h2, h3.keep im fun b m => upd_ne fun z => npF j (by rw [h2]; exact z ▸ m), h4, fun m => h5 (.inl m), h6⟩, r'.iov, r'.dead, fun j a m => (r'.inB j a m).1, fun b m => ?_, fun b m => ?_⟩
          · by_cases hb : b = p
            · subst hb; rw [upd_same]; simp
            · rw [upd_ne hb]; exact r'.tr b (.inl m)
          · by_cases hb : b = p
            · subst hb; rw [upd_same] at m; cases m
            · rw [upd_ne hb] at m; exact (r'.nb b m).1
        have no : NoOwn s' σ (p :: F') := by
          intro j o d a e n x m
          rcases List.mem_cons.mp m with rfl | m
          · obtain ⟨a', F, h1, h2, h3, h4, h5, h6⟩ := r'.own j o d e n
            rw [x] at h1; cases h1
            exact h5 (.inr List.mem_cons_self)
          · exact g2 j o d a e n x (m3 a m)
        refine ⟨p :: F', Fs', rm.rep, fr2, fun b m => ?_, r2.prot rm.rep.tr no, fun _ => ⟨p, F', rfl, rfl, rm, np', fun q => r.tr p q np, npF⟩⟩
        rcases List.mem_cons.mp m with rfl | m
        · exact r.nb _ np
        · exact (g3 b (m3 b m)).1
      · exact q.elim
    · exact q.elim
/-- {k: v, ..}; h: pe_disp (pps_cons ..) .. -/
theorem dm_disp {X : Cx} {E : WX} {e : Expr} {ps : List (M (Bool × D) × M (Bool × D))} (h : PE X e (tDisp (ps.map fun p => (tD X.K E p.1, tD X.K E p.2)))) : PE X e (tD X.K E (dispM ps)) := h.imp tD_disp
/-- {} -/
def emptyM : M (Bool × D) := fun s => .ok (true, .dct []) s
theorem de_dict0 {X : Cx} {E : WX} {pos : Pos} : PE X (.Dict [] [] pos) (tD X.K E emptyM) := pe_dnewK.imp fun σ H Q h => by
  obtain ⟨P, B, ia, s, Fs, r, w⟩ := h
  intro p np
  have rm : RepM X.K (upd H p (.dK [])) (.dct []) p [] := .dct upd_same .nil
  exact w (.ref p) _ ⟨[p], Fs, rm.rep, Fr.new np r.tr, fun b m => by rw [List.mem_singleton.mp m]; exact r.nb _ np, (r.new np).prot rm.rep.tr (NoOwn.cons r np .nil), fun _ => ⟨p, [], rfl, rfl, rm, nofun, fun q => r.tr p q np, fun j m => r.trF m np⟩⟩
end PV

/-! PV: list comprehensions; dict.get; methods of texts. -/
namespace PV
open PySem PySem.Spec L2

def killAll (s : S) : List Nat → S
  | [] => s
  | i :: is => (killAll s is).set i none
def nox {α : Type} (r : Res α) : Res α := match r with
  | .exc _ _ => .stuck
  | r => r
def lcL (t : Tg) (tt : M Bool) (te : M (Bool × D)) (vs : List Nat) : List D → List D → S → Res (List D)
  | [], acc, s => .ok acc s
  | d :: ds, acc, s => match t.put d s with
    | none => .stuck
    | some s1 => (nox (tt s1)).bind fun b s2 => if b = true then (nox (te s2)).bind fun y s3 => if acc.length < sizeLine then lcL t tt te vs ds (acc ++ [y.2]) (killAll s3 vs) else .stuck
      else lcL t tt te vs ds acc (killAll s2 vs)
/-- [te for t in it if tt]; vs: the slots of the comprehension's own names -/
def compM (it : M (List D)) (t : Tg) (tt : M Bool) (te : M (Bool × D)) (vs : List Nat) : M (Bool × D) := fun s => (it s).bind fun ds s1 => (lcL t tt te vs ds [] (killAll s1 vs)).bind fun acc s2 => .ok (true, .lst acc) s2
def yesM : M Bool := fun s => .ok true s
mutual
def Tg.slots : Tg → List Nat
  | .nm i => [i]
  | .tp ts => Tg.slotss ts
def Tg.slotss : List Tg → List Nat
  | [] => []
  | t :: ts => t.slots ++ Tg.slotss ts
end
theorem nox_post {α β : Type} {QX : Exn → S → Prop} {Q : β → S → Prop} {r : Res α} {f : α → S → Res β} (h : Post QX Q ((nox r).bind f)) : Post (fun _ _ => False) (fun a s => Post QX Q (f a s)) r := by
  cases r with
  | ok a s => exact h
  | exc x s => exact h
  | stuck => exact h
theorem killAll_len (s : S) : ∀ vs : List Nat, (killAll s vs).length = s.length
  | [] => rfl
  | v :: vs => by simp [killAll, killAll_len s vs]
theorem killAll_in {s : S} {i : Nat} : ∀ {vs : List Nat}, i ∈ vs → ∀ x, (killAll s vs)[i]? ≠ some (some x)
  | v :: vs, h, x => by
    rw [killAll]
    by_cases hv : i = v
    · subst hv
      intro e
      rw [List.getElem?_set] at e
      simp at e
    · rw [get_set_ne hv]
      rcases List.mem_cons.mp h with e | h
      · exact absurd e hv
      · exact killAll_in h x
theorem killAll_out {s : S} {i : Nat} : ∀ {vs : List Nat}, i ∉ vs → (killAll s vs)[i]? = s[i]?
  | [], _ => rfl
  | v :: vs, h => by
    rw [killAll, get_set_ne fun e => h (by rw [e]; exact List.mem_cons_self), killAll_out fun m => h (List.mem_cons_of_mem _ m)]
theorem wipe_in {σ : St} {i : Nat} (hi : i < σ.length) : ∀ {vs : List Nat}, i ∈ vs → (wipe σ vs)[i]? = some none
  | v :: vs, h => by
    rw [wipe]
    by_cases hv : i = v
    · subst hv
      rw [List.getElem?_set_self (by rw [wipe_length]; exact hi)]
    · rw [List.getElem?_set_ne fun e => hv e.symm]
      rcases List.mem_cons.mp h with e | h
      · exact absurd e hv
      · exact wipe_in hi h
theorem wipe_ext {σ σ2 : St} {vs : List Nat} (hl : σ2.length = σ.length) (h : ∀ j, j ∉ vs → σ2[j]? = σ[j]?) : wipe σ2 vs = wipe σ vs := by
  refine List.ext_getElem? fun j => ?_
  by_cases hj : j ∈ vs
  · by_cases hi : j < σ.length
    · rw [wipe_in (by rw [hl]; exact hi) hj, wipe_in hi hj]
    · rw [List.getElem?_eq_none (by rw [wipe_length, hl]; omega), List.getElem?_eq_none (by rw [wipe_length]; omega)]
  · rw [wipe_out hj, wipe_out hj, h j hj]
section
variable {K : PySem.W.Frag} {P B : Addr → Prop} {ia : Nat → Addr} {s : S} {σ σ' : St} {H H' : Hp} {Fs : Nat → List Addr}
/-- other values in slots that hold nothing -/
theorem SR.cong (r : SR K P B ia s σ H Fs) (hl : σ'.length = σ.length) (h : ∀ (i : Nat) (o : Own) (d : D), s[i]? = some (some (o, d)) → σ'[i]? = σ[i]?) : SR K P B ia s σ' H Fs :=
  ⟨by rw [hl]; exact r.len, fun i o d e => by rw [h i o d e]; exact r.rep i o d e, fun i o d e n => by rw [h i o d e]; exact r.own i o d e n, fun i d e => by rw [h i _ d e]; exact r.iov i d e, r.dead, r.inB, r.tr, r.nb⟩
theorem SR.killAll (r : SR K P B ia s σ H Fs) : ∀ vs : List Nat, ∃ Fs', SR K P B ia (PV.killAll s vs) σ H Fs' ∧ ∀ j a, a ∈ Fs' j → a ∈ Fs j
  | [] => ⟨Fs, r, fun _ _ m => m⟩
  | v :: vs => by
    obtain ⟨Fs', r', h⟩ := r.killAll vs
    by_cases hv : v < (PV.killAll s vs).length
    · refine ⟨_, r'.kill (List.getElem?_eq_getElem hv), fun j a m => ?_⟩
      by_cases hj : j = v
      · rw [if_pos hj] at m; cases m
      · rw [if_neg hj] at m; exact h j a m
    · refine ⟨Fs', ?_, h⟩
      rw [PV.killAll, List.set_eq_of_length_le (by omega)]
      exact r'
end
mutual
theorem put_ok2 {K : PySem.W.Frag} {P B : Addr → Prop} {ia : Nat → Addr} {H : Hp} : ∀ {t : Tg} {d : D} {s s' : S} {σ : St} {Fs : Nat → List Addr} {x : V} {F : List Addr} {Q : St → Hp → Prop}, t.put d s = some s' → SR K P B ia s σ H Fs → Rep K H d x F → (∀ a, a ∈ F → P a) → (∀ a, a ∈ F → B a) →
    (∀ σ' Fs', SR K P B ia s' σ' H Fs' → σ'.length = σ.length → (∀ j, j ∉ t.slots → σ'[j]? = σ[j]?) → Q σ' H) → gT K t x σ H Q
  | .nm i, d, s, s', σ, Fs, x, F, Q, h, r, hr, hp, hb, k => by
    rw [Tg.put] at h
    obtain ⟨y, e1, e2, e3⟩ := putS_inv h
    subst e3
    rw [gT]
    exact k _ _ (r.set hr (r.noOwn hp) hb e1 e2 (by decide) fun n => absurd rfl n) (by simp) fun j hj => List.getElem?_set_ne fun e => hj (by rw [Tg.slots, e]; exact List.mem_cons_self)
  | .tp ts, d, s, s', σ, Fs, x, F, Q, h, r, hr, hp, hb, k => by
    cases d with
    | tup ds =>
      rw [Tg.put] at h
      cases hr with
      | @tup a _ vs F h1 h2 =>
        rw [gT]
        exact ⟨a, vs, rfl, h1, by rw [← h2.length]; exact puts_len h, puts_ok2 h r h2 hp hb fun σ' Fs' r' l f => k σ' Fs' r' l fun j hj => f j (by rw [Tg.slots] at hj; exact hj)⟩
    | _ => simp [Tg.put] at h
theorem puts_ok2 {K : PySem.W.Frag} {P B : Addr → Prop} {ia : Nat → Addr} {H : Hp} : ∀ {ts : List Tg} {ds : List D} {s s' : S} {σ : St} {Fs : Nat → List Addr} {xs : List V} {F : List Addr} {Q : St → Hp → Prop}, Tg.puts ts ds s = some s' → SR K P B ia s σ H Fs → Reps K H ds xs F → (∀ a, a ∈ F → P a) → (∀ a, a ∈ F → B a) →
    (∀ σ' Fs', SR K P B ia s' σ' H Fs' → σ'.length = σ.length → (∀ j, j ∉ Tg.slotss ts → σ'[j]? = σ[j]?) → Q σ' H) → gTs K ts xs σ H Q
  | [], [], s, s', σ, Fs, xs, F, Q, h, r, hr, hp, hb, k => by
    cases hr
    rw [Tg.puts] at h; cases h
    rw [gTs]
    exact ⟨rfl, k σ Fs r rfl fun _ _ => rfl⟩
  | [], _ :: _, _, _, _, _, _, _, _, h, _, _, _, _, _ => by simp [Tg.puts] at h
  | _ :: _, [], _, _, _, _, _, _, _, h, _, _, _, _, _ => by simp [Tg.puts] at h
  | t :: ts, d :: ds, s, s', σ, Fs, xs, F, Q, h, r, hr, hp, hb, k => by
    rw [Tg.puts] at h
    obtain ⟨s1, e1, e2⟩ := Option.bind_eq_some_iff.mp h
    cases hr with
    | @cons _ v F1 _ vs G h1 h2 =>
      rw [gTs]
      refine ⟨v, vs, rfl, put_ok2 e1 r h1 (fun a m => hp a (List.mem_append_left _ m)) (fun a m => hb a (List.mem_append_left _ m)) fun σ1 Fs1 r1 l1 f1 => ?_⟩
      refine puts_ok2 e2 r1 h2 (fun a m => hp a (List.mem_append_right _ m)) (fun a m => hb a (List.mem_append_right _ m)) fun σ2 Fs2 r2 l2 f2 => k σ2 Fs2 r2 (l2.trans l1) fun j hj => ?_
      rw [Tg.slotss] at hj
      rw [f2 j fun m => hj (List.mem_append_right _ m), f1 j fun m => hj (List.mem_append_left _ m)]
end
abbrev EN : WX := fun _ _ _ _ => False
theorem tD_comp {K : PySem.W.Frag} {E : WX} {it : M (List D)} {t : Tg} {tt : M Bool} {te : M (Bool × D)} {vs : List Nat} (hs : ∀ i, i ∈ t.slots → i ∈ vs) (σ : St) (H : Hp) (Q : VK) (h : tD K E (compM it t tt te vs) σ H Q) : tLc (tI K E it) (gT K t) (tT K EN tt) (tD K EN te) vs σ H Q := by
  obtain ⟨P, B, ia, s, Fs, r, w⟩ := h
  refine ⟨P, B, ia, s, Fs, r, (Post.bind w).mono (fun _ _ q => q) fun ds s1 q J H1 P' Fs1 hP fr1 r1 ok p np => ?_⟩
  obtain ⟨inv, i0, keep, turn⟩ := ok
  have q := Post.bind q
  have npP : ¬ P' p := fun h => r1.tr p h np
  have Pne : ∀ {b}, P' b → b ≠ p := fun h e => npP (e ▸ h)
  let QX : Exn → S → Prop := fun x s' => ∀ cls dx H', RX K P B ia s' σ H H' x cls dx → E cls dx σ H'
  let QF : List D → S → Prop := fun acc s2 => ∀ v H', RV K P B ia s2 σ H H' true (.lst acc) v → Q v H'
  let W : Nat → Nat → Hp → Prop := fun i m H' => m + i = ds.length ∧ ∃ st Fs acc vacc F, (∀ i, i ∈ vs → ∀ x, st[i]? ≠ some (some x)) ∧ inv H' ∧ Fr P H H' ∧ H' p = some (.lst vacc) ∧ Reps K H' acc vacc F ∧ (∀ a, a ∈ F → B a ∧ a ≠ p) ∧
    SR K (fun b => (P' b ∨ b = p) ∨ b ∈ F) (fun b => B b ∧ b ≠ p) ia st (wipe σ vs) H' Fs ∧ Post QX QF (lcL t tt te vs (ds.drop i) acc st)
  have toWipe : ∀ {P0 B0 : Addr → Prop} {st : S} {σ0 : St} {H0 : Hp} {F0 : Nat → List Addr}, (∀ i, i ∈ vs → ∀ x, st[i]? ≠ some (some x)) → SR K P0 B0 ia st σ0 H0 F0 → SR K P0 B0 ia st (wipe σ0 vs) H0 F0 := fun hd r0 =>
    r0.cong (wipe_length _ _) fun i o d e => wipe_out fun m => hd i m _ e
  refine ⟨W, ⟨ds.length, by simp, ?_⟩, ?_⟩
  · obtain ⟨Fs2, r2, sub⟩ := r1.killAll vs
    have hd : ∀ i, i ∈ vs → ∀ x, (killAll s1 vs)[i]? ≠ some (some x) := fun i m x => killAll_in m x
    have fr2 : Fr P' H1 (upd H1 p (.lst [])) := Fr.new np r1.tr
    refine ⟨killAll s1 vs, Fs2, [], [], [], hd, keep _ _ i0 fr2, fr1.trans (fr2.mono hP), upd_same, .nil, fun a m => (by cases m), ?_, by simpa using q⟩
    have r3 := toWipe hd (r2.new np (o := .lst []))
    have r4 := r3.prot (F := [p]) (fun a m => by rw [List.mem_singleton.mp m, upd_same]; simp) (fun i o d a e n x m => by
      rw [List.mem_singleton.mp m] at x
      have hi : i ∉ vs := fun m => hd i m _ e
      rw [wipe_out hi] at x
      exact r2.ownTr e n x np)
    exact ⟨r4.len, r4.rep, fun i o d e n => let ⟨a, F, h1, h2, h3, h4, h5, h6⟩ := r4.own i o d e n; ⟨a, F, h1, h2, h3, h4, fun q => h5 (q.elim (fun q => q.imp (fun q => q) fun q => by rw [q]; exact List.mem_cons_self) fun m => by cases m), h6⟩,
      r4.iov, r4.dead, fun j a m => ⟨r4.inB j a m, fun e => r2.trF m (e ▸ np)⟩, fun b q => r4.tr b (q.elim (fun q => q.imp (fun q => q) fun q => by rw [q]; exact List.mem_cons_self) fun m => by cases m), fun b q => ⟨r4.nb b q, fun e => by rw [e, upd_same] at q; cases q⟩⟩
  · rintro i m H2 ⟨em, st, Fs2, acc, vacc, F, hd, i2, fr2, hp, hr, hb, r2, w2⟩
    obtain ⟨go, stop⟩ := turn i H2 i2
    cases e : ds[i]? with
    | none =>
      have hl : ds.length ≤ i := List.getElem?_eq_none_iff.mp e
      rw [List.drop_eq_nil_of_le hl, lcL] at w2
      refine .inl ⟨stop hl, w2 (.ref p) H2 ?_⟩
      have r3 : SR K (fun b => (P' b ∨ b = p) ∨ b ∈ F) (fun b => B b ∧ b ≠ p) ia st σ H2 Fs2 := r2.cong (by rw [wipe_length]) fun i o d e => (wipe_out fun m => hd i m _ e).symm
      refine ⟨p :: F, Fs2, .lst hp hr, fr2, fun a m => ?_, ?_, fun _ => ⟨p, F, rfl, rfl, .lst hp hr, fun m => (hb p m).2 rfl, fun q => npP (hP p q), fun j m => (r3.inB j p m).2 rfl⟩⟩
      · rcases List.mem_cons.mp m with rfl | m
        · exact r1.nb _ np
        · exact (hb a m).1
      · have r4 := r3.weak (P' := fun b => P b ∨ b ∈ p :: F) fun b q => q.elim (fun q => .inl (.inl (hP b q))) fun m => (List.mem_cons.mp m).elim (fun e => .inl (.inr e)) .inr
        exact ⟨r4.len, r4.rep, r4.own, r4.iov, r4.dead, fun j a m => (r4.inB j a m).1, r4.tr, fun b q => (r4.nb b q).1⟩
    | some d =>
      obtain ⟨g1, g2⟩ := go d e
      have hi : i < ds.length := (List.getElem?_eq_some_iff.mp e).1
      have ed : ds.drop i = d :: ds.drop (i + 1) := by
        rw [List.drop_eq_getElem_cons hi, (List.getElem?_eq_some_iff.mp e).2]
      rw [ed, lcL] at w2
      refine .inr ⟨g1, fun H' => W (i + 1) (m - 1) H', fun H' hN => ⟨m - 1, by omega, hN⟩, fun x H3 y => ?_⟩
      obtain ⟨hH, Fd, rep, hpd, hbd⟩ := g2 x H3 y
      have fr3 : Fr (fun b => (P' b ∨ b = p) ∨ b ∈ F) H2 H3 := by
        rcases hH with e | ⟨p', o, np', e⟩
        · subst e; exact Fr.refl
        · subst e; exact Fr.new np' r2.tr
      have r3 : SR K (fun b => (P' b ∨ b = p) ∨ b ∈ F) (fun b => B b ∧ b ≠ p) ia st (wipe σ vs) H3 Fs2 := by
        rcases hH with e | ⟨p', o, np', e⟩
        · subst e; exact r2
        · subst e; exact r2.new np'
      split at w2
      · exact w2.elim
      · rename_i s3 e3
        refine put_ok2 e3 r3 rep (fun a m => .inl (.inl (hpd a m))) (fun a m => ⟨hbd a m, Pne (hpd a m)⟩) fun σ4 Fs4 r4 l4 f4 => ?_
        have hw : wipe σ4 vs = wipe σ vs := by
          refine wipe_ext (by rw [l4, wipe_length]) fun j hj => ?_
          rw [f4 j fun m => hj (hs j m), wipe_out hj]
        refine ⟨hw, _, _, ia, s3, Fs4, r4, (nox_post w2).mono (fun _ _ q => q.elim) fun b s5 q5 H5 Fs5 fr5 r5 => ?_⟩
        have fr25 : Fr P H H5 := fr2.trans ((fr3.trans fr5).mono fun b h => .inl (.inl (hP b h)))
        have i5 : inv H5 := keep _ _ i2 ((fr3.trans fr5).mono fun b h => .inl (.inl h))
        have hp5 : H5 p = some (.lst vacc) := ((fr3.trans fr5).p p (.inl (.inr rfl))).trans hp
        have hr5 : Reps K H5 acc vacc F := Reps.keep (fr3.trans fr5).i hr fun a m => (fr3.trans fr5).p a (.inr m)
        cases b with
        | false =>
          rw [if_neg (by decide)] at q5
          refine iteF ?_
          obtain ⟨Fs6, r6, sub⟩ := r5.killAll vs
          have hd6 : ∀ i, i ∈ vs → ∀ x, (killAll s5 vs)[i]? ≠ some (some x) := fun i m x => killAll_in m x
          exact ⟨by omega, killAll s5 vs, Fs6, acc, vacc, F, hd6, i5, fr25, hp5, hr5, hb, by rw [← hw]; exact toWipe hd6 r6, q5⟩
        | true =>
          rw [if_pos rfl] at q5
          refine iteT ⟨_, _, ia, s5, Fs5, r5, (nox_post q5).mono (fun _ _ q => q.elim) fun y s6 q6 yv H6 rv => ?_⟩
          obtain ⟨G, Fs6, k1, k2, k3, k4, k5⟩ := rv
          split at q6
          · rename_i hz
            have hp6 : H6 p = some (.lst vacc) := (k2.p p (.inl (.inr rfl))).trans hp5
            have hr6 : Reps K H6 acc vacc F := Reps.keep k2.i hr5 fun a m => k2.p a (.inr m)
            refine ⟨vacc, hp6, by rw [← hr6.length]; exact hz, ?_⟩
            obtain ⟨Fs7, r7, sub⟩ := k4.killAll vs
            have hd7 : ∀ i, i ∈ vs → ∀ x, (killAll s6 vs)[i]? ≠ some (some x) := fun i m x => killAll_in m x
            have r8 := toWipe hd7 r7
            rw [hw] at r8
            have im : ∀ b o, H6 b = some o → Im o → upd H6 p (.lst (vacc ++ [yv])) b = some o := fun b o hx hi => by rw [upd_ne fun e => by subst e; rw [hp6] at hx; cases hx; exact hi]; exact hx
            have npF : ∀ a, a ∈ F ++ G → a ≠ p := fun a m => (List.mem_append.mp m).elim (fun m => (hb a m).2) fun m => (k3 a m).2
            have hr7 : Reps K (upd H6 p (.lst (vacc ++ [yv]))) (acc ++ [y.2]) (vacc ++ [yv]) (F ++ G) := Reps.keep im (hr6.append (Reps.one k1)) fun a m => upd_ne (npF a m)
            have fr6 : Fr P' H5 (upd H6 p (.lst (vacc ++ [yv]))) := ⟨fun b hb => by rw [upd_ne (Pne hb)]; exact k2.p b (.inl (.inl hb)), fun b o hb hi => im b o (k2.i b o hb hi) hi⟩
            refine ⟨by omega, killAll s6 vs, Fs7, acc ++ [y.2], vacc ++ [yv], F ++ G, hd7, keep _ _ i5 fr6, fr25.trans (fr6.mono hP), upd_same, hr7, fun a m => (List.mem_append.mp m).elim (hb a) (k3 a), ?_, q6⟩
            have r9 : SR K (fun b => (P' b ∨ b = p) ∨ b ∈ F ++ G) (fun b => B b ∧ b ≠ p) ia (killAll s6 vs) (wipe σ vs) H6 Fs7 := r8.weak fun b q => q.elim (fun q => .inl (.inl q)) fun m => (List.mem_append.mp m).elim (fun m => .inl (.inr m)) .inr
            have npS : ∀ j a, a ∈ Fs7 j → a ≠ p := fun j a m => (r9.inB j a m).2
            refine ⟨r9.len, fun j o d e => let ⟨v, h1, h2⟩ := r9.rep j o d e; ⟨v, h1, h2.keep im fun a m => upd_ne (npS j a m)⟩,
              fun j o d e n => let ⟨a, F, h1, h2, h3, h4, h5, h6⟩ := r9.own j o d e n; ⟨a, F, h1, h2, h3.keep im fun b m => upd_ne (npS j b (by rw [h2]; exact m)), h4, h5, h6⟩, r9.iov, r9.dead, r9.inB, fun b q => ?_, fun b q => ?_⟩
            · by_cases hbp : b = p
              · subst hbp; rw [upd_same]; simp
              · rw [upd_ne hbp]; exact r9.tr b q
            · by_cases hbp : b = p
              · subst hbp; rw [upd_same] at q; cases q
              · rw [upd_ne hbp] at q; exact r9.nb b q
          · exact q6.elim
section
variable {X : Cx}
theorem _root_.L2.PTs.imp {ifs : List Expr} {t t' : TT} (h : PTs X ifs t) (q : ∀ σ H Q, t' σ H Q → t σ H Q) : PTs X ifs t' := ⟨fun pins s σ H Q I w => h.run pins s σ H Q I (q σ H Q w)⟩
theorem dts_nil {E : WX} {K : PySem.W.Frag} : PTs X [] (tT K E yesM) := pts_nil.imp fun σ H Q h => by
  obtain ⟨P, B, ia, s, Fs, r, w⟩ := h
  exact w H Fs Fr.refl r
end
/-- a comprehension; h: pe_lc .. -/
theorem dm_comp {X : Cx} {E : WX} {e : Expr} {it : M (List D)} {t : Tg} {tt : M Bool} {te : M (Bool × D)} {vs : List Nat} (h : PE X e (tLc (tI X.K E it) (gT X.K t) (tT X.K EN tt) (tD X.K EN te) vs)) (hs : t.slots.all (fun i => vs.contains i) = true := by rfl) : PE X e (tD X.K E (compM it t tt te vs)) :=
  h.imp (tD_comp fun i m => by simpa using List.all_eq_true.mp hs i m)
/-- y = [..]; h: ps_setLc .. -/
theorem ds_comp {X : Cx} {E : WX} {st : Stmt} {i : Nat} {it : M (List D)} {t : Tg} {tt : M Bool} {te : M (Bool × D)} {vs : List Nat} (h : PS X st (tAsg (tLc (tI X.K E it) (gT X.K t) (tT X.K EN tt) (tD X.K EN te) vs) (gName i))) (hs : t.slots.all (fun i => vs.contains i) = true := by rfl) :
    PS X st (tS X.K E (setM i (compM it t tt te vs))) :=
  h.imp fun Dn σ H w => tD_comp (fun i m => by simpa using List.all_eq_true.mp hs i m) _ _ _ (tS_set Dn σ H w)
end PV

/-! PV: methods of texts, dict.get, chains of comparisons. -/
namespace PV
open PySem PySem.Spec L2

/-- a text, at once -/
def strM (a : Opd) : M (Bool × D) := op1 a fun x s => match x with
  | .str z => .ok (false, .str z) s
  | _ => .stuck
theorem tD_str {K : PySem.W.Frag} {E : WX} {a : Opd} {σ : St} {H : Hp} {Q : VK} (h : tD K E (strM a) σ H Q) : rdO K E a σ H fun x H1 => ∃ i, x = .str i ∧ Q (.str i) H1 := by
  obtain ⟨P, B, ia, s, Fs, r, w⟩ := h
  refine rd1 r ((op1_post w).mono (fun _ _ q => q) fun d s' q x H' F Fs' ov fr r' => ?_)
  split at q
  · exact ⟨_, ov.str_inv, q _ _ (.flat .str fr r')⟩
  · exact q.elim
/-- a method of a text: g of the text and the arguments -/
def methS (g : Str → List D → Option (Bool × D)) (o : Opd) (as : List Opd) : M (Bool × D) := opsM (.ex (strM o) :: as) fun ds s => match ds with
  | .str x :: ds => (match g x ds with
    | some r => .ok r s
    | none => .stuck)
  | _ => .stuck
/-- g is what the rule r asks -/
def OpS (K : PySem.W.Frag) (g : Str → List D → Option (Bool × D)) (r : V → List V → Hp → VK → Prop) : Prop :=
  ∀ {P B : Addr → Prop} {ia : Nat → Addr} {s : S} {σ : St} {H H0 : Hp} {Fs : Nat → List Addr} {x : Str} {os : List Opd} {ds : List D} {vs : List V} {Gs : List (List Addr)} {q : Bool × D} {Q : VK}, SR K P B ia s σ H Fs → OVs K B s σ H os ds vs Gs → Fr P H0 H → g x ds = some q →
    (∀ v H', RV K P B ia s σ H0 H' q.1 q.2 v → Q v H') → r (.str x) vs H Q
theorem rdMeth {K : PySem.W.Frag} {E : WX} {g : Str → List D → Option (Bool × D)} {r : V → List V → Hp → VK → Prop} (hr : OpS K g r) {o : Opd} {as : List Opd} (σ : St) (H : Hp) (Q : VK) (h : tD K E (methS g o as) σ H Q) :
    rdO K E o σ H fun x H1 => ∃ z, x = .str z ∧ rdOs K E as σ H1 fun xs H2 => r (.str z) xs H2 Q := by
  obtain ⟨P, B, ia, s, Fs, R, w⟩ := h
  have key : rdOs K E (.ex (strM o) :: as) σ H (fun vs H' => match vs with | .str z :: xs => r (.str z) xs H' Q | _ => True) := by
    refine rdOps R w (fun _ _ q => q) fun ds s' vs H' Gs Fs' q ov fr r' => ?_
    cases ov with
    | cons o1 _ _ t =>
      split at q
      · rename_i x ds' heq
        cases heq
        rw [o1.str_inv]
        split at q
        · rename_i e; exact hr r' t fr e q
        · exact q.elim
      · exact q.elim
  exact rdO_mono (tD_str key) fun x H1 ⟨z, e, k⟩ => ⟨z, e, k⟩
theorem tD_methB {K : PySem.W.Frag} {E : WX} {g : Str → List D → Option (Bool × D)} {r : V → List V → Hp → VK → Prop} (hr : OpS K g r) {o : Opd} {as : List Opd} (σ : St) (H : Hp) (Q : VK) (h : tD K E (methS g o as) σ H Q) : tBM K "str" r (rdO K E o) (rdOs K E as) σ H Q :=
  rdO_mono (rdMeth hr σ H Q h) fun x H1 ⟨z, e, k⟩ => by subst e; exact ⟨rfl, k⟩
theorem tD_meth1 {K : PySem.W.Frag} {E : WX} {g : Str → List D → Option (Bool × D)} {r : V → List V → Hp → VK → Prop} (hr : OpS K g r) {o a : Opd} (σ : St) (H : Hp) (Q : VK) (h : tD K E (methS g o [a]) σ H Q) : tM1 r (rdO K E o) (rdO K E a) σ H Q :=
  rdO_mono (rdMeth hr σ H Q h) fun x H1 ⟨z, e, k⟩ => by subst e; exact ⟨⟨z, rfl⟩, k⟩
section
variable {X : Cx} {E : WX} {e : Expr}
theorem dm_methB {g : Str → List D → Option (Bool × D)} {r : V → List V → Hp → VK → Prop} {o : Opd} {as : List Opd} (h : PE X e (tBM X.K "str" r (rdO X.K E o) (rdOs X.K E as))) (hr : OpS X.K g r) : PE X e (tD X.K E (methS g o as)) := h.imp (tD_methB hr)
theorem dm_meth1 {g : Str → List D → Option (Bool × D)} {r : V → List V → Hp → VK → Prop} {o a : Opd} (h : PE X e (tM1 r (rdO X.K E o) (rdO X.K E a))) (hr : OpS X.K g r) : PE X e (tD X.K E (methS g o [a])) := h.imp (tD_meth1 hr)
end
/-- x.find(y, i) -/
def findD (x : Str) : List D → Option (Bool × D)
  | [.str y, .int i] => some (false, .int (Txt.find3 x y i))
  | _ => none
theorem ops_find {K : PySem.W.Frag} : OpS K findD fun x xs H Q => ∃ (a b : Str) (i : Int), x = .str a ∧ xs = [.str b, .int i] ∧ Q (.int (Txt.find3 a b i)) H := by
  intro P B ia s σ H H0 Fs x os ds vs Gs q Q R ov fr e k
  unfold findD at e
  split at e
  · cases e
    cases ov with
    | cons o1 _ _ t =>
      cases t with
      | cons o2 _ _ t =>
        cases t
        exact ⟨_, _, _, rfl, by rw [o1.str_inv, o2.int_inv], k _ _ (.flat .int fr R)⟩
  · cases e
/-- texts of a list -/
def txts : List D → Option (List Str)
  | [] => some []
  | .str x :: ds => (txts ds).map fun xs => x :: xs
  | _ => none
theorem Reps.txts {K : PySem.W.Frag} {H : Hp} : ∀ {ds : List D} {vs : List V} {F : List Addr} {xs : List Str}, Reps K H ds vs F → PV.txts ds = some xs → vs = xs.map V.str ∧ F = []
  | [], _, _, _, h, e => by cases h; cases e; exact ⟨rfl, rfl⟩
  | d :: ds, _, _, _, h, e => by
    cases h with
    | cons h1 h2 =>
      cases h1 with
      | str =>
        rw [PV.txts] at e
        obtain ⟨xs', e1, e2⟩ := Option.map_eq_some_iff.mp e
        subst e2
        obtain ⟨h3, h4⟩ := h2.txts e1
        exact ⟨by rw [h3]; rfl, by rw [h4]; rfl⟩
      | _ => cases e
theorem reps_txts {K : PySem.W.Frag} {H : Hp} : ∀ xs : List Str, Reps K H (xs.map D.str) (xs.map V.str) []
  | [] => .nil
  | x :: xs => by simpa using Reps.cons (F := []) Rep.str (reps_txts xs)
/-- sep.join(xs) -/
def joinD (x : Str) : List D → Option (Bool × D)
  | [.lst ds] => (txts ds).bind fun ys => if (ys.map (·.length)).sum + ys.length * x.length ≤ 16777216 then some (false, .str (Txt.join x ys)) else none
  | [.tup ds] => (txts ds).bind fun ys => if (ys.map (·.length)).sum + ys.length * x.length ≤ 16777216 then some (false, .str (Txt.join x ys)) else none
  | _ => none
theorem ops_join {K : PySem.W.Frag} : OpS K joinD fun x xs H Q => ∃ a p, ∃ ys : List Str, x = .str a ∧ xs = [.ref p] ∧ (SqL K H p (ys.map V.str) ∨ SqT K H p (ys.map V.str)) ∧ (ys.map (·.length)).sum + ys.length * a.length ≤ 16777216 ∧ Q (.str (Txt.join a ys)) H := by
  intro P B ia s σ H H0 Fs x os ds vs Gs q Q R ov fr e k
  unfold joinD at e
  split at e
  · obtain ⟨ys, e1, e2⟩ := Option.bind_eq_some_iff.mp e
    split at e2
    · rename_i hz
      cases e2
      cases ov with
      | cons o1 _ _ t =>
        cases t
        obtain ⟨a, ws, G, rfl, h1, h2, _, _⟩ := o1.lst_inv
        obtain ⟨rfl, _⟩ := h2.txts e1
        exact ⟨_, _, ys, rfl, rfl, .inl (SqL.of h1), hz, k _ _ (.flat .str fr R)⟩
    · cases e2
  · obtain ⟨ys, e1, e2⟩ := Option.bind_eq_some_iff.mp e
    split at e2
    · rename_i hz
      cases e2
      cases ov with
      | cons o1 _ _ t =>
        cases t
        obtain ⟨a, ws, rfl, h1, h2, _⟩ := o1.tup_inv
        obtain ⟨rfl, _⟩ := h2.txts e1
        exact ⟨_, _, ys, rfl, rfl, .inr h1, hz, k _ _ (.flat .str fr R)⟩
    · cases e2
  · cases e
/-- x.split(y) -/
def splitD (x : Str) : List D → Option (Bool × D)
  | [.str y] => if (y.length == 0) = false ∧ x.length + 2 ≤ sizeLine then some (true, .lst ((Txt.split x y).map D.str)) else none
  | _ => none
theorem ops_split {K : PySem.W.Frag} : OpS K splitD fun x xs H Q => ∃ a b, x = .str a ∧ xs = [.str b] ∧ (b.length == 0) = false ∧ a.length + 2 ≤ sizeLine ∧ rNewStrs (Txt.split a b) H Q := by
  intro P B ia s σ H H0 Fs x os ds vs Gs q Q R ov fr e k
  unfold splitD at e
  split at e
  · split at e
    · rename_i hz
      cases e
      cases ov with
      | cons o1 _ _ t =>
        cases t
        exact ⟨_, _, rfl, by rw [o1.str_inv], hz.1, hz.2, fun p np => k _ _ (.lst (reps_txts _) .nil (fun _ m => nomatch m) fr R np)⟩
    · cases e
  · cases e

/-! ### d.get(k, x) at a slot -/
def isDct (s : S) (i : Nat) : Bool := match s[i]? with
  | some (some (_, .dct _)) => true
  | _ => false
def dgetM (i : Nat) (k x : M (Bool × D)) : M (Bool × D) := fun s => if isDct s i = true then opsM [.ex k, .ex x] (fun ds s1 => match s1[i]?, ds with
  | some (some (_, .dct kds)), [kk, y] => (match kk.key with
    | some key => .ok (false, (kget kds key).getD y) s1
    | none => .stuck)
  | _, _ => .stuck) s else .stuck
theorem tD_dget {K : PySem.W.Frag} {E : WX} {i : Nat} {k x : M (Bool × D)} (σ : St) (H : Hp) (Q : VK) (h : tD K E (dgetM i k x) σ H Q) : tDGet2 (tVar i) (tD K E k) (tD K E x) σ H Q := by
  obtain ⟨P, B, ia, s, Fs, R, w⟩ := h
  unfold dgetM at w
  split at w
  · rename_i hd
    unfold isDct at hd
    split at hd
    · rename_i o kds e
      obtain ⟨v, F0, hv, ov⟩ := R.opd e
      obtain ⟨a, kvs, G0, rfl, h1, _⟩ := ov.dct_inv
      refine ⟨.ref a, hv, a, rfl, .inl ⟨kvs, .inl h1⟩, ?_⟩
      have key : rdOs K E [.ex k, .ex x] σ H (fun vs H' => match vs with | [y, z] => ∃ o, DGet H' a y o ∧ Q (o.getD z) H' | _ => False) := by
        refine rdOps R w (fun _ _ q => q) fun ds s' vs H' Gs Fs' q ovs fr r' => ?_
        split at q
        · rename_i o' kds' kk y e1
          split at q
          · rename_i key ek
            cases ovs with
            | cons o1 n1 _ t =>
              cases t with
              | cons o2 n2 _ t =>
                cases t
                obtain ⟨v', F1, hv', ov'⟩ := r'.opd e1
                rw [hv] at hv'; cases hv'
                obtain ⟨a', kvs', G1, ea, h1', h2', no, ib⟩ := ov'.dct_inv
                cases ea
                refine ⟨valV kvs' key, .inl ⟨kvs', key, .inl h1', o1.rep.key ek, rfl⟩, ?_⟩
                rcases h2'.get key with ⟨q1, q2⟩ | ⟨d', w', G2, q1, q2, q3, q4⟩
                · rw [q1] at q; rw [q2]
                  exact q _ _ (.part o2.rep (n2 rfl) o2.inB fr r')
                · rw [q1] at q; rw [q2]
                  exact q _ _ (.part q3 (no.sub q4) (fun b m => ib b (q4 b m)) fr r')
          · exact q.elim
        · exact q.elim
      exact key
    · cases hd
  · exact w.elim
theorem dm_dget {X : Cx} {E : WX} {e : Expr} {i : Nat} {k x : M (Bool × D)} (h : PE X e (tDGet2 (tVar i) (tD X.K E k) (tD X.K E x))) : PE X e (tD X.K E (dgetM i k x)) := h.imp tD_dget

/-! ### a < b < c -/
theorem tD_chain {K : PySem.W.Frag} {E : WX} {r r' : R2} {g g' : D → D → Option (Bool × D)} {fa fb fc : M (Bool × D)} (hg : OpD K g r) (hg' : OpD K g' r') (σ : St) (H : Hp) (Q : VK) (h : tD K E (chainM g g' fa fb fc) σ H Q) : tChain r r' (tD K E fa) (tD K E fb) (tD K E fc) σ H Q := by
  obtain ⟨P, B, ia, s, Fs, R, w⟩ := h
  refine ⟨P, B, ia, s, Fs, R, (Post.bind w).mono (fun _ _ q => q) fun x s1 q v H1 rv => ?_⟩
  obtain ⟨F, Fs1, h1, h2, h3, h4, h5⟩ := rv
  refine ⟨_, B, ia, s1, Fs1, h4, (Post.bind q).mono (fun y s2 q cls dx H2 rx => q cls dx H2 (rx.weak h2 fun b m => .inl m)) fun y s2 q v2 H2 rv2 => ?_⟩
  obtain ⟨G, Fs2, g1, g2, g3, g4, g5⟩ := rv2
  have f02 : Fr P H H2 := h2.trans (g2.mono fun b m => .inl m)
  have r2 : SR K P B ia s2 σ H2 Fs2 := g4.weak fun b m => .inl (.inl m)
  have o1 : OV K B s2 σ H2 x.2 v F := ⟨h1.keep g2.i fun a m => g2.p a (.inr m), h3, .inl (g4.noOwn fun a m => .inl (.inr m))⟩
  have o2 : OV K B s2 σ H2 y.2 v2 G := ⟨g1, g3, .inl (g4.noOwn fun a m => .inr m)⟩
  split at q
  · rename_i z eg
    refine hg (g4.weak (P' := fun b => P b ∨ b ∈ G) fun b m => m.elim (fun m => .inl (.inl m)) .inr) o1 o2 (H0 := H2) Fr.refl eg fun w H3 rv3 => ?_
    obtain ⟨F3, Fs3, k1, k2, k3, k4, k5⟩ := rv3
    have ew : w = .bl true := by cases k1; rfl
    refine ⟨true, ew, iteT ⟨_, B, ia, s2, Fs3, k4.weak (P' := fun b => P b ∨ b ∈ G) fun b m => .inl m, (Post.bind q).mono (fun y s4 q cls dx H4 rx => q cls dx H4 (rx.weak (f02.trans (k2.mono fun b m => .inl m)) fun b m => .inl m)) fun y3 s4 q v4 H4 rv4 => ?_⟩⟩
    obtain ⟨F4, Fs4, m1, m2, m3, m4, m5⟩ := rv4
    split at q
    · rename_i e4
      exact hg' (m4.weak fun b m => .inl (.inl m)) ⟨(g1.keep k2.i fun a m => k2.p a (.inr m)).keep m2.i fun a m => m2.p a (.inr m), g3, .inl (m4.noOwn fun a m => .inl (.inr m))⟩ ⟨m1, m3, .inl (m4.noOwn fun a m => .inr m)⟩ (f02.trans ((k2.mono fun b m => .inl m).trans (m2.mono fun b m => .inl m))) e4 q
    · exact q.elim
  · rename_i z eg
    refine hg r2 o1 o2 f02 eg fun w H3 rv3 => ?_
    have ew : w = .bl false := by obtain ⟨F3, Fs3, k1, _⟩ := rv3; cases k1; rfl
    refine ⟨false, ew, iteF (q _ _ ?_)⟩
    obtain ⟨F3, Fs3, k1, k2, k3, k4, k5⟩ := rv3
    exact .flat .bl k2 (k4.weak fun b m => .inl m)
  · exact q.elim
theorem de_chain {X : Cx} {E : WX} {a b c : Expr} {op op' : CmpOp} {r r' : R2} {g g' : D → D → Option (Bool × D)} {fa fb fc : M (Bool × D)} {pos : Pos} (ho : OpR X (compareOp op) r) (ho' : OpR X (compareOp op') r') (hg : OpD X.K g r) (hg' : OpD X.K g' r') (ha : PE X a (tD X.K E fa)) (hb : PE X b (tD X.K E fb)) (hc : PE X c (tD X.K E fc))
    (hm : lastMarks [op, op'] [b, c] = false := by with_unfolding_all rfl) : PE X (.Compare a [op, op'] [b, c] pos) (tD X.K E (chainM g g' fa fb fc)) := (pe_chain ho ho' ha hb hc hm).imp (tD_chain hg hg')
end PV

/-! PV: what a printed text leans on: the module's constants, the defs' promises by level, what is not walked. -/
namespace PV
open PySem PySem.Spec L2
def stkM {α : Type} : M α := fun _ => .stuck
theorem ds_never {X : Cx} {E : WX} {st : Stmt} : PS X st (tS X.K E stkM) := ps_never.imp fun Dn σ H h => by
  obtain ⟨P, B, ia, s, Fs, r, w⟩ := h
  exact w.elim

/-- == of two of a kind at once; else as data -/
def eqS (neg : Bool) : D → D → Option (Bool × D)
  | .int i, .int j => some (false, .bl (if neg then !decide (i = j) else decide (i = j)))
  | .str i, .str j => some (false, .bl (if neg then !decide (i = j) else decide (i = j)))
  | .bl i, .bl j => some (false, .bl (if neg then !decide (i = j) else decide (i = j)))
  | x, y => eqDD neg x y
theorem opd_eqS {K : PySem.W.Frag} : OpD K (eqS false) (fun x y H Q => rEq x y H Q ∨ rEqD K x y H Q) := by
  intro P B ia s σ H H0 Fs dx dy q x y F G Q R o1 o2 fr e k
  unfold eqS at e
  split at e
  · cases e
    rw [o1.int_inv, o2.int_inv]
    refine .inl ⟨rfl, ?_⟩
    have := k _ _ (RV.flat .bl fr R)
    simpa using this
  · cases e
    rw [o1.str_inv, o2.str_inv]
    refine .inl ⟨rfl, ?_⟩
    have := k _ _ (RV.flat .bl fr R)
    simpa using this
  · cases e
    rw [o1.bl_inv, o2.bl_inv]
    refine .inl ⟨rfl, ?_⟩
    have := k _ _ (RV.flat .bl fr R)
    simpa using this
  · exact .inr (opd_eq R o1 o2 fr e k)
theorem opd_neS {K : PySem.W.Frag} : OpD K (eqS true) (fun x y H Q => rNe x y H Q ∨ rNeD K x y H Q) := by
  intro P B ia s σ H H0 Fs dx dy q x y F G Q R o1 o2 fr e k
  unfold eqS at e
  split at e
  · cases e
    rw [o1.int_inv, o2.int_inv]
    refine .inl ⟨rfl, ?_⟩
    have := k _ _ (RV.flat .bl fr R)
    simpa using this
  · cases e
    rw [o1.str_inv, o2.str_inv]
    refine .inl ⟨rfl, ?_⟩
    have := k _ _ (RV.flat .bl fr R)
    simpa using this
  · cases e
    rw [o1.bl_inv, o2.bl_inv]
    refine .inl ⟨rfl, ?_⟩
    have := k _ _ (RV.flat .bl fr R)
    simpa using this
  · exact .inr (opd_ne R o1 o2 fr e k)
theorem or_eqS {X : Cx} (hu : X.A.units + 64 < cLine) : OpR X (compareOp .Eq) (fun x y H Q => rEq x y H Q ∨ rEqD X.K x y H Q) := OpR.or op_eq (op_eqD hu)
theorem or_neS {X : Cx} (hu : X.A.units + 64 < cLine) : OpR X (compareOp .NotEq) (fun x y H Q => rNe x y H Q ∨ rNeD X.K x y H Q) := OpR.or op_ne (op_neD hu)
/-- a bool as a test -/
def truB (f : M (Bool × D)) : M Bool := fun s => (f s).bind fun r s' => match r.2 with
  | .bl b => .ok b s'
  | _ => .stuck
theorem tTest_of {K : PySem.W.Frag} {E : WX} {f : M (Bool × D)} {t : TE} (ht : ∀ σ H Q, tD K E f σ H Q → t σ H Q) (σ : St) (H : Hp) (Q : Bool → Hp → Prop) (h : tT K E (truB f) σ H Q) : tTest t σ H Q := by
  obtain ⟨P, B, ia, s, Fs, r, w⟩ := h
  refine ht _ _ _ ⟨P, B, ia, s, Fs, r, (Post.bind w).mono (fun _ _ q => q) fun a s' q v H' rv => ?_⟩
  obtain ⟨fr, d⟩ := a
  obtain ⟨F, Fs', ov, f1, r'⟩ := rv.ov
  cases d with
  | bl b => exact ⟨b, ov.bl_inv, q H' Fs' f1 r'⟩
  | _ => exact q.elim
section
variable {X : Cx} {E : WX} {a b c : Expr} {oa ob : Opd} {pos : Pos}
theorem dt_cmp {op : CmpOp} {g : D → D → Option (Bool × D)} {r : R2} (ho : OpR X (compareOp op) r) (hd : OpD X.K g r) (ha : PE X a (rdO X.K E oa)) (hb : PE X b (rdO X.K E ob)) (hm : behindInMarks op b = false) : PT X (.Compare a [op] [b] pos) (tT X.K E (truB (binM g oa ob))) :=
  (pt_cmpR ho ha hb hm).imp (tTest_of (tD_op hd))
theorem dt_chain {op op' : CmpOp} {r r' : R2} {g g' : D → D → Option (Bool × D)} {fa fb fc : M (Bool × D)} (ho : OpR X (compareOp op) r) (ho' : OpR X (compareOp op') r') (hg : OpD X.K g r) (hg' : OpD X.K g' r') (ha : PE X a (tD X.K E fa)) (hb : PE X b (tD X.K E fb)) (hc : PE X c (tD X.K E fc))
    (hm : lastMarks [op, op'] [b, c] = false := by with_unfolding_all rfl) : PT X (.Compare a [op, op'] [b, c] pos) (tT X.K E (truB (chainM g g' fa fb fc))) := (pt_chain ho ho' ha hb hc hm).imp (tTest_of (tD_chain hg hg'))
end
/-- the module's x holds what d says, and nobody changes it -/
def Gc (K : PySem.W.Frag) (mg : Str → Option Value) (x : Str) (d : D) : Prop := ∃ (u : Value) (v : V), mg x = some u ∧ RelV v u ∧ ∀ H, Rep K H d v []
section
variable {K : PySem.W.Frag} {mg : Str → Option Value} {x : Str}
theorem Gc.str {z : Str} (h : ∃ t, mg x = some (.str z t)) : Gc K mg x (.str z) := let ⟨t, e⟩ := h; ⟨_, .str z, e, ⟨t, rfl⟩, fun _ => .str⟩
theorem Gc.int {i : Int} (h : ∃ t, mg x = some (.int i t)) : Gc K mg x (.int i) := let ⟨t, e⟩ := h; ⟨_, .int i, e, ⟨t, rfl⟩, fun _ => .int⟩
theorem reps_strs {H : Hp} : ∀ xs : List Str, Reps K H (xs.map D.str) (xs.map V.str) []
  | [] => .nil
  | y :: ys => by
    have h := Reps.cons (Rep.str (K := K) (H := H) (x := y)) (reps_strs (H := H) ys)
    exact h
theorem Gc.strs {a : Addr} {xs : List Str} (h : mg x = some (.ref a)) (s : ∀ H, SqT K H a (xs.map V.str)) : Gc K mg x (.tup (xs.map D.str)) := ⟨_, .ref a, h, rfl, fun H => .tup (s H) (reps_strs xs)⟩
end
theorem de_glo {X : Cx} {E : WX} {x : Str} {d : D} {pos : Pos} (h : Gc X.K X.mg x d) (hg : Gl X x := by rfl) (hd : (x == ("__debug__" : Str)) = false := by decide) : PE X (.Name x pos) (tD X.K E (constM d)) := by
  obtain ⟨u, v, h1, h2, h3⟩ := h
  exact de_const (pe_glob hg h1 h2 hd) h3
theorem de_ty {X : Cx} {E : WX} {x : Str} {n : String} {pos : Pos} (h : X.mg x = none) (hg : Gl X x := by rfl) (hv : bootBuiltins x = some (.type n) := by rfl) (hn : x ≠ "__name__" := by decide) (hd : (x == ("__debug__" : Str)) = false := by decide) : PE X (.Name x pos) (tD X.K E (constM (.ty n))) :=
  de_const (v := .ty n) (pe_bltn hg h hv rfl hn hd) fun _ => .ty
/-- the def x keeps its promise by F at level k -/
def Kn (P : Program) (w : World) (K : PySem.W.Frag) (mg : Str → Option Value) (base : Heap) (k : Nat) (x : Str) (ps : List Str) (ios : List Nat) (F : FS) : Prop :=
  ∃ (f : Addr) (fd : FuncData), mg x = some (.ref f) ∧ PySem.W.keepIn K (.ref f) = true ∧ Binds K fd ps [] ∧ FnOk P w K mg base (L2.CX P w) k f fd ps (spF K ios ps.length F)
def stkF : FS := fun _ => .stuck
section
variable {P : Program} {w : World} {K : PySem.W.Frag} {mg : Str → Option Value} {base : Heap} {k : Nat} {x : Str} {ps : List Str} {ios : List Nat} {f : Addr} {fd : FuncData} {F : FS}
theorem Kn.zero (h1 : mg x = some (.ref f)) (h2 : PySem.W.keepIn K (.ref f) = true) (h3 : Binds K fd ps []) : Kn P w K mg base k x ps ios stkF :=
  ⟨f, fd, h1, h2, h3, fun vs H Q E h => h.1, fun A outer s H args us vs Q E hr h0 hb hv h => by
    obtain ⟨_, ds, Fa, _, _, _, _, h⟩ := h
    exact h.elim⟩
end
theorem de_callK {X : Cx} {E : WX} {k : Nat} {x : Str} {p pos : Pos} {e : Expr} {es : List Expr} {ps : List Str} {ios : List Nat} {F : FS} {os : List Opd} (G : Kn X.prog X.w X.K X.mg X.base k x ps ios F) (hr : Room k X.A) (tk : Takes X E)
    (ha : PAd X E (e :: es) os) (hg : Gl X x := by rfl) (hio : ioPos os 0 = ios := by rfl) (hn : os.length = ps.length := by rfl) (hdb : (x == ("__debug__" : Str)) = false := by decide) (he : starEach (e :: es) X.env = (false, eval e X.env) :: starEach es X.env := by rfl) (hpl : (backTo pos (starEach es X.env)).any (·.1) = false := by rfl) :
    PE X (.Call (.Name x p) (e :: es) [] pos) (tD X.K E (callM F os)) := by
  obtain ⟨f, fd, h1, h2, h3, h4⟩ := G
  exact de_call h4 hr hg h1 h2 h3 tk ha hio hn hdb he hpl
theorem sq_fz {K : PySem.W.Frag} {H : Hp} {a : Addr} {vs : List V} (h : SqL K H a vs) (o : Only H) : Fz K H a vs := by
  rcases h with (h | ⟨u, h⟩) | h
  · rcases o a with e | ⟨u, xs, e⟩
    · rw [h] at e; cases e
    · rw [h] at e; cases e
  · exact .inl ⟨u, h⟩
  · exact .inr h
theorem reps_ints {K : PySem.W.Frag} {H : Hp} : ∀ xs : List Int, Reps K H (xs.map D.int) (xs.map V.int) []
  | [] => .nil
  | y :: ys => by
    have h := Reps.cons (Rep.int (K := K) (H := H) (i := y)) (reps_ints (H := H) ys)
    exact h
/-- a law's promise from its function -/
theorem law_sp {K : PySem.W.Frag} {F : FS} {ns : List Int} (h : ∃ fr, F [.fro (ns.map .int)] = .ret fr (.bl true) []) {H : Hp} {a : Addr} (o : Only H) (q : SqL K H a (ns.map V.int)) :
    spF K [] 1 F [.ref a] H (fun v _ => v = .bl true) fun _ _ _ => False := by
  refine ⟨rfl, [.fro (ns.map .int)], fun _ => [], rfl, fun i d e => ?_, fun _ _ => rfl, fun j m => (nomatch m), ?_⟩
  · cases i with
    | zero => cases e; exact ⟨_, rfl, .lsz (sq_fz q o) (reps_ints ns)⟩
    | succ i => simp at e
  · obtain ⟨fr, e⟩ := h
    rw [e]
    intro v H' G Go fv
    have r := fv.rep
    cases r
    rfl
theorem cx_no {P : Program} {w : World} (H : Hp) (s : Shared) (e : Value) (s' : Shared) (h : L2.CX P w [] H s (fun _ _ _ => False) e s') : False := by
  obtain ⟨_, _, _, _, _, _, _, _, _, _, _, _, z⟩ := h
  exact z
/-- the law's end: its def keeps the promise by f, f says True -/
theorem walk_pv {l : PySem.W.OpenLaw} {k : Nat} {q : Program} {loose : List Str} {XP : (Str → Option Value) → Heap → Prop} {YP : World → Heap → Prop} {d : DefRec} {x : Str} (most : l.most = some 63) (nodef : d.params.defaults = []) (room : Room k PySem.callerA)
    (all : ∀ (w : World) (mg : Str → Option Value) (fa : Addr) (h : Heap), YP w h → h.Ns mainGlobals mg → mg d.name = some (.ref fa) → ∃ (K : PySem.W.Frag) (fd : FuncData) (f : FS), K.In h ∧ (∀ (s : Shared) (u : Value), BindsTo s fd ⟨[u], []⟩ [(x, u)]) ∧
      (∀ ns : List Int, ns.length ≤ 63 → (∀ i ∈ ns, Builtin.Int.intBits i ≤ 1048576) → ∃ fr, f [.fro (ns.map .int)] = .ret fr (.bl true) []) ∧ ∀ base : Heap, K.In base → base.Ns mainGlobals mg → FnOk l.prog w K mg base (L2.CX l.prog w) k fa fd [x] (spF K [] 1 f)) :
    PySem.W.WalkO q loose XP YP l.row.toRowW d [] (fun f vs => PySem.call f vs) := by
  refine Att.attach_callB most nodef fun w _ s1 mg _ fa _ _ _ _ a _ ns gr yy _ _ _ i4 i5 i6 i7 i8 i9 => ?_
  obtain ⟨K, fd, f, kin, bnd, val, keeps⟩ := all w mg fa _ yy gr.T.g i4
  exact law_call kin gr.T.g gr.T.b gr.T.builtins gr.T.nolimit i9 i5 i6 (Nat.le_trans i7 (by decide)) room keeps bnd (fun _ only sq => law_sp (val ns i7 i8) only sq) fun H e s' z => cx_no H s1 e s' z
end PV

/-! PV: the tape of the laws' draws. -/
namespace PV
open PySem PySem.Spec L2
noncomputable def tapeB : M Fl :=
  (seqM (setM 1 (compM (itM (varM 0)) (.nm 3) yesM (unM absD (.ex (unM toInt (.sl 3)))) [3]))
    (seqM (setM 2 (constM (.int 7)))
    (seqM (forM (itM (varM 1)) (.nm 3) (setM 2 (binM modD (.ex (unM toInt (.ex (binM addD (.ex (binM mulD (.sl 2) (.ex (constM (.int 31))))) (.sl 3))))) (.ex (constM (.int 2147483647))))))
    (retM (dispM [((constM (.str "cells")), (varM 1)), ((constM (.str "at")), (constM (.int 0))), ((constM (.str "left")), (constM (.int 0))), ((constM (.str "seed")), (varM 2)), ((constM (.str "salt")), (constM (.int 0)))])))))
noncomputable def takeA : M Fl :=
  (iteM (andM (truB (binM (eqS false) (.ex (binM ixD (.sl 0) (.ex (constM (.str "left"))))) (.ex (constM (.int 0))))) (truB (binM ltD (.ex (binM ixD (.sl 0) (.ex (constM (.str "at"))))) (.ex (unM lenD (.ex (binM ixD (.sl 0) (.ex (constM (.str "cells")))))))))) (seqM (setItM 0 (constM (.str "left")) (binM ixD (.ex (binM ixD (.sl 0) (.ex (constM (.str "cells"))))) (.ex (binM ixD (.sl 0) (.ex (constM (.str "at")))))))
    (setItM 0 (constM (.str "at")) (binM addD (.ex (binM ixD (.sl 0) (.ex (constM (.str "at"))))) (.ex (constM (.int 1)))))) nxM)
noncomputable def takeC : M Fl :=
  (seqM (iteM (truB (binM gtD (.ex (binM ixD (.sl 0) (.ex (constM (.str "left"))))) (.ex (constM (.int 0))))) (seqM (setM 2 (binM modD (.ex (unM toInt (.ex (binM ixD (.sl 0) (.ex (constM (.str "left"))))))) (.sl 1)))
    (seqM (setItM 0 (constM (.str "left")) (binM divD (.ex (binM ixD (.sl 0) (.ex (constM (.str "left"))))) (.sl 1)))
    (retM (moveM 2)))) nxM)
    (seqM (setItM 0 (constM (.str "salt")) (binM addD (.ex (binM ixD (.sl 0) (.ex (constM (.str "salt"))))) (.ex (constM (.int 1)))))
    (seqM (setM 3 (binM modD (.ex (unM toInt (.ex (binM addD (.ex (binM mulD (.ex (binM ixD (.sl 0) (.ex (constM (.str "seed"))))) (.ex (constM (.int 48271))))) (.ex (binM mulD (.ex (binM ixD (.sl 0) (.ex (constM (.str "salt"))))) (.ex (constM (.int 69621))))))))) (.ex (constM (.int 2147483647)))))
    (seqM (setM 3 (binM modD (.ex (unM toInt (.ex (binM addD (.ex (binM addD (.ex (binM mulD (.sl 3) (.sl 3))) (.ex (binM mulD (.ex (binM ixD (.sl 0) (.ex (constM (.str "salt"))))) (.ex (constM (.int 40692))))))) (.ex (constM (.int 12345))))))) (.ex (constM (.int 2147483399)))))
    (retM (binM modD (.ex (unM toInt (.sl 3))) (.sl 1)))))))
noncomputable def takeB : M Fl := seqM takeA takeC
/-- the tape as a value -/
def tpD (cs : List D) (at_ left seed salt : Int) : D := .dct [(.inr "cells", .lst cs), (.inr "at", .int at_), (.inr "left", .int left), (.inr "seed", .int seed), (.inr "salt", .int salt)]
section
variable {cs : List D} {a l e t x : Int}
theorem tp_cells : ixD (tpD cs a l e t) (.str "cells") = some (false, .lst cs) := by rfl
theorem tp_at : ixD (tpD cs a l e t) (.str "at") = some (false, .int a) := by rfl
theorem tp_left : ixD (tpD cs a l e t) (.str "left") = some (false, .int l) := by rfl
theorem tp_seed : ixD (tpD cs a l e t) (.str "seed") = some (false, .int e) := by rfl
theorem tp_salt : ixD (tpD cs a l e t) (.str "salt") = some (false, .int t) := by rfl
theorem st_at : setD (tpD cs a l e t) (.str "at") (.int x) = some (tpD cs x l e t) := by rfl
theorem st_left : setD (tpD cs a l e t) (.str "left") (.int x) = some (tpD cs a x e t) := by rfl
theorem st_salt : setD (tpD cs a l e t) (.str "salt") (.int x) = some (tpD cs a l e x) := by rfl
end
end PV

/-! PV: how the terms run: rows for simp. -/
namespace PV
open PySem PySem.Spec L2
/-- a sign of f, so that simp leaves f alone until its turn comes -/
structure Tok {α β : Type} (f : α → S → Res β) : Type where
def Res.bd {α β : Type} (r : Res α) (f : α → S → Res β) (_ : Tok f) : Res β := r.bind f
@[simp ↓] theorem bind_bd {α β : Type} (r : Res α) (f : α → S → Res β) : r.bind f = r.bd f ⟨⟩ := rfl
@[simp] theorem bd_ok {α β : Type} (a : α) (s : S) (f : α → S → Res β) (t : Tok f) : (Res.ok a s).bd f t = f a s := rfl
@[simp] theorem bd_exc {α β : Type} (x : Exn) (s : S) (f : α → S → Res β) (t : Tok f) : (Res.exc x s : Res α).bd f t = .exc x s := rfl
@[simp] theorem bd_stuck {α β : Type} (f : α → S → Res β) (t : Tok f) : (Res.stuck : Res α).bd f t = .stuck := rfl
section
variable {s : S}
@[simp] theorem gd_True : gd True = true := gd_yes trivial
@[simp] theorem gd_False : gd False = false := by
  cases h : gd False with
  | false => rfl
  | true => exact (gd_iff.mp h).elim
@[simp] theorem ev_seq (a b : M Fl) : seqM a b s = (a s).bind fun fl s' => match fl with
  | .nx => b s'
  | fl => .ok fl s' := rfl
@[simp] theorem ev_nx : nxM s = .ok .nx s := rfl
@[simp] theorem ev_bk : bkM s = .ok .bk s := rfl
@[simp] theorem ev_ct : ctM s = .ok .ct s := rfl
@[simp] theorem ev_drop (f : M (Bool × D)) : dropM f s = (f s).bind fun _ s' => .ok .nx s' := rfl
@[simp] theorem ev_ret (f : M (Bool × D)) : retM f s = (f s).bind fun r s' => .ok (.rt r.1 r.2) s' := rfl
@[simp] theorem ev_retN : retN s = .ok (.rt false .non) s := rfl
@[simp] theorem ev_set (i : Nat) (f : M (Bool × D)) : setM i f s = (f s).bind fun r s' => match putS s' i (if r.1 = true then .ow else .sh) r.2 with
  | some s2 => .ok .nx s2
  | none => .stuck := rfl
@[simp] theorem ev_putS (i : Nat) (o : Own) (d : D) : putS s i o d = match s[i]? with
  | some (some (.io, _)) => none
  | some _ => some (s.set i (some (o, d)))
  | none => none := rfl
@[simp] theorem ev_ite {α : Type} (t : M Bool) (a b : M α) : iteM t a b s = (t s).bind fun x s' => if x = true then a s' else b s' := rfl
@[simp] theorem ev_and (a b : M Bool) : andM a b s = (a s).bind fun x s' => if x = true then b s' else .ok false s' := rfl
@[simp] theorem ev_or (a b : M Bool) : orM a b s = (a s).bind fun x s' => if x = true then .ok true s' else b s' := rfl
@[simp] theorem ev_not (a : M Bool) : notM a s = (a s).bind fun b s' => .ok (!b) s' := rfl
@[simp] theorem ev_tru (a : Opd) : truM a s = op1 a (fun x s => match truD x with
  | some b => .ok b s
  | none => .stuck) s := rfl
@[simp] theorem ev_truB (f : M (Bool × D)) : truB f s = (f s).bind fun r s' => match r.2 with
  | .bl b => .ok b s'
  | _ => .stuck := rfl
@[simp] theorem ev_andV (a b : M (Bool × D)) : andV a b s = (a s).bind fun x s' => match truD x.2 with
  | some true => b s'
  | some false => .ok x s'
  | none => .stuck := rfl
@[simp] theorem ev_orV (a b : M (Bool × D)) : orV a b s = (a s).bind fun x s' => match truD x.2 with
  | some true => .ok x s'
  | some false => b s'
  | none => .stuck := rfl
@[simp] theorem ev_notV (a : Opd) : notV a s = op1 a (fun x s => match truD x with
  | some b => .ok (false, .bl (!b)) s
  | none => .stuck) s := rfl
@[simp] theorem ev_const (d : D) : constM d s = .ok (false, d) s := rfl
@[simp] theorem ev_var (i : Nat) : varM i s = match s[i]? with
  | some (some (.sh, d)) => .ok (false, d) s
  | some (some (.ow, d)) => .ok (false, d) (s.set i (some (.sh, d)))
  | _ => .stuck := rfl
@[simp] theorem ev_move (i : Nat) : moveM i s = match s[i]? with
  | some (some (.sh, d)) => .ok (false, d) s
  | some (some (.ow, d)) => .ok (true, d) (s.set i none)
  | _ => .stuck := rfl
@[simp] theorem ev_op1 {α : Type} (a : Opd) (k : D → S → Res α) : op1 a k s = (a.run s).bind fun x s1 => match a.get s1 x with
  | some dx => k dx s1
  | none => .stuck := rfl
@[simp] theorem ev_op2 {α : Type} (a b : Opd) (k : D → D → S → Res α) : op2 a b k s = (a.run s).bind fun x s1 => (b.run s1).bind fun y s2 => match a.get s2 x, b.get s2 y with
  | some dx, some dy => k dx dy s2
  | _, _ => .stuck := rfl
@[simp] theorem ev_runE (f : M (Bool × D)) : (Opd.ex f).run s = (f s).bind fun r s' => .ok (some r.2) s' := rfl
@[simp] theorem ev_runS (i : Nat) : (Opd.sl i).run s = match s[i]? with
    | some (some _) => .ok none s
    | _ => .stuck := rfl
@[simp] theorem ev_getE (f : M (Bool × D)) (x : Option D) : (Opd.ex f).get s x = x := rfl
@[simp] theorem ev_getS (i : Nat) (x : Option D) : (Opd.sl i).get s x = match s[i]? with
    | some (some (_, d)) => some d
    | _ => none := rfl
@[simp] theorem ev_un (g : D → Option (Bool × D)) (a : Opd) : unM g a s = op1 a (fun x s => match g x with
  | some r => .ok r s
  | none => .stuck) s := rfl
@[simp] theorem ev_bin (g : D → D → Option (Bool × D)) (a b : Opd) : binM g a b s = op2 a b (fun x y s => match g x y with
  | some r => .ok r s
  | none => .stuck) s := rfl
@[simp] theorem ev_ops {α : Type} (os : List Opd) (k : List D → S → Res α) : opsM os k s = (runs os s).bind fun xs s1 => match gets s1 os xs with
  | some ds => k ds s1
  | none => .stuck := rfl
@[simp] theorem ev_runs0 : runs [] s = .ok [] s := rfl
@[simp] theorem ev_runs (o : Opd) (os : List Opd) : runs (o :: os) s = (o.run s).bind fun x s1 => (runs os s1).bind fun xs s2 => .ok (x :: xs) s2 := rfl
@[simp] theorem ev_gets0 (xs : List (Option D)) : gets s [] xs = some [] := rfl
@[simp] theorem ev_gets (o : Opd) (os : List Opd) (x : Option D) (xs : List (Option D)) : gets s (o :: os) (x :: xs) = match o.get s x, gets s os xs with
    | some d, some ds => some (d :: ds)
    | _, _ => none := rfl
@[simp] theorem ev_tup (fs : List (M (Bool × D))) : tupM fs s = opsM (fs.map .ex) (fun ds s => if ds.length ≤ sizeLine then .ok (false, .tup ds) s else .stuck) s := rfl
@[simp] theorem ev_lst (fs : List (M (Bool × D))) : lstM fs s = opsM (fs.map .ex) (fun ds s => if ds.length ≤ sizeLine then .ok (true, .lst ds) s else .stuck) s := rfl
@[simp] theorem ev_call (F : FS) (os : List Opd) : callM F os s = opsM os (fun ds s => if decide (ioSlots os).Nodup && (ioSlots os).all (isMut s) then (match F ds with
  | .ret fr d outs => (match wb s (ioSlots os) outs with
    | some s' => .ok (fr, d) s'
    | none => .stuck)
  | .exc x outs => (match wb s (ioSlots os) outs with
    | some s' => .exc x s'
    | none => .stuck)
  | .stuck => .stuck) else .stuck) s := rfl
def boxD : D → Bool
  | .lst _ => true
  | .dct _ => true
  | _ => false
@[simp] theorem ev_box (i : Nat) : isBox s i = match s[i]? with
  | some (some (_, d)) => boxD d
  | _ => false := by
  unfold isBox boxD
  cases s[i]? with
  | none => rfl
  | some x =>
    cases x with
    | none => rfl
    | some x =>
      obtain ⟨o, d⟩ := x
      cases d <;> rfl
@[simp] theorem box_tp {cs : List D} {a l e t : Int} : boxD (tpD cs a l e t) = true := rfl
@[simp] theorem box_l {ds : List D} : boxD (.lst ds) = true := rfl
@[simp] theorem box_d {ds : List (Key × D)} : boxD (.dct ds) = true := rfl
@[simp] theorem ev_setIt (i : Nat) (k f : M (Bool × D)) : setItM i k f s = (f s).bind fun y s1 => if isBox s1 i = true then (k s1).bind fun kk s2 => (match s2[i]? with
  | some (some (o, x)) => if o = .sh then .stuck else (match setD x kk.2 y.2 with
    | some x' => .ok .nx (s2.set i (some (o, x')))
    | none => .stuck)
  | _ => .stuck) else .stuck := rfl
@[simp] theorem ev_disp (ps : List (M (Bool × D) × M (Bool × D))) : dispM ps s = opsM ((flat2 ps).map .ex) (fun ds s => match kpairs ds with
  | some kds => if kds.length ≤ 15 then .ok (true, .dct (kmerge [] kds)) s else .stuck
  | none => .stuck) s := rfl
@[simp] theorem ev_grow (g : List D → D → Option (List D)) (i : Nat) (f : M (Bool × D)) : growM g i f s = if isLst s i = true then (f s).bind fun y s1 => (match s1[i]? with
  | some (some (o, .lst ds)) => if o = .sh then .stuck else (match g ds y.2 with
    | some ds' => .ok (false, .non) (s1.set i (some (o, .lst ds')))
    | none => .stuck)
  | _ => .stuck) else .stuck := rfl
@[simp] theorem ev_isLst (i : Nat) : isLst s i = match s[i]? with
  | some (some (_, .lst _)) => true
  | _ => false := rfl
@[simp] theorem ev_itM (f : M (Bool × D)) : itM f s = (f s).bind fun r s' => match r.2 with
  | .lst ds => .ok ds s'
  | .tup ds => .ok ds s'
  | .fro ds => .ok ds s'
  | .str x => .ok (signs x) s'
  | _ => .stuck := rfl
noncomputable def rngD : D → Option (List D)
  | .int j => if gd (-(2 ^ 62) ≤ j ∧ j < 2 ^ 62) = true then some (intsD 0 j.toNat) else none
  | _ => none
@[simp] theorem ev_rng1 (f : M (Bool × D)) : rng1M f s = (f s).bind fun r s' => match rngD r.2 with
  | some ds => .ok ds s'
  | none => .stuck := by
  unfold rng1M rngD
  congr 1
  funext r s'
  cases r.2 with
  | int j =>
    by_cases h : gd (-(2 ^ 62) ≤ j ∧ j < 2 ^ 62) = true
    · simp only [if_pos h]
    · simp only [if_neg h]
  | _ => rfl
theorem rng_int {i : Int} (h0 : 0 ≤ i) (h : i ≤ 16777216) : rngD (.int i) = some (intsD 0 i.toNat) := by
  unfold rngD
  have h1 : -(2 ^ 62) ≤ i := Int.le_trans (by decide) h0
  have h2 : i < 2 ^ 62 := Int.lt_of_le_of_lt h (by decide)
  simp only [if_pos (gd_yes (And.intro h1 h2))]
theorem rng_nat {n : Nat} (h : n ≤ sizeLine) : rngD (.int n) = some (intsD 0 n) := by
  have e : sizeLine = 16777216 := by decide +kernel
  rw [e] at h
  have := rng_int (i := (n : Int)) (Int.natCast_nonneg _) (by omega)
  rw [this, Int.toNat_natCast]
@[simp] theorem ev_for (it : M (List D)) (t : Tg) (b : M Fl) : forM it t b s = (it s).bind fun ds s1 => forL t b ds s1 := rfl
@[simp] theorem ev_for0 (t : Tg) (b : M Fl) : forL t b [] s = .ok .nx s := rfl
@[simp] theorem ev_for1 (t : Tg) (b : M Fl) (d : D) (ds : List D) : forL t b (d :: ds) s = match t.put d s with
    | none => .stuck
    | some s1 => (b s1).bind fun fl s2 => (match fl with
      | .bk => .ok .nx s2
      | .rt fr d => .ok (.rt fr d) s2
      | _ => forL t b ds s2) := rfl
@[simp] theorem ev_flat0 : flat2 [] = [] := rfl
@[simp] theorem ev_flat1 (k v : M (Bool × D)) (r : List (M (Bool × D) × M (Bool × D))) : flat2 ((k, v) :: r) = k :: v :: flat2 r := rfl
@[simp] theorem ev_kp0 : kpairs [] = some [] := rfl
@[simp] theorem ev_kpS (x : Str) (d : D) (r : List D) : kpairs (.str x :: d :: r) = (kpairs r).map fun ps => (.inr x, d) :: ps := rfl
@[simp] theorem ev_kpI (x : Int) (d : D) (r : List D) : kpairs (.int x :: d :: r) = (kpairs r).map fun ps => (.inl x, d) :: ps := rfl
@[simp] theorem ev_comp (it : M (List D)) (t : Tg) (tt : M Bool) (te : M (Bool × D)) (vs : List Nat) : compM it t tt te vs s = (it s).bind fun ds s1 => (lcL t tt te vs ds [] (killAll s1 vs)).bind fun acc s2 => .ok (true, .lst acc) s2 := rfl
@[simp] theorem ev_yes : yesM s = .ok true s := rfl
@[simp] theorem ev_str (a : Opd) : strM a s = op1 a (fun x s => match x with
  | .str x => .ok (false, .str x) s
  | _ => .stuck) s := rfl
@[simp] theorem ev_meth (g : Str → List D → Option (Bool × D)) (o : Opd) (as : List Opd) : methS g o as s = opsM (.ex (strM o) :: as) (fun ds s => match ds with
  | .str x :: xs => (match g x xs with
    | some r => .ok r s
    | none => .stuck)
  | _ => .stuck) s := rfl
@[simp] theorem ev_int (a : Opd) : intM a s = op1 a (fun x s => match x with
  | .int i => .ok (false, .int i) s
  | _ => .stuck) s := rfl
@[simp] theorem ev_neg (a : Opd) : negM a s = op1 a (fun x s => match x with
  | .int i => .ok (false, .int (-i)) s
  | _ => .stuck) s := rfl
@[simp] theorem ev_putN (i : Nat) (d : D) : (Tg.nm i).put d s = putS s i .sh d := by rw [Tg.put]
end

section
variable {i j : Int} {x y : Str} {b c : Bool} {ds es : List D}
@[simp] theorem v_eqI {n : Bool} : eqS n (.int i) (.int j) = some (false, .bl (if n then !decide (i = j) else decide (i = j))) := rfl
@[simp] theorem v_eqT {n : Bool} : eqS n (.str x) (.str y) = some (false, .bl (if n then !decide (x = y) else decide (x = y))) := rfl
@[simp] theorem v_eqB {n : Bool} : eqS n (.bl b) (.bl c) = some (false, .bl (if n then !decide (b = c) else decide (b = c))) := rfl
@[simp] theorem v_ordI {f : Int → Int → Bool} {g : List Nat → List Nat → Bool} : ordD f g (.int i) (.int j) = some (false, .bl (f i j)) := rfl
@[simp] theorem v_ordS {f : Int → Int → Bool} {g : List Nat → List Nat → Bool} : ordD f g (.str x) (.str y) = some (false, .bl (g x.cps.toList y.cps.toList)) := rfl
@[simp] theorem v_int {C : Int → Int → Bool} {f : Int → Int → Int} : intD C f (.int i) (.int j) = if C i j then some (false, .int (f i j)) else none := rfl
@[simp] theorem v_addI : addD (.int i) (.int j) = some (false, .int (i + j)) := rfl
@[simp] theorem v_addS : addD (.str x) (.str y) = if x.length + y.length ≤ sizeLine then some (false, .str (x ++ y)) else none := rfl
@[simp] theorem v_addL : addD (.lst ds) (.lst es) = if ds.length + es.length ≤ sizeLine then some (true, .lst (ds ++ es)) else none := rfl
@[simp] theorem v_addT : addD (.tup ds) (.tup es) = if ds.length + es.length ≤ sizeLine then some (false, .tup (ds ++ es)) else none := rfl
@[simp] theorem v_lenL : lenD (.lst ds) = some (false, .int ds.length) := rfl
@[simp] theorem v_lenT : lenD (.tup ds) = some (false, .int ds.length) := rfl
@[simp] theorem v_lenF : lenD (.fro ds) = some (false, .int ds.length) := rfl
@[simp] theorem v_lenS : lenD (.str x) = if x.length ≤ sizeLine then some (false, .int x.length) else none := rfl
@[simp] theorem v_toI : toInt (.int i) = some (false, .int i) := rfl
@[simp] theorem v_abs : absD (.int i) = some (false, .int (if i < 0 then -i else i)) := rfl
@[simp] theorem v_truI : truD (.int i) = some (i != 0) := rfl
@[simp] theorem v_truB : truD (.bl b) = some b := rfl
@[simp] theorem v_truN : truD .non = some false := rfl
@[simp] theorem v_truL : truD (.lst ds) = some (!ds.isEmpty) := rfl
@[simp] theorem v_truT : truD (.tup ds) = some (!ds.isEmpty) := rfl
@[simp] theorem v_ixL : ixD (.lst ds) (.int i) = (atI ds i).map fun d => (false, d) := rfl
@[simp] theorem v_ixT : ixD (.tup ds) (.int i) = (atI ds i).map fun d => (false, d) := rfl
@[simp] theorem v_ixF : ixD (.fro ds) (.int i) = (atI ds i).map fun d => (false, d) := rfl
@[simp] theorem v_ixS : ixD (.str x) (.int i) = if x.length ≤ sizeLine then (atI x.cps.toList i).map fun c => (false, .str ⟨#[c]⟩) else none := rfl
@[simp] theorem v_app {d : D} : appD ds d = if ds.length < sizeLine then some (ds ++ [d]) else none := rfl
@[simp] theorem v_isN1 {n : Bool} : isD n .non .non = some (false, .bl (!n)) := rfl
theorem at_nat {α : Type} {xs : List α} {n : Nat} : atI xs (n : Int) = xs[n]? := by
  unfold atI ixN
  rw [if_pos (by omega)]
  by_cases h : n < xs.length
  · rw [if_pos (by omega)]; simp
  · rw [if_neg (by omega)]; simp; omega
theorem at_lt {α : Type} {xs : List α} (h0 : 0 ≤ i) (h : i < xs.length) : atI xs i = some (xs[i.toNat]'(by omega)) := by
  unfold atI ixN
  rw [if_pos h0, if_pos h]
  simp
end
section
variable {cs : List Int} {a l e t m : Int}
theorem g_mul1 {i j : Int} (h : -18446744073709551616 < j ∧ j < 18446744073709551616) : gd ((-(2 ^ 64) < i ∧ i < 2 ^ 64) ∨ (-(2 ^ 64) < j ∧ j < 2 ^ 64)) = true := gd_yes (.inr h)
theorem g_div {m : Int} (h3 : 0 < m) (h4 : m < 1073741824) : gd (0 < m ∧ m < 1073741824) = true := gd_yes ⟨h3, h4⟩
theorem m_all (x : Int) : -18446744073709551616 < x % 2147483647 ∧ x % 2147483647 < 18446744073709551616 := by omega
theorem m_lo (x : Int) : -18446744073709551616 < x % 2147483647 := by omega
theorem m_hi (x : Int) : x % 2147483647 < 18446744073709551616 := by omega
/-- what a draw gives -/
def TkOk (cs : List Int) (e m : Int) (R : Res Fl) : Prop := ∃ (r a l t : Int) (rest : S), 0 ≤ r ∧ r < m ∧ 0 ≤ a ∧ 0 ≤ l ∧ R = .ok (.rt false (.int r)) (some (.io, tpD (cs.map .int) a l e t) :: rest)
theorem take_c (h0 : 0 ≤ a) (hl : 0 ≤ l) (h3 : 0 < m) (h4 : m < 1073741824) : TkOk cs e m (takeC [some (.io, tpD (cs.map .int) a l e t), some (.sh, .int m), none, none]) := by
  unfold takeC
  by_cases h2 : 0 < l
  · simp [tp_left, tp_at, tp_cells, tp_seed, tp_salt, st_at, st_left, st_salt, h2, h3, h4]
    exact ⟨_, _, _, _, _, Int.emod_nonneg _ (by omega), Int.emod_lt_of_pos _ h3, h0, Int.ediv_nonneg hl (by omega), rfl⟩
  · simp [tp_left, tp_at, tp_cells, tp_seed, tp_salt, st_at, st_left, st_salt, h2, h3, h4, m_lo, m_hi]
    exact ⟨_, _, _, _, _, Int.emod_nonneg _ (by omega), Int.emod_lt_of_pos _ h3, h0, hl, rfl⟩
theorem take_ok (h0 : 0 ≤ a) (hl : 0 ≤ l) (hc : ∀ c ∈ cs, 0 ≤ c) (h3 : 0 < m) (h4 : m < 1073741824) : TkOk cs e m (takeB [some (.io, tpD (cs.map .int) a l e t), some (.sh, .int m), none, none]) := by
  unfold takeB
  rw [ev_seq]
  by_cases h1 : l = 0 ∧ a < cs.length
  · obtain ⟨rfl, h2⟩ := h1
    have e1 : atI (cs.map D.int) a = some (.int (cs[a.toNat]'(by omega))) := by rw [at_lt h0 (by simpa using h2)]; simp
    have e2 : takeA [some (.io, tpD (cs.map .int) a 0 e t), some (.sh, .int m), none, none] = .ok .nx [some (.io, tpD (cs.map .int) (a + 1) (cs[a.toNat]'(by omega)) e t), some (.sh, .int m), none, none] := by
      unfold takeA
      simp [tp_left, tp_at, tp_cells, tp_seed, tp_salt, st_at, st_left, st_salt, h2, e1]
    rw [e2]
    exact take_c (by omega) (hc _ (List.getElem_mem _)) h3 h4
  · have e2 : takeA [some (.io, tpD (cs.map .int) a l e t), some (.sh, .int m), none, none] = .ok .nx [some (.io, tpD (cs.map .int) a l e t), some (.sh, .int m), none, none] := by
      unfold takeA
      by_cases h2 : l = 0
      · have h5 : ¬ a < cs.length := fun q => h1 ⟨h2, q⟩
        simp [tp_left, tp_at, tp_cells, tp_seed, tp_salt, st_at, st_left, st_salt, h2, h5]
      · simp [tp_left, tp_at, tp_cells, tp_seed, tp_salt, st_at, st_left, st_salt, h2]
    rw [e2]
    exact take_c h0 hl h3 h4
/-- a tape -/
def Tape (d : D) : Prop := ∃ (cs : List Int) (a l e t : Int), d = tpD (cs.map .int) a l e t ∧ 0 ≤ a ∧ 0 ≤ l ∧ ∀ c ∈ cs, 0 ≤ c
theorem take_run {d : D} (h : Tape d) (h3 : 0 < m) (h4 : m < 1073741824) : ∃ (r : Int) (d' : D), 0 ≤ r ∧ r < m ∧ Tape d' ∧ runF [0] 2 4 takeB [d, .int m] = .ret false (.int r) [d'] := by
  obtain ⟨cs, a, l, e, t, rfl, h0, hl, hc⟩ := h
  obtain ⟨r, a', l', t', rest, r0, r1, r2, r3, eq⟩ := take_ok (e := e) (t := t) h0 hl hc h3 h4
  refine ⟨r, _, r0, r1, ⟨cs, a', l', e, t', rfl, r2, r3, hc⟩, ?_⟩
  have e0 : initS [0] 4 [tpD (cs.map .int) a l e t, .int m] = [some (.io, tpD (cs.map .int) a l e t), some (.sh, .int m), none, none] := rfl
  unfold runF
  simp only [List.length_cons, List.length_nil, e0, eq]
  rfl
theorem cells_run : ∀ (ns : List Int) (acc : List D) (x1 x2 : Slot), acc.length + ns.length ≤ 63 → lcL (.nm 3) yesM (unM absD (.ex (unM toInt (.sl 3)))) [3] (ns.map .int) acc [x1, none, none, none] = .ok (acc ++ ns.map fun i => D.int (if i < 0 then -i else i)) [x1, none, none, none]
  | [], acc, x1, x2, h => by simp [lcL]
  | n :: ns, acc, x1, x2, h => by
    have hz : acc.length < sizeLine := Nat.lt_of_lt_of_le (by simp at h; omega) (show 64 ≤ sizeLine by decide)
    have ih := cells_run ns (acc ++ [D.int (if n < 0 then -n else n)]) x1 x2 (by simp at h ⊢; omega)
    simp [lcL, killAll, nox, hz, ih]
theorem seed_run : ∀ (cs : List Int) (x0 x1 x3 : Slot) (e : Int), (∀ d, x3 ≠ some (.io, d)) → ∃ (e' : Int) (x3' : Slot), forL (.nm 3) (setM 2 (binM modD (.ex (unM toInt (.ex (binM addD (.ex (binM mulD (.sl 2) (.ex (constM (.int 31))))) (.sl 3))))) (.ex (constM (.int 2147483647))))) (cs.map .int) [x0, x1, some (.sh, .int e), x3] = .ok .nx [x0, x1, some (.sh, .int e'), x3']
  | [], x0, x1, x3, e, _ => ⟨e, x3, rfl⟩
  | c :: cs, x0, x1, x3, e, h => by
    obtain ⟨e', x3', ih⟩ := seed_run cs x0 x1 (some (.sh, .int c)) ((e * 31 + c) % 2147483647) (by simp)
    refine ⟨e', x3', ?_⟩
    rw [← ih]
    have ep : (Tg.nm 3).put (.int c) [x0, x1, some (.sh, .int e), x3] = some [x0, x1, some (.sh, .int e), some (.sh, .int c)] := by
      match x3, h with
      | none, _ => rfl
      | some (.sh, _), _ => rfl
      | some (.ow, _), _ => rfl
      | some (.io, d), h => exact absurd rfl (h d)
    rw [List.map_cons, ev_for1, ep]
    simp
theorem tape_run (ns : List Int) (h : ns.length ≤ 63) : ∃ d : D, Tape d ∧ runF [] 1 4 tapeB [.fro (ns.map .int)] = .ret true d [] := by
  have e0 : initS [] 4 [.fro (ns.map .int)] = [some (.sh, .fro (ns.map .int)), none, none, none] := rfl
  obtain ⟨e', x3', hs⟩ := seed_run (ns.map fun i => if i < 0 then -i else i) (some (.sh, .fro (ns.map .int))) (some (.sh, .lst (ns.map fun i => D.int (if i < 0 then -i else i)))) none 7 (by simp)
  have hc := cells_run ns [] (some (.sh, .fro (ns.map .int))) none (by simpa using h)
  have em : (ns.map fun i => if i < 0 then -i else i).map D.int = ns.map fun i => D.int (if i < 0 then -i else i) := by simp [Function.comp_def]
  refine ⟨tpD ((ns.map fun i => if i < 0 then -i else i).map .int) 0 0 e' 0, ⟨_, 0, 0, e', 0, rfl, Int.le_refl 0, Int.le_refl 0, fun c m => ?_⟩, ?_⟩
  · obtain ⟨i, _, rfl⟩ := List.mem_map.mp m
    split <;> omega
  · have ev : tapeB (initS [] 4 [.fro (ns.map .int)]) = .ok (.rt true (tpD ((ns.map fun i => if i < 0 then -i else i).map .int) 0 0 e' 0)) [some (.sh, .fro (ns.map .int)), some (.sh, .lst (ns.map fun i => D.int (if i < 0 then -i else i))), some (.sh, .int e'), x3'] := by
      rw [e0]
      unfold tapeB
      rw [em] at hs ⊢
      simp only [List.nil_append] at hc
      simp [killAll, hc, hs]
      rfl
    unfold runF
    simp only [List.length_cons, List.length_nil, ev]
    rfl
end
end PV

/-! PV: isinstance at each kind; _law_same says True of a value and itself. -/
namespace PV
open PySem PySem.Spec L2
section
variable {b : Bool} {i : Int} {x : Str} {ds : List D} {ks : List (Key × D)}
@[simp] theorem is_non_bool : isiD D.non (.ty "bool") = some (false, .bl false) := Eq.trans (by rfl) rfl
@[simp] theorem is_non_int : isiD D.non (.ty "int") = some (false, .bl false) := Eq.trans (by rfl) rfl
@[simp] theorem is_non_str : isiD D.non (.ty "str") = some (false, .bl false) := Eq.trans (by rfl) rfl
@[simp] theorem is_non_tuple : isiD D.non (.ty "tuple") = some (false, .bl false) := Eq.trans (by rfl) rfl
@[simp] theorem is_non_list : isiD D.non (.ty "list") = some (false, .bl false) := Eq.trans (by rfl) rfl
@[simp] theorem is_non_dict : isiD D.non (.ty "dict") = some (false, .bl false) := Eq.trans (by rfl) rfl
@[simp] theorem is_bl_bool : isiD (D.bl b) (.ty "bool") = some (false, .bl true) := Eq.trans (by rfl) rfl
@[simp] theorem is_bl_int : isiD (D.bl b) (.ty "int") = some (false, .bl true) := Eq.trans (by rfl) rfl
@[simp] theorem is_bl_str : isiD (D.bl b) (.ty "str") = some (false, .bl false) := Eq.trans (by rfl) rfl
@[simp] theorem is_bl_tuple : isiD (D.bl b) (.ty "tuple") = some (false, .bl false) := Eq.trans (by rfl) rfl
@[simp] theorem is_bl_list : isiD (D.bl b) (.ty "list") = some (false, .bl false) := Eq.trans (by rfl) rfl
@[simp] theorem is_bl_dict : isiD (D.bl b) (.ty "dict") = some (false, .bl false) := Eq.trans (by rfl) rfl
@[simp] theorem is_int_bool : isiD (D.int i) (.ty "bool") = some (false, .bl false) := Eq.trans (by rfl) rfl
@[simp] theorem is_int_int : isiD (D.int i) (.ty "int") = some (false, .bl true) := Eq.trans (by rfl) rfl
@[simp] theorem is_int_str : isiD (D.int i) (.ty "str") = some (false, .bl false) := Eq.trans (by rfl) rfl
@[simp] theorem is_int_tuple : isiD (D.int i) (.ty "tuple") = some (false, .bl false) := Eq.trans (by rfl) rfl
@[simp] theorem is_int_list : isiD (D.int i) (.ty "list") = some (false, .bl false) := Eq.trans (by rfl) rfl
@[simp] theorem is_int_dict : isiD (D.int i) (.ty "dict") = some (false, .bl false) := Eq.trans (by rfl) rfl
@[simp] theorem is_str_bool : isiD (D.str x) (.ty "bool") = some (false, .bl false) := Eq.trans (by rfl) rfl
@[simp] theorem is_str_int : isiD (D.str x) (.ty "int") = some (false, .bl false) := Eq.trans (by rfl) rfl
@[simp] theorem is_str_str : isiD (D.str x) (.ty "str") = some (false, .bl true) := Eq.trans (by rfl) rfl
@[simp] theorem is_str_tuple : isiD (D.str x) (.ty "tuple") = some (false, .bl false) := Eq.trans (by rfl) rfl
@[simp] theorem is_str_list : isiD (D.str x) (.ty "list") = some (false, .bl false) := Eq.trans (by rfl) rfl
@[simp] theorem is_str_dict : isiD (D.str x) (.ty "dict") = some (false, .bl false) := Eq.trans (by rfl) rfl
@[simp] theorem is_tup_bool : isiD (D.tup ds) (.ty "bool") = some (false, .bl false) := Eq.trans (by rfl) rfl
@[simp] theorem is_tup_int : isiD (D.tup ds) (.ty "int") = some (false, .bl false) := Eq.trans (by rfl) rfl
@[simp] theorem is_tup_str : isiD (D.tup ds) (.ty "str") = some (false, .bl false) := Eq.trans (by rfl) rfl
@[simp] theorem is_tup_tuple : isiD (D.tup ds) (.ty "tuple") = some (false, .bl true) := Eq.trans (by rfl) rfl
@[simp] theorem is_tup_list : isiD (D.tup ds) (.ty "list") = some (false, .bl false) := Eq.trans (by rfl) rfl
@[simp] theorem is_tup_dict : isiD (D.tup ds) (.ty "dict") = some (false, .bl false) := Eq.trans (by rfl) rfl
@[simp] theorem is_lst_bool : isiD (D.lst ds) (.ty "bool") = some (false, .bl false) := Eq.trans (by rfl) rfl
@[simp] theorem is_lst_int : isiD (D.lst ds) (.ty "int") = some (false, .bl false) := Eq.trans (by rfl) rfl
@[simp] theorem is_lst_str : isiD (D.lst ds) (.ty "str") = some (false, .bl false) := Eq.trans (by rfl) rfl
@[simp] theorem is_lst_tuple : isiD (D.lst ds) (.ty "tuple") = some (false, .bl false) := Eq.trans (by rfl) rfl
@[simp] theorem is_lst_list : isiD (D.lst ds) (.ty "list") = some (false, .bl true) := Eq.trans (by rfl) rfl
@[simp] theorem is_lst_dict : isiD (D.lst ds) (.ty "dict") = some (false, .bl false) := Eq.trans (by rfl) rfl
@[simp] theorem is_fro_bool : isiD (D.fro ds) (.ty "bool") = some (false, .bl false) := Eq.trans (by rfl) rfl
@[simp] theorem is_fro_int : isiD (D.fro ds) (.ty "int") = some (false, .bl false) := Eq.trans (by rfl) rfl
@[simp] theorem is_fro_str : isiD (D.fro ds) (.ty "str") = some (false, .bl false) := Eq.trans (by rfl) rfl
@[simp] theorem is_fro_tuple : isiD (D.fro ds) (.ty "tuple") = some (false, .bl false) := Eq.trans (by rfl) rfl
@[simp] theorem is_fro_list : isiD (D.fro ds) (.ty "list") = some (false, .bl true) := Eq.trans (by rfl) rfl
@[simp] theorem is_fro_dict : isiD (D.fro ds) (.ty "dict") = some (false, .bl false) := Eq.trans (by rfl) rfl
@[simp] theorem is_dct_bool : isiD (D.dct ks) (.ty "bool") = some (false, .bl false) := Eq.trans (by rfl) rfl
@[simp] theorem is_dct_int : isiD (D.dct ks) (.ty "int") = some (false, .bl false) := Eq.trans (by rfl) rfl
@[simp] theorem is_dct_str : isiD (D.dct ks) (.ty "str") = some (false, .bl false) := Eq.trans (by rfl) rfl
@[simp] theorem is_dct_tuple : isiD (D.dct ks) (.ty "tuple") = some (false, .bl false) := Eq.trans (by rfl) rfl
@[simp] theorem is_dct_list : isiD (D.dct ks) (.ty "list") = some (false, .bl false) := Eq.trans (by rfl) rfl
@[simp] theorem is_dct_dict : isiD (D.dct ks) (.ty "dict") = some (false, .bl true) := Eq.trans (by rfl) rfl
@[simp] theorem isN_non {g : Bool} : isD g D.non .non = some (false, .bl (!g)) := Eq.trans (by rfl) rfl
@[simp] theorem isN_bl {g : Bool} : isD g (D.bl b) .non = some (false, .bl g) := Eq.trans (by rfl) rfl
@[simp] theorem isN_int {g : Bool} : isD g (D.int i) .non = some (false, .bl g) := Eq.trans (by rfl) rfl
@[simp] theorem isN_str {g : Bool} : isD g (D.str x) .non = some (false, .bl g) := Eq.trans (by rfl) rfl
@[simp] theorem isN_tup {g : Bool} : isD g (D.tup ds) .non = some (false, .bl g) := Eq.trans (by rfl) rfl
@[simp] theorem isN_lst {g : Bool} : isD g (D.lst ds) .non = some (false, .bl g) := Eq.trans (by rfl) rfl
@[simp] theorem isN_fro {g : Bool} : isD g (D.fro ds) .non = some (false, .bl g) := Eq.trans (by rfl) rfl
@[simp] theorem isN_dct {g : Bool} : isD g (D.dct ks) .non = some (false, .bl g) := Eq.trans (by rfl) rfl
end
theorem runF_rt {ios : List Nat} {n m : Nat} {f : M Fl} {ds : List D} {fr : Bool} {d : D} {s : S} {outs : List D} (e : f (initS ios m ds) = .ok (.rt fr d) s) (hn : ds.length = n) (ho : outsOf s ios = some outs) : runF ios n m f ds = .ret fr d outs := by
  unfold runF
  rw [if_pos hn, e]
  simp only [ho]
theorem runF_nx {ios : List Nat} {n m : Nat} {f : M Fl} {ds : List D} {s : S} {outs : List D} (e : f (initS ios m ds) = .ok .nx s) (hn : ds.length = n) (ho : outsOf s ios = some outs) : runF ios n m f ds = .ret false .non outs := by
  unfold runF
  rw [if_pos hn, e]
  simp only [ho]
noncomputable def isIntB : M Fl :=
  (retM (andV (binM isiD (.sl 0) (.ex (constM (.ty "int")))) (notV (.ex (binM isiD (.sl 0) (.ex (constM (.ty "bool"))))))))
noncomputable def itemsB (sm : FS) : M Fl :=
  (seqM (iteM (truB (binM (eqS true) (.ex (unM lenD (.sl 0))) (.ex (unM lenD (.sl 1))))) (retM (constM (.bl false))) nxM)
    (seqM (forM (rng1M (unM lenD (.sl 1))) (.nm 2) (iteM (notM (truM (.ex (callM sm [.ex (binM ixD (.sl 0) (.sl 2)), .ex (binM ixD (.sl 1) (.sl 2))])))) (retM (constM (.bl false))) nxM))
    (retM (constM (.bl true)))))
noncomputable def sameB (ii it sm : FS) : M Fl :=
  (seqM (iteM (truB (binM (isD false) (.sl 1) (.ex (constM .non)))) (retM (binM (isD false) (.sl 0) (.ex (constM .non)))) nxM)
    (seqM (iteM (truM (.ex (binM isiD (.sl 1) (.ex (constM (.ty "bool")))))) (retM (andV (binM isiD (.sl 0) (.ex (constM (.ty "bool")))) (binM (eqS false) (.sl 0) (.sl 1)))) nxM)
    (seqM (iteM (truM (.ex (binM isiD (.sl 1) (.ex (constM (.ty "int")))))) (retM (andV (callM ii [.ex (varM 0)]) (binM (eqS false) (.sl 0) (.sl 1)))) nxM)
    (seqM (iteM (truM (.ex (binM isiD (.sl 1) (.ex (constM (.ty "str")))))) (retM (andV (binM isiD (.sl 0) (.ex (constM (.ty "str")))) (binM (eqS false) (.sl 0) (.sl 1)))) nxM)
    (seqM (iteM (truM (.ex (binM isiD (.sl 1) (.ex (constM (.ty "tuple")))))) (retM (andV (binM isiD (.sl 0) (.ex (constM (.ty "tuple")))) (callM it [.ex (varM 0), .ex (varM 1)]))) nxM)
    (seqM (iteM (truM (.ex (binM isiD (.sl 1) (.ex (constM (.ty "list")))))) (retM (andV (binM isiD (.sl 0) (.ex (constM (.ty "list")))) (callM it [.ex (varM 0), .ex (varM 1)]))) nxM)
    (seqM (iteM (orM (notM (truM (.ex (binM isiD (.sl 0) (.ex (constM (.ty "dict"))))))) (truB (binM (eqS true) (.ex (unM lenD (.sl 0))) (.ex (unM lenD (.sl 1)))))) (retM (constM (.bl false))) nxM)
    (seqM (forM (itM (varM 1)) (.nm 2) (iteM (orM (truB (binM (inD true) (.sl 2) (.sl 0))) (notM (truM (.ex (callM sm [.ex (binM ixD (.sl 0) (.sl 2)), .ex (binM ixD (.sl 1) (.sl 2))]))))) (retM (constM (.bl false))) nxM))
    (seqM (forM (itM (varM 0)) (.nm 2) (iteM (truM (.ex (binM isiD (.sl 2) (.ex (constM (.ty "bool")))))) (retM (constM (.bl false))) nxM))
    (retM (constM (.bl true))))))))))))
/-- plain values of some depth -/
def pl : Nat → D → Bool
  | 0, _ => false
  | _ + 1, .non => true
  | _ + 1, .bl _ => true
  | _ + 1, .int _ => true
  | _ + 1, .str _ => true
  | n + 1, .tup ds => ds.all (pl n) && decide (ds.length ≤ sizeLine)
  | n + 1, .lst ds => ds.all (pl n) && decide (ds.length ≤ sizeLine)
  | _ + 1, _ => false
theorem isInt_int (i : Int) : runF [] 1 1 isIntB [.int i] = .ret false (.bl true) [] := by
  have e : isIntB (initS [] 1 [.int i]) = .ok (.rt false (.bl true)) [some (.sh, .int i)] := by
    rw [show initS [] 1 [.int i] = [some (.sh, .int i)] from rfl]
    unfold isIntB
    simp
  exact runF_rt e rfl rfl
@[simp] theorem ios_e (f : M (Bool × D)) (os : List Opd) : ioSlots (.ex f :: os) = ioSlots os := rfl
@[simp] theorem ios_s (i : Nat) (os : List Opd) : ioSlots (.sl i :: os) = i :: ioSlots os := rfl
@[simp] theorem ios_0 : ioSlots [] = [] := rfl
@[simp] theorem wb_0 {s : S} : wb s [] [] = some s := rfl
@[simp] theorem wb_1 {s : S} {i : Nat} {is : List Nat} {d : D} {ds : List D} : wb s (i :: is) (d :: ds) = match s[i]? with
    | some (some (o, _)) => wb (s.set i (some (o, d))) is ds
    | _ => none := rfl
@[simp] theorem isMut_0 {s : S} {i : Nat} : isMut s i = match s[i]? with
  | some (some (o, _)) => decide (o ≠ .sh)
  | _ => false := rfl
theorem items_loop {sm : FS} {x y : D} {n : Nat} (h : ∀ j : Nat, j < n → ∃ d fr, ixD x (.int j) = some (false, d) ∧ ixD y (.int j) = some (false, d) ∧ sm [d, d] = .ret fr (.bl true) []) :
    ∀ (js : List Nat) (z : Slot), (∀ d, z ≠ some (.io, d)) → (∀ j ∈ js, j < n) → ∃ z' : Slot, forL (.nm 2) (iteM (notM (truM (.ex (callM sm [.ex (binM ixD (.sl 0) (.sl 2)), .ex (binM ixD (.sl 1) (.sl 2))])))) (retM (constM (.bl false))) nxM) (js.map fun i => .int (0 + (i : Nat))) [some (.sh, x), some (.sh, y), z] = .ok .nx [some (.sh, x), some (.sh, y), z']
  | [], z, _, _ => ⟨z, rfl⟩
  | j :: js, z, hz, hj => by
    obtain ⟨z', ih⟩ := items_loop h js (some (.sh, .int j)) (by simp) fun i m => hj i (List.mem_cons_of_mem _ m)
    refine ⟨z', ?_⟩
    rw [← ih]
    obtain ⟨d, fr, e1, e2, e3⟩ := h j (hj j List.mem_cons_self)
    have ep : (Tg.nm 2).put (.int (0 + (j : Nat))) [some (.sh, x), some (.sh, y), z] = some [some (.sh, x), some (.sh, y), some (.sh, .int j)] := by
      rw [Int.zero_add]
      match z, hz with
      | none, _ => rfl
      | some (.sh, _), _ => rfl
      | some (.ow, _), _ => rfl
      | some (.io, d), h => exact absurd rfl (h d)
    rw [List.map_cons, ev_for1, ep]
    simp [e1, e2, e3]
theorem items_run {sm : FS} {x y : D} {n : Nat} (hn : n ≤ sizeLine) (lx : lenD x = some (false, .int n)) (ly : lenD y = some (false, .int n)) (h : ∀ j : Nat, j < n → ∃ d fr, ixD x (.int j) = some (false, d) ∧ ixD y (.int j) = some (false, d) ∧ sm [d, d] = .ret fr (.bl true) []) :
    runF [] 2 3 (itemsB sm) [x, y] = .ret false (.bl true) [] := by
  obtain ⟨z', hl⟩ := items_loop h (List.range n) none (by simp) fun j m => List.mem_range.mp m
  have e : itemsB sm (initS [] 3 [x, y]) = .ok (.rt false (.bl true)) [some (.sh, x), some (.sh, y), z'] := by
    rw [show initS [] 3 [x, y] = [some (.sh, x), some (.sh, y), none] from rfl]
    unfold itemsB
    have hl2 : forL (.nm 2) (iteM (notM (truM (.ex (callM sm [.ex (binM ixD (.sl 0) (.sl 2)), .ex (binM ixD (.sl 1) (.sl 2))])))) (retM (constM (.bl false))) nxM) (intsD 0 n) [some (.sh, x), some (.sh, y), none] = .ok .nx [some (.sh, x), some (.sh, y), z'] := hl
    simp [lx, ly, hl2, rng_nat hn]
  exact runF_rt e rfl rfl
theorem same_refl {sm it ii : Nat → FS} (hs : ∀ k, sm (k + 1) = runF [] 2 3 (sameB (ii k) (it k) (sm k))) (hi : ∀ k, it (k + 1) = runF [] 2 3 (itemsB (sm k))) (hz : ∀ k, ii (k + 1) = runF [] 1 1 isIntB) :
    ∀ (n k : Nat) (d : D), pl n d = true → 2 * n + 1 ≤ k → sm k [d, d] = .ret false (.bl true) [] := by
  intro n
  induction n with
  | zero => intro k d h _; simp [pl] at h
  | succ n ihn =>
    intro k d h hk
    obtain ⟨k, rfl⟩ : ∃ k', k = k' + 2 := ⟨k - 2, by omega⟩
    have ih : ∀ e, pl n e = true → sm k [e, e] = .ret false (.bl true) [] := fun e he => ihn k e he (by omega)
    rw [hs]
    have e0 : initS [] 3 [d, d] = [some (.sh, d), some (.sh, d), none] := rfl
    match d, h with
    | .non, _ =>
      refine runF_rt (s := [some (.sh, .non), some (.sh, .non), none]) ?_ rfl rfl
      rw [e0]; unfold sameB; simp (implicitDefEqProofs := false)
    | .bl b, _ =>
      refine runF_rt (s := [some (.sh, .bl b), some (.sh, .bl b), none]) ?_ rfl rfl
      rw [e0]; unfold sameB; simp (implicitDefEqProofs := false)
    | .int i, _ =>
      refine runF_rt (s := [some (.sh, .int i), some (.sh, .int i), none]) ?_ rfl rfl
      rw [e0]; unfold sameB; simp (implicitDefEqProofs := false) [hz, isInt_int]
    | .str x, _ =>
      refine runF_rt (s := [some (.sh, .str x), some (.sh, .str x), none]) ?_ rfl rfl
      rw [e0]; unfold sameB; simp (implicitDefEqProofs := false)
    | .tup ds, h =>
      rw [pl, Bool.and_eq_true, List.all_eq_true, decide_eq_true_eq] at h
      obtain ⟨h1, h2⟩ := h
      have hit : it (k + 1) [.tup ds, .tup ds] = .ret false (.bl true) [] := by
        rw [hi]
        refine items_run h2 rfl rfl fun j hj => ?_
        have ea : ixD (.tup ds) (.int j) = some (false, ds[j]) := by rw [v_ixT, at_nat, List.getElem?_eq_getElem hj]; rfl
        exact ⟨ds[j], false, ea, ea, ih _ (h1 _ (List.getElem_mem hj))⟩
      refine runF_rt (s := [some (.sh, .tup ds), some (.sh, .tup ds), none]) ?_ rfl rfl
      rw [e0]; unfold sameB; simp (implicitDefEqProofs := false) [hit]
    | .lst ds, h =>
      rw [pl, Bool.and_eq_true, List.all_eq_true, decide_eq_true_eq] at h
      obtain ⟨h1, h2⟩ := h
      have hit : it (k + 1) [.lst ds, .lst ds] = .ret false (.bl true) [] := by
        rw [hi]
        refine items_run h2 rfl rfl fun j hj => ?_
        have ea : ixD (.lst ds) (.int j) = some (false, ds[j]) := by rw [v_ixL, at_nat, List.getElem?_eq_getElem hj]; rfl
        exact ⟨ds[j], false, ea, ea, ih _ (h1 _ (List.getElem_mem hj))⟩
      refine runF_rt (s := [some (.sh, .lst ds), some (.sh, .lst ds), none]) ?_ rfl rfl
      rw [e0]; unfold sameB; simp (implicitDefEqProofs := false) [hit]
    | .fro _, h => simp [pl] at h
    | .dct _, h => simp [pl] at h
    | .ty _, h => simp [pl] at h
end PV

/-! PV: texts: where a sign stands. -/
namespace PV
open PySem PySem.Spec L2 PySem.StrLaws PySem.Builtin.Str
theorem occ_keeps (s sub : Str) (hi : Nat) : ∀ (l : List Nat) (st : Array Nat × Nat), st.fst.size = 1 → (forIn l st (occBody s sub hi 1)).run.fst = st.fst
  | [], st, h => rfl
  | a :: l, st, h => by
    rw [List.forIn_cons]
    unfold occBody
    rw [if_neg (by omega)]
    exact occ_keeps s sub hi l _ h
theorem occ_first (s sub : Str) (hi : Nat) (p : Nat → Bool) (hp : ∀ i, p i = true ↔ (i + sub.length ≤ hi ∧ subAt s sub i = true)) : ∀ (l : List Nat) (free : Nat), (∀ i ∈ l, free ≤ i) →
    (forIn l ((#[] : Array Nat), free) (occBody s sub hi 1)).run.fst.toList = (l.find? p).toList
  | [], free, _ => by simp
  | a :: l, free, hf => by
    rw [List.forIn_cons]
    unfold occBody
    have ha : free ≤ a := hf a List.mem_cons_self
    by_cases hc : a + sub.length ≤ hi ∧ subAt s sub a = true
    · have c1 : ((((#[] : Array Nat), free).fst.size < 1 ∧ ((#[] : Array Nat), free).snd ≤ a) ∧ a + sub.length ≤ hi) ∧ subAt s sub a = true := ⟨⟨⟨by simp, ha⟩, hc.1⟩, hc.2⟩
      rw [if_pos c1, List.find?_cons_of_pos ((hp a).mpr hc)]
      have := occ_keeps s sub hi l ((#[] : Array Nat).push a, a + sub.length) (by simp)
      show (forIn l ((#[] : Array Nat).push a, a + sub.length) (occBody s sub hi 1)).run.fst.toList = _
      rw [this]
      simp
    · have c2 : ¬ (((((#[] : Array Nat), free).fst.size < 1 ∧ ((#[] : Array Nat), free).snd ≤ a) ∧ a + sub.length ≤ hi) ∧ subAt s sub a = true) := fun h => hc ⟨h.1.2, h.2⟩
      rw [if_neg c2, List.find?_cons_of_neg (fun h => hc ((hp a).mp h))]
      exact occ_first s sub hi p hp l free fun i hi' => hf i (List.mem_cons_of_mem _ hi')
/-- where c stands next, from i on; the end if nowhere -/
def nextAt (l : List Nat) (c i : Nat) : Nat := i + ((l.drop i).takeWhile fun z => decide (z ≠ c)).length
theorem nextAt_le {l : List Nat} {c i : Nat} (h : i ≤ l.length) : nextAt l c i ≤ l.length := by
  unfold nextAt
  have := (List.takeWhile_sublist (fun z => decide (z ≠ c)) (l := l.drop i)).length_le
  rw [List.length_drop] at this
  omega
theorem nextAt_hit {l : List Nat} {c i : Nat} (h : l[i]? = some c) : nextAt l c i = i := by
  obtain ⟨h1, h2⟩ := List.getElem?_eq_some_iff.mp h
  unfold nextAt
  rw [List.drop_eq_getElem_cons h1, h2, List.takeWhile_cons_of_neg (by simp)]
  rfl
theorem nextAt_miss {l : List Nat} {c i z : Nat} (h : l[i]? = some z) (hz : z ≠ c) : nextAt l c i = nextAt l c (i + 1) := by
  obtain ⟨h1, h2⟩ := List.getElem?_eq_some_iff.mp h
  unfold nextAt
  rw [List.drop_eq_getElem_cons h1, h2, List.takeWhile_cons_of_pos (by simpa using hz), List.length_cons]
  omega
theorem nextAt_end {l : List Nat} {c i : Nat} (h : l.length ≤ i) : nextAt l c i = i := by
  unfold nextAt
  rw [List.drop_eq_nil_of_le h]
  rfl
theorem find_range (l : List Nat) (c : Nat) : ∀ (n i : Nat), i + n = l.length + 1 → ((List.range' i n).find? fun j => decide (l[j]? = some c)) = if nextAt l c i < l.length then some (nextAt l c i) else none
  | 0, i, h => by
    rw [nextAt_end (by omega), if_neg (by omega)]
    rfl
  | n + 1, i, h => by
    rw [List.range'_succ]
    by_cases hc : l[i]? = some c
    · rw [List.find?_cons_of_pos (by simpa using hc), nextAt_hit hc, if_pos (List.getElem?_eq_some_iff.mp hc).1]
    · rw [List.find?_cons_of_neg (by simpa using hc), find_range l c n (i + 1) (by omega)]
      by_cases hi : i < l.length
      · have e : l[i]? = some l[i] := List.getElem?_eq_getElem hi
        rw [nextAt_miss e fun q => hc (by rw [e, q])]
      · rw [nextAt_end (i := i) (by omega), nextAt_end (i := i + 1) (by omega), if_neg (by omega), if_neg (by omega)]
theorem find_one (x : Str) (c i : Nat) (h : i ≤ x.length) : Txt.find3 x ⟨#[c]⟩ (i : Int) = if nextAt x.cps.toList c i < x.cps.toList.length then ((nextAt x.cps.toList c i : Nat) : Int) else -1 := by
  have hl : x.cps.toList.length = x.length := by simp [Str.length]
  unfold Txt.find3
  have hf : fromIndex x.length (i : Int) = i := by unfold fromIndex; rw [if_neg (by omega)]; omega
  rw [hf, occ_eq]
  have key := occ_first x ⟨#[c]⟩ x.length (fun j => decide (x.cps.toList[j]? = some c)) (fun j => by rw [decide_eq_true_eq, subAt_one]) (List.range' i (x.length + 1 - i)) i (fun j m => (List.mem_range'_1.mp m).1)
  rw [key, find_range _ _ _ _ (by omega)]
  by_cases h5 : nextAt x.cps.toList c i < x.cps.toList.length
  · rw [if_pos h5, if_pos h5]; rfl
  · rw [if_neg h5, if_neg h5]; rfl
end PV

/-! PV: texts by their signs. -/
namespace PV
open PySem PySem.Spec L2
def tx (l : List Nat) : Str := ⟨l.toArray⟩
theorem tx_of (x : Str) : x = tx x.cps.toList := rfl
@[simp] theorem tx_list (l : List Nat) : (tx l).cps.toList = l := rfl
@[simp] theorem tx_len (l : List Nat) : (tx l).length = l.length := by simp [tx, Str.length]
theorem tx_inj {l m : List Nat} : tx l = tx m ↔ l = m := ⟨fun h => by simpa using congrArg (fun z : Str => z.cps.toList) h, fun h => by rw [h]⟩
/-- c stands in y -/
def hasC (y : Str) (c : Nat) : Bool := decide (c ∈ y.cps.toList)
section
variable {s : S} {l m : List Nat} {c i : Nat} {n : Bool}
@[simp] theorem t_len (hs : l.length ≤ sizeLine) : lenD (.str (tx l)) = some (false, .int l.length) := by simp [hs]
@[simp] theorem t_ix (hs : l.length ≤ sizeLine) (h : l[i]? = some c) : ixD (.str (tx l)) (.int i) = some (false, .str (tx [c])) := by
  rw [v_ixS, tx_len, if_pos hs, tx_list, at_nat, h]; rfl
@[simp] theorem t_in {y : Str} : inD n (.str (tx [c])) (.str y) = some (false, .bl (if n then !hasC y c else hasC y c)) := by
  have e : inStr (tx [c]) y = hasC y c := PySem.StrLaws.found_one y c
  unfold inD
  simp only [e]
theorem t_cut {i j : Nat} (h : i ≤ l.length) : cutS (tx l) (some (i : Int)) (some (j : Int)) = tx ((l.drop i).take (j - i)) := by
  unfold cutS
  rw [tx_list, tx_len, HT.sIx_nat, HT.sIx_nat, Nat.min_eq_left h]
  have : (l.drop i).take (min j l.length - i) = (l.drop i).take (j - i) := by
    by_cases hj : j ≤ l.length
    · rw [Nat.min_eq_left hj]
    · rw [Nat.min_eq_right (by omega), List.take_of_length_le (by simp), List.take_of_length_le (by simp; omega)]
  rw [this]
  rfl
theorem t_drop {i : Nat} (h : i ≤ l.length) : cutS (tx l) (some (i : Int)) none = tx (l.drop i) := by
  unfold cutS
  rw [tx_list, tx_len, HT.sIx_nat, HT.sIx_none, Nat.min_eq_left h]
  rw [List.take_of_length_le (by simp)]
  rfl
theorem t_slice {i j : Nat} (hs : l.length ≤ sizeLine) (h : i ≤ l.length) : sliceD (some (i : Int)) (some (j : Int)) (.str (tx l)) = some (false, .str (tx ((l.drop i).take (j - i)))) := by
  show (if (tx l).length ≤ sizeLine then some (false, D.str (cutS (tx l) (some (i : Int)) (some (j : Int)))) else none) = _
  rw [if_pos (by simpa using hs), t_cut h]
theorem t_tail {i : Nat} (hs : l.length ≤ sizeLine) (h : i ≤ l.length) : sliceD (some (i : Int)) none (.str (tx l)) = some (false, .str (tx (l.drop i))) := by
  show (if (tx l).length ≤ sizeLine then some (false, D.str (cutS (tx l) (some (i : Int)) none)) else none) = _
  rw [if_pos (by simpa using hs), t_drop h]
theorem t_signs : signs (tx l) = l.map fun c => .str (tx [c]) := rfl
theorem t_find (h : i ≤ l.length) : findD (tx l) [.str (tx [c]), .int i] = some (false, .int (if nextAt l c i < l.length then ((nextAt l c i : Nat) : Int) else -1)) := by
  unfold findD
  have := find_one (tx l) c i (by simpa using h)
  rw [tx_list] at this
  simp only []
  rw [show (⟨#[c]⟩ : Str) = tx [c] from rfl] at this
  rw [this]
@[simp] theorem ev_chain (g g' : D → D → Option (Bool × D)) (a b c : M (Bool × D)) : chainM g g' a b c s = (a s).bind fun x s1 => (b s1).bind fun y s2 => match g x.2 y.2 with
  | some (_, .bl true) => (c s2).bind fun z s3 => (match g' y.2 z.2 with | some r => .ok r s3 | none => .stuck)
  | some (_, .bl false) => .ok (false, .bl false) s2
  | _ => .stuck := rfl
@[simp] theorem ev_sl_ll (a l h : Opd) : sliceM a (some l) (some h) s = opsM [a, .ex (intM l), .ex (intM h)] (fun ds s => match ds with
    | [x, .int i, .int j] => (match sliceD (some i) (some j) x with | some r => .ok r s | none => .stuck)
    | _ => .stuck) s := rfl
@[simp] theorem ev_sl_l (a l : Opd) : sliceM a (some l) none s = opsM [a, .ex (intM l)] (fun ds s => match ds with
    | [x, .int i] => (match sliceD (some i) none x with | some r => .ok r s | none => .stuck)
    | _ => .stuck) s := rfl
@[simp] theorem ev_aug (g : D → D → Option (Bool × D)) (i : Nat) (f : M (Bool × D)) : augM g i f s = match s[i]? with
  | some (some (.io, _)) => .stuck
  | some (some (_, _)) => (f s).bind fun y s' => (match s'[i]? with
    | some (some (_, dx)) => (match g dx y.2 with
      | some (false, z) => (match putS s' i .sh z with | some s2 => .ok .nx s2 | none => .stuck)
      | _ => .stuck)
    | _ => .stuck)
  | _ => .stuck := rfl
@[simp] theorem v_addI2 {i j : Int} : addI (.int i) (.int j) = some (false, .int (i + j)) := rfl
@[simp] theorem t_le {a b : Nat} : leD (.str (tx [a])) (.str (tx [b])) = some (false, .bl (decide (a ≤ b))) := by
  show some (false, D.bl (!decide ((tx [b]).cps.toList < (tx [a]).cps.toList))) = _
  rw [tx_list, tx_list]
  have : (!decide ([b] < [a])) = decide (a ≤ b) := by
    rw [Bool.eq_iff_iff]
    simp [List.cons_lt_cons_iff]
  rw [this]
@[simp] theorem t_eq {a b : List Nat} : eqS n (.str (tx a)) (.str (tx b)) = some (false, .bl (if n then !decide (a = b) else decide (a = b))) := by
  rw [v_eqT]
  have : decide (tx a = tx b) = decide (a = b) := by
    rw [Bool.eq_iff_iff, decide_eq_true_eq, decide_eq_true_eq]
    exact tx_inj
  rw [this]
/-- the run of signs p from i on ends here -/
def runTo (p : Nat → Bool) (l : List Nat) (i : Nat) : Nat := i + ((l.drop i).takeWhile p).length
theorem runTo_end {p : Nat → Bool} (h : l.length ≤ i) : runTo p l i = i := by
  unfold runTo; rw [List.drop_eq_nil_of_le h]; rfl
theorem runTo_yes {p : Nat → Bool} (h : l[i]? = some c) (hp : p c = true) : runTo p l i = runTo p l (i + 1) := by
  obtain ⟨h1, h2⟩ := List.getElem?_eq_some_iff.mp h
  unfold runTo
  rw [List.drop_eq_getElem_cons h1, h2, List.takeWhile_cons_of_pos hp, List.length_cons]
  omega
theorem runTo_no {p : Nat → Bool} (h : l[i]? = some c) (hp : p c = false) : runTo p l i = i := by
  obtain ⟨h1, h2⟩ := List.getElem?_eq_some_iff.mp h
  unfold runTo
  rw [List.drop_eq_getElem_cons h1, h2, List.takeWhile_cons_of_neg (by simp [hp])]
  rfl
theorem runTo_ge {p : Nat → Bool} : i ≤ runTo p l i := Nat.le_add_right _ _
theorem runTo_le {p : Nat → Bool} (h : i ≤ l.length) : runTo p l i ≤ l.length := by
  unfold runTo
  have := (List.takeWhile_sublist p (l := l.drop i)).length_le
  rw [List.length_drop] at this
  omega
theorem runTo_congr {p q : Nat → Bool} (h : ∀ c, p c = q c) : runTo p l i = runTo q l i := by rw [show p = q from funext h]
end
theorem txts_map : ∀ ys : List Str, txts (ys.map D.str) = some ys
  | [] => rfl
  | y :: ys => by
    have h := txts_map ys
    simp only [List.map_cons]
    unfold txts
    simp [h]
end PV

/-! Printed by gen.py: the defs of the text by values. -/
namespace K01
open PySem PySem.Spec L2 PV
def top (i : Nat) : Stmt := PySem.Challenge.pw_onescore_k01_tokens_of_texts.main.body.getD i (.Pass ⟨0, 0, 0, 0⟩)
def d_DIGITS : D := (.str "0123456789")
def d_LETTERS : D := (.str "abcdefghijklmnopqrstuvwxyzABCDEFGHIJKLMNOPQRSTUVWXYZ")
def d_NAME_CHARACTERS : D := (.str "abcdefghijklmnopqrstuvwxyzABCDEFGHIJKLMNOPQRSTUVWXYZ0123456789_")
def d_SIGNS : D := (.str "(){},:=<+-*")
def d_WORDS : D := (.tup [(.str "ends"), (.str "part"), (.str "play"), (.str "call"), (.str "asks"), (.str "sets"), (.str "as"), (.str "if"), (.str "else"), (.str "while")])
structure Gb (K : PySem.W.Frag) (mg : Str → Option Value) : Prop where
  b_abs : mg "abs" = none
  b_bool : mg "bool" = none
  b_dict : mg "dict" = none
  b_int : mg "int" = none
  b_isinstance : mg "isinstance" = none
  b_len : mg "len" = none
  b_list : mg "list" = none
  b_range : mg "range" = none
  b_str : mg "str" = none
  b_tuple : mg "tuple" = none
  g_DIGITS : Gc K mg "DIGITS" d_DIGITS
  g_LETTERS : Gc K mg "LETTERS" d_LETTERS
  g_NAME_CHARACTERS : Gc K mg "NAME_CHARACTERS" d_NAME_CHARACTERS
  g_SIGNS : Gc K mg "SIGNS" d_SIGNS
  g_WORDS : Gc K mg "WORDS" d_WORDS
structure Tab (P : Program) (w : World) (K : PySem.W.Frag) (mg : Str → Option Value) (base : Heap) (k : Nat) (c : Nat → FS) : Prop where
  t0 : Kn P w K mg base k "run_end" ["text", "start", "allowed"] [] (c 0)
  t1 : Kn P w K mg base k "token_at" ["text", "start"] [] (c 1)
  t2 : Kn P w K mg base k "tokens" ["text"] [] (c 2)
  t3 : Kn P w K mg base k "_law_tape" ["_law_script"] [] (c 3)
  t4 : Kn P w K mg base k "_law_take" ["_law_tape_here", "_law_many"] [0] (c 4)
  t5 : Kn P w K mg base k "_law_is_integer" ["_law_actual"] [] (c 5)
  t6 : Kn P w K mg base k "_law_same_items" ["_law_actual", "_law_expected"] [] (c 6)
  t7 : Kn P w K mg base k "_law_same" ["_law_actual", "_law_expected"] [] (c 7)
  t8 : Kn P w K mg base k "_law_letter" ["_law_char_here"] [] (c 8)
  t9 : Kn P w K mg base k "_law_digit" ["_law_char_here"] [] (c 9)
  t10 : Kn P w K mg base k "_law_stretch" ["_law_text", "_law_at"] [] (c 10)
  t11 : Kn P w K mg base k "_law_token" ["_law_text", "_law_at"] [] (c 11)
  t12 : Kn P w K mg base k "_law_tokens" ["_law_text"] [] (c 12)
  t13 : Kn P w K mg base k "_law_char" ["_law_tape_here"] [0] (c 13)
  t14 : Kn P w K mg base k "_law_scraps" ["_law_tape_here", "_law_most"] [0] (c 14)
  t15 : Kn P w K mg base k "law" ["_law_script"] [] (c 15)
/-- run_end -/
abbrev N0 : List Str := ["text", "start", "allowed", "end"]
abbrev p0 : List Str := ["text", "start", "allowed"]
theorem sc0 : FnScope N0 p0 (defScope (top 6)) := ⟨rfl, rfl, rfl, by decide +kernel, rfl, by decide +kernel, by decide +kernel⟩
noncomputable def b0 (c : Nat → FS) : M Fl :=
  (seqM (setM 3 (varM 1))
    (seqM (whileM (andM (truB (binM ltD (.sl 3) (.ex (unM lenD (.sl 0))))) (truB (binM (inD false) (.ex (binM ixD (.sl 0) (.sl 3))) (.sl 2)))) (augM addI 3 (constM (.int 1))))
    (retM (moveM 3))))
/-- token_at -/
abbrev N1 : List Str := ["text", "start", "char", "end"]
abbrev p1 : List Str := ["text", "start"]
theorem sc1 : FnScope N1 p1 (defScope (top 7)) := ⟨rfl, rfl, rfl, by decide +kernel, rfl, by decide +kernel, by decide +kernel⟩
noncomputable def b1 (c : Nat → FS) : M Fl :=
  (seqM (setM 2 (binM ixD (.sl 0) (.sl 1)))
    (seqM (iteM (truB (binM (inD false) (.sl 2) (.ex (constM d_LETTERS)))) (seqM (setM 3 (callM (c 0) [.ex (varM 0), .ex (varM 1), .ex (constM d_NAME_CHARACTERS)]))
    (retM (tupM [(iteM (truB (binM (inD false) (.ex (sliceM (.sl 0) (some (.sl 1)) (some (.sl 3)))) (.ex (constM d_WORDS)))) (constM (.str "word")) (constM (.str "name"))), (varM 1), (varM 3)]))) nxM)
    (seqM (iteM (truB (binM (inD false) (.sl 2) (.ex (constM d_DIGITS)))) (retM (tupM [(constM (.str "number")), (varM 1), (callM (c 0) [.ex (varM 0), .ex (varM 1), .ex (constM d_DIGITS)])])) nxM)
    (seqM (iteM (truB (binM (inD false) (.ex (sliceM (.sl 0) (some (.sl 1)) (some (.ex (binM addD (.sl 1) (.ex (constM (.int 2)))))))) (.ex (tupM [(constM (.str "->")), (constM (.str "=="))])))) (retM (tupM [(constM (.str "sign")), (varM 1), (binM addD (.sl 1) (.ex (constM (.int 2))))])) nxM)
    (retM (tupM [(iteM (truB (binM (inD false) (.sl 2) (.ex (constM d_SIGNS)))) (constM (.str "sign")) (constM (.str "wrong"))), (varM 1), (binM addD (.sl 1) (.ex (constM (.int 1))))]))))))
/-- tokens -/
abbrev N2 : List Str := ["text", "result", "at", "line_end"]
abbrev p2 : List Str := ["text"]
theorem sc2 : FnScope N2 p2 (defScope (top 8)) := ⟨rfl, rfl, rfl, by decide +kernel, rfl, by decide +kernel, by decide +kernel⟩
noncomputable def b2 (c : Nat → FS) : M Fl :=
  (seqM (setM 1 (lstM []))
    (seqM (setM 2 (constM (.int 0)))
    (seqM (whileM (truB (binM ltD (.sl 2) (.ex (unM lenD (.sl 0))))) (iteM (orM (truB (binM (eqS false) (.ex (binM ixD (.sl 0) (.sl 2))) (.ex (constM (.str " "))))) (truB (binM (eqS false) (.ex (binM ixD (.sl 0) (.sl 2))) (.ex (constM (.str "\n")))))) (augM addI 2 (constM (.int 1))) (iteM (truB (binM (eqS false) (.ex (binM ixD (.sl 0) (.sl 2))) (.ex (constM (.str "#"))))) (seqM (setM 3 (methS findD (.sl 0) [(.ex (constM (.str "\n"))), (.sl 2)]))
    (setM 2 (iteM (truB (binM ltD (.sl 3) (.ex (constM (.int 0))))) (unM lenD (.sl 0)) (varM 3)))) (seqM (dropM (growM appD 1 (callM (c 1) [.ex (varM 0), .ex (varM 2)])))
    (setM 2 (binM ixD (.ex (binM ixD (.sl 1) (.ex (negM (.ex (constM (.int 1))))))) (.ex (constM (.int 2)))))))))
    (retM (moveM 1)))))
/-- _law_tape -/
abbrev N3 : List Str := ["_law_script", "_law_cells", "_law_seed", "_law_cell"]
abbrev p3 : List Str := ["_law_script"]
theorem sc3 : FnScope N3 p3 (defScope (top 10)) := ⟨rfl, rfl, rfl, by decide +kernel, rfl, by decide +kernel, by decide +kernel⟩
noncomputable def b3 (c : Nat → FS) : M Fl :=
  (seqM (setM 1 (compM (itM (varM 0)) (.nm 3) yesM (unM absD (.ex (unM toInt (.sl 3)))) [3]))
    (seqM (setM 2 (constM (.int 7)))
    (seqM (forM (itM (varM 1)) (.nm 3) (setM 2 (binM modD (.ex (unM toInt (.ex (binM addD (.ex (binM mulD (.sl 2) (.ex (constM (.int 31))))) (.sl 3))))) (.ex (constM (.int 2147483647))))))
    (retM (dispM [((constM (.str "cells")), (varM 1)), ((constM (.str "at")), (constM (.int 0))), ((constM (.str "left")), (constM (.int 0))), ((constM (.str "seed")), (varM 2)), ((constM (.str "salt")), (constM (.int 0)))])))))
/-- _law_take -/
abbrev N4 : List Str := ["_law_tape_here", "_law_many", "_law_drawn", "_law_mixed"]
abbrev p4 : List Str := ["_law_tape_here", "_law_many"]
theorem sc4 : FnScope N4 p4 (defScope (top 11)) := ⟨rfl, rfl, rfl, by decide +kernel, rfl, by decide +kernel, by decide +kernel⟩
noncomputable def b4 (c : Nat → FS) : M Fl :=
  (seqM (iteM (andM (truB (binM (eqS false) (.ex (binM ixD (.sl 0) (.ex (constM (.str "left"))))) (.ex (constM (.int 0))))) (truB (binM ltD (.ex (binM ixD (.sl 0) (.ex (constM (.str "at"))))) (.ex (unM lenD (.ex (binM ixD (.sl 0) (.ex (constM (.str "cells")))))))))) (seqM (setItM 0 (constM (.str "left")) (binM ixD (.ex (binM ixD (.sl 0) (.ex (constM (.str "cells"))))) (.ex (binM ixD (.sl 0) (.ex (constM (.str "at")))))))
    (setItM 0 (constM (.str "at")) (binM addD (.ex (binM ixD (.sl 0) (.ex (constM (.str "at"))))) (.ex (constM (.int 1)))))) nxM)
    (seqM (iteM (truB (binM gtD (.ex (binM ixD (.sl 0) (.ex (constM (.str "left"))))) (.ex (constM (.int 0))))) (seqM (setM 2 (binM modD (.ex (unM toInt (.ex (binM ixD (.sl 0) (.ex (constM (.str "left"))))))) (.sl 1)))
    (seqM (setItM 0 (constM (.str "left")) (binM divD (.ex (binM ixD (.sl 0) (.ex (constM (.str "left"))))) (.sl 1)))
    (retM (moveM 2)))) nxM)
    (seqM (setItM 0 (constM (.str "salt")) (binM addD (.ex (binM ixD (.sl 0) (.ex (constM (.str "salt"))))) (.ex (constM (.int 1)))))
    (seqM (setM 3 (binM modD (.ex (unM toInt (.ex (binM addD (.ex (binM mulD (.ex (binM ixD (.sl 0) (.ex (constM (.str "seed"))))) (.ex (constM (.int 48271))))) (.ex (binM mulD (.ex (binM ixD (.sl 0) (.ex (constM (.str "salt"))))) (.ex (constM (.int 69621))))))))) (.ex (constM (.int 2147483647)))))
    (seqM (setM 3 (binM modD (.ex (unM toInt (.ex (binM addD (.ex (binM addD (.ex (binM mulD (.sl 3) (.sl 3))) (.ex (binM mulD (.ex (binM ixD (.sl 0) (.ex (constM (.str "salt"))))) (.ex (constM (.int 40692))))))) (.ex (constM (.int 12345))))))) (.ex (constM (.int 2147483399)))))
    (retM (binM modD (.ex (unM toInt (.sl 3))) (.sl 1))))))))
/-- _law_is_integer -/
abbrev N5 : List Str := ["_law_actual"]
abbrev p5 : List Str := ["_law_actual"]
theorem sc5 : FnScope N5 p5 (defScope (top 12)) := ⟨rfl, rfl, rfl, by decide +kernel, rfl, by decide +kernel, by decide +kernel⟩
noncomputable def b5 (c : Nat → FS) : M Fl :=
  (retM (andV (binM isiD (.sl 0) (.ex (constM (.ty "int")))) (notV (.ex (binM isiD (.sl 0) (.ex (constM (.ty "bool"))))))))
/-- _law_same_items -/
abbrev N6 : List Str := ["_law_actual", "_law_expected", "_law_k"]
abbrev p6 : List Str := ["_law_actual", "_law_expected"]
theorem sc6 : FnScope N6 p6 (defScope (top 13)) := ⟨rfl, rfl, rfl, by decide +kernel, rfl, by decide +kernel, by decide +kernel⟩
noncomputable def b6 (c : Nat → FS) : M Fl :=
  (seqM (iteM (truB (binM (eqS true) (.ex (unM lenD (.sl 0))) (.ex (unM lenD (.sl 1))))) (retM (constM (.bl false))) nxM)
    (seqM (forM (rng1M (unM lenD (.sl 1))) (.nm 2) (iteM (notM (truM (.ex (callM (c 7) [.ex (binM ixD (.sl 0) (.sl 2)), .ex (binM ixD (.sl 1) (.sl 2))])))) (retM (constM (.bl false))) nxM))
    (retM (constM (.bl true)))))
/-- _law_same -/
abbrev N7 : List Str := ["_law_actual", "_law_expected", "_law_key"]
abbrev p7 : List Str := ["_law_actual", "_law_expected"]
theorem sc7 : FnScope N7 p7 (defScope (top 14)) := ⟨rfl, rfl, rfl, by decide +kernel, rfl, by decide +kernel, by decide +kernel⟩
noncomputable def b7 (c : Nat → FS) : M Fl :=
  (seqM (iteM (truB (binM (isD false) (.sl 1) (.ex (constM .non)))) (retM (binM (isD false) (.sl 0) (.ex (constM .non)))) nxM)
    (seqM (iteM (truM (.ex (binM isiD (.sl 1) (.ex (constM (.ty "bool")))))) (retM (andV (binM isiD (.sl 0) (.ex (constM (.ty "bool")))) (binM (eqS false) (.sl 0) (.sl 1)))) nxM)
    (seqM (iteM (truM (.ex (binM isiD (.sl 1) (.ex (constM (.ty "int")))))) (retM (andV (callM (c 5) [.ex (varM 0)]) (binM (eqS false) (.sl 0) (.sl 1)))) nxM)
    (seqM (iteM (truM (.ex (binM isiD (.sl 1) (.ex (constM (.ty "str")))))) (retM (andV (binM isiD (.sl 0) (.ex (constM (.ty "str")))) (binM (eqS false) (.sl 0) (.sl 1)))) nxM)
    (seqM (iteM (truM (.ex (binM isiD (.sl 1) (.ex (constM (.ty "tuple")))))) (retM (andV (binM isiD (.sl 0) (.ex (constM (.ty "tuple")))) (callM (c 6) [.ex (varM 0), .ex (varM 1)]))) nxM)
    (seqM (iteM (truM (.ex (binM isiD (.sl 1) (.ex (constM (.ty "list")))))) (retM (andV (binM isiD (.sl 0) (.ex (constM (.ty "list")))) (callM (c 6) [.ex (varM 0), .ex (varM 1)]))) nxM)
    (seqM (iteM (orM (notM (truM (.ex (binM isiD (.sl 0) (.ex (constM (.ty "dict"))))))) (truB (binM (eqS true) (.ex (unM lenD (.sl 0))) (.ex (unM lenD (.sl 1)))))) (retM (constM (.bl false))) nxM)
    (seqM (forM (itM (varM 1)) (.nm 2) (iteM (orM (truB (binM (inD true) (.sl 2) (.sl 0))) (notM (truM (.ex (callM (c 7) [.ex (binM ixD (.sl 0) (.sl 2)), .ex (binM ixD (.sl 1) (.sl 2))]))))) (retM (constM (.bl false))) nxM))
    (seqM (forM (itM (varM 0)) (.nm 2) (iteM (truM (.ex (binM isiD (.sl 2) (.ex (constM (.ty "bool")))))) (retM (constM (.bl false))) nxM))
    (retM (constM (.bl true))))))))))))
/-- _law_letter -/
abbrev N8 : List Str := ["_law_char_here"]
abbrev p8 : List Str := ["_law_char_here"]
theorem sc8 : FnScope N8 p8 (defScope (top 15)) := ⟨rfl, rfl, rfl, by decide +kernel, rfl, by decide +kernel, by decide +kernel⟩
noncomputable def b8 (c : Nat → FS) : M Fl :=
  (retM (orV (chainM leD leD (constM (.str "a")) (varM 0) (constM (.str "z"))) (chainM leD leD (constM (.str "A")) (varM 0) (constM (.str "Z")))))
/-- _law_digit -/
abbrev N9 : List Str := ["_law_char_here"]
abbrev p9 : List Str := ["_law_char_here"]
theorem sc9 : FnScope N9 p9 (defScope (top 16)) := ⟨rfl, rfl, rfl, by decide +kernel, rfl, by decide +kernel, by decide +kernel⟩
noncomputable def b9 (c : Nat → FS) : M Fl :=
  (retM (chainM leD leD (constM (.str "0")) (varM 0) (constM (.str "9"))))
/-- _law_stretch -/
abbrev N10 : List Str := ["_law_text", "_law_at", "_law_end", "_law_number", "_law_char_here", "_law_inside"]
abbrev p10 : List Str := ["_law_text", "_law_at"]
theorem sc10 : FnScope N10 p10 (defScope (top 17)) := ⟨rfl, rfl, rfl, by decide +kernel, rfl, by decide +kernel, by decide +kernel⟩
noncomputable def b10 (c : Nat → FS) : M Fl :=
  (seqM (setM 2 (varM 1))
    (seqM (setM 3 (callM (c 9) [.ex (binM ixD (.sl 0) (.sl 1))]))
    (seqM (forM (itM (sliceM (.sl 0) (some (.sl 1)) none)) (.nm 4) (seqM (setM 5 (iteM (truM (.sl 3)) (callM (c 9) [.ex (varM 4)]) (orV (callM (c 8) [.ex (varM 4)]) (orV (callM (c 9) [.ex (varM 4)]) (binM (eqS false) (.sl 4) (.ex (constM (.str "_"))))))))
    (seqM (iteM (notM (truM (.sl 5))) (retM (moveM 2)) nxM)
    (setM 2 (binM addD (.sl 2) (.ex (constM (.int 1))))))))
    (retM (moveM 2)))))
/-- _law_token -/
abbrev N11 : List Str := ["_law_text", "_law_at", "_law_words", "_law_char_here", "_law_end"]
abbrev p11 : List Str := ["_law_text", "_law_at"]
theorem sc11 : FnScope N11 p11 (defScope (top 18)) := ⟨rfl, rfl, rfl, by decide +kernel, rfl, by decide +kernel, by decide +kernel⟩
noncomputable def b11 (c : Nat → FS) : M Fl :=
  (seqM (setM 2 (lstM [(constM (.str "ends")), (constM (.str "part")), (constM (.str "play")), (constM (.str "call")), (constM (.str "asks")), (constM (.str "sets")), (constM (.str "as")), (constM (.str "if")), (constM (.str "else")), (constM (.str "while"))]))
    (seqM (setM 3 (binM ixD (.sl 0) (.sl 1)))
    (seqM (iteM (truM (.ex (callM (c 8) [.ex (varM 3)]))) (seqM (setM 4 (callM (c 10) [.ex (varM 0), .ex (varM 1)]))
    (retM (tupM [(iteM (truB (binM (inD false) (.ex (sliceM (.sl 0) (some (.sl 1)) (some (.sl 4)))) (.sl 2))) (constM (.str "word")) (constM (.str "name"))), (varM 1), (varM 4)]))) nxM)
    (seqM (iteM (truM (.ex (callM (c 9) [.ex (varM 3)]))) (retM (tupM [(constM (.str "number")), (varM 1), (callM (c 10) [.ex (varM 0), .ex (varM 1)])])) nxM)
    (seqM (iteM (orM (truB (binM (eqS false) (.ex (sliceM (.sl 0) (some (.sl 1)) (some (.ex (binM addD (.sl 1) (.ex (constM (.int 2)))))))) (.ex (constM (.str "->"))))) (truB (binM (eqS false) (.ex (sliceM (.sl 0) (some (.sl 1)) (some (.ex (binM addD (.sl 1) (.ex (constM (.int 2)))))))) (.ex (constM (.str "==")))))) (retM (tupM [(constM (.str "sign")), (varM 1), (binM addD (.sl 1) (.ex (constM (.int 2))))])) nxM)
    (retM (tupM [(iteM (truB (binM (inD false) (.sl 3) (.ex (constM (.str "(){},:=<+-*"))))) (constM (.str "sign")) (constM (.str "wrong"))), (varM 1), (binM addD (.sl 1) (.ex (constM (.int 1))))])))))))
/-- _law_tokens -/
abbrev N12 : List Str := ["_law_text", "_law_result", "_law_behind", "_law_comment", "_law_at"]
abbrev p12 : List Str := ["_law_text"]
theorem sc12 : FnScope N12 p12 (defScope (top 19)) := ⟨rfl, rfl, rfl, by decide +kernel, rfl, by decide +kernel, by decide +kernel⟩
noncomputable def b12 (c : Nat → FS) : M Fl :=
  (seqM (setM 1 (lstM []))
    (seqM (setM 2 (constM (.int 0)))
    (seqM (setM 3 (constM (.bl false)))
    (seqM (forM (rng1M (unM lenD (.sl 0))) (.nm 4) (seqM (iteM (truB (binM (eqS false) (.ex (binM ixD (.sl 0) (.sl 4))) (.ex (constM (.str "\n"))))) (setM 3 (constM (.bl false))) nxM)
    (seqM (iteM (orM (truB (binM ltD (.sl 4) (.sl 2))) (orM (truM (.sl 3)) (orM (truB (binM (eqS false) (.ex (binM ixD (.sl 0) (.sl 4))) (.ex (constM (.str " "))))) (truB (binM (eqS false) (.ex (binM ixD (.sl 0) (.sl 4))) (.ex (constM (.str "\n")))))))) ctM nxM)
    (iteM (truB (binM (eqS false) (.ex (binM ixD (.sl 0) (.sl 4))) (.ex (constM (.str "#"))))) (setM 3 (constM (.bl true))) (seqM (dropM (growM appD 1 (callM (c 11) [.ex (varM 0), .ex (varM 4)])))
    (setM 2 (binM ixD (.ex (binM ixD (.sl 1) (.ex (negM (.ex (constM (.int 1))))))) (.ex (constM (.int 2))))))))))
    (retM (moveM 1))))))
/-- _law_char -/
abbrev N13 : List Str := ["_law_tape_here", "_law_chars"]
abbrev p13 : List Str := ["_law_tape_here"]
theorem sc13 : FnScope N13 p13 (defScope (top 20)) := ⟨rfl, rfl, rfl, by decide +kernel, rfl, by decide +kernel, by decide +kernel⟩
noncomputable def b13 (c : Nat → FS) : M Fl :=
  (seqM (setM 1 (constM (.str " !#$&'()*+,-./0123456789:;<=>?@ABCDEFGHIJKLMNOPQRSTUVWXYZ[]^_")))
    (seqM (setM 1 (binM addD (.sl 1) (.ex (constM (.str "abcdefghijklmnopqrstuvwxyz{|}~\n")))))
    (retM (binM ixD (.sl 1) (.ex (callM (c 4) [.sl 0, .ex (unM lenD (.sl 1))]))))))
/-- _law_scraps -/
abbrev N14 : List Str := ["_law_tape_here", "_law_most", "_law_words", "_law_parts", "_law_k"]
abbrev p14 : List Str := ["_law_tape_here", "_law_most"]
theorem sc14 : FnScope N14 p14 (defScope (top 21)) := ⟨rfl, rfl, rfl, by decide +kernel, rfl, by decide +kernel, by decide +kernel⟩
noncomputable def b14 (c : Nat → FS) : M Fl :=
  (seqM (setM 2 (lstM [(constM (.str "ends ")), (constM (.str "a")), (constM (.str "b")), (constM (.str ", ")), (constM (.str "play ")), (constM (.str "{")), (constM (.str "}")), (constM (.str "->")), (constM (.str ": ")), (constM (.str "go")), (constM (.str "(")), (constM (.str "1")), (constM (.str ")")), (constM (.str " as ")), (constM (.str "n")), (constM (.str " sets ")), (constM (.str "=")), (constM (.str "=="))]))
    (seqM (setM 2 (binM addD (.sl 2) (.ex (lstM [(constM (.str "<")), (constM (.str "+")), (constM (.str "-")), (constM (.str "*")), (constM (.str "if ")), (constM (.str " else ")), (constM (.str "while ")), (constM (.str "call ")), (constM (.str "part ")), (constM (.str " asks ")), (constM (.str "#")), (constM (.str "\n"))]))))
    (seqM (setM 3 (lstM []))
    (seqM (forM (rng1M (callM (c 4) [.sl 0, .ex (binM addD (.sl 1) (.ex (constM (.int 1))))])) (.nm 4) (dropM (growM appD 3 (iteM (truB (binM (eqS false) (.ex (callM (c 4) [.sl 0, .ex (constM (.int 5))])) (.ex (constM (.int 0))))) (callM (c 13) [.sl 0]) (binM ixD (.sl 2) (.ex (callM (c 4) [.sl 0, .ex (constM (.int 30))])))))))
    (retM (methS joinD (.ex (constM (.str ""))) [(.sl 3)]))))))
/-- law -/
abbrev N15 : List Str := ["_law_script", "_law_tape_here", "_law_k", "_law_text"]
abbrev p15 : List Str := ["_law_script"]
theorem sc15 : FnScope N15 p15 (defScope (top 22)) := ⟨rfl, rfl, rfl, by decide +kernel, rfl, by decide +kernel, by decide +kernel⟩
noncomputable def b15 (c : Nat → FS) : M Fl :=
  (seqM (setM 1 (callM (c 3) [.ex (varM 0)]))
    (seqM (forM (rng1M (constM (.int 2))) (.nm 2) (seqM (setM 3 (callM (c 14) [.sl 1, .ex (constM (.int 40))]))
    (iteM (notM (truM (.ex (callM (c 7) [.ex (callM (c 2) [.ex (varM 3)]), .ex (callM (c 12) [.ex (varM 3)])])))) (retM (constM (.bl false))) nxM)))
    (retM (constM (.bl true)))))
noncomputable def step (c : Nat → FS) : Nat → FS
  | 0 => runF [] 3 4 (b0 c)
  | 1 => runF [] 2 4 (b1 c)
  | 2 => runF [] 1 4 (b2 c)
  | 3 => runF [] 1 4 (b3 c)
  | 4 => runF [0] 2 4 (b4 c)
  | 5 => runF [] 1 1 (b5 c)
  | 6 => runF [] 2 3 (b6 c)
  | 7 => runF [] 2 3 (b7 c)
  | 8 => runF [] 1 1 (b8 c)
  | 9 => runF [] 1 1 (b9 c)
  | 10 => runF [] 2 6 (b10 c)
  | 11 => runF [] 2 5 (b11 c)
  | 12 => runF [] 1 5 (b12 c)
  | 13 => runF [0] 1 2 (b13 c)
  | 14 => runF [0] 2 5 (b14 c)
  | 15 => runF [] 1 4 (b15 c)
  | _ => stkF
noncomputable def sem : Nat → Nat → FS
  | 0 => fun _ => stkF
  | n + 1 => step (sem n)
theorem se0 (k : Nat) : sem (k + 1) 0 = runF [] 3 4 (b0 (sem k)) := rfl
theorem se1 (k : Nat) : sem (k + 1) 1 = runF [] 2 4 (b1 (sem k)) := rfl
theorem se2 (k : Nat) : sem (k + 1) 2 = runF [] 1 4 (b2 (sem k)) := rfl
theorem se3 (k : Nat) : sem (k + 1) 3 = runF [] 1 4 (b3 (sem k)) := rfl
theorem se4 (k : Nat) : sem (k + 1) 4 = runF [0] 2 4 (b4 (sem k)) := rfl
theorem se5 (k : Nat) : sem (k + 1) 5 = runF [] 1 1 (b5 (sem k)) := rfl
theorem se6 (k : Nat) : sem (k + 1) 6 = runF [] 2 3 (b6 (sem k)) := rfl
theorem se7 (k : Nat) : sem (k + 1) 7 = runF [] 2 3 (b7 (sem k)) := rfl
theorem se8 (k : Nat) : sem (k + 1) 8 = runF [] 1 1 (b8 (sem k)) := rfl
theorem se9 (k : Nat) : sem (k + 1) 9 = runF [] 1 1 (b9 (sem k)) := rfl
theorem se10 (k : Nat) : sem (k + 1) 10 = runF [] 2 6 (b10 (sem k)) := rfl
theorem se11 (k : Nat) : sem (k + 1) 11 = runF [] 2 5 (b11 (sem k)) := rfl
theorem se12 (k : Nat) : sem (k + 1) 12 = runF [] 1 5 (b12 (sem k)) := rfl
theorem se13 (k : Nat) : sem (k + 1) 13 = runF [0] 1 2 (b13 (sem k)) := rfl
theorem se14 (k : Nat) : sem (k + 1) 14 = runF [0] 2 5 (b14 (sem k)) := rfl
theorem se15 (k : Nat) : sem (k + 1) 15 = runF [] 1 4 (b15 (sem k)) := rfl
section
variable {P : Program} {w : World} {K : PySem.W.Frag} {mg : Str → Option Value} {base : Heap} {c : Nat → FS} {k : Nat}
theorem hu1 {k : Nat} {A : Around} (r : Room k A) : A.units + 1 < cLine := by have := r.un; omega
theorem hu65 {k : Nat} {A : Around} (r : Room k A) : A.units + 65 < cLine := by have := r.un; omega
abbrev FnP (K : PySem.W.Frag) (x : Str) (st : Stmt) (f : Addr) (fd : FuncData) : Prop := FunD K x x (defArgs st) (defBody st) (defScope st) [] [] f fd
/-- run_end -/
theorem w0 {f : Addr} {fd : FuncData} (F : FnP K "run_end" (top 6) f fd) (G : Gb K mg) (TB : Tab P w K mg base k c) : FnOk P w K mg base (L2.CX P w) (k + 1) f fd p0 (spF K [] 3 (runF [] 3 4 (b0 c))) := by
  have nd := sc0.nd
  let sc := defScope (top 6)
  let N := N0
  exact fn_okD (N := N0) (ps := p0) F sc0 (by decide) (by decide) fun cdv A outer s H E hr =>
    (ds_cons (ds_set (i := 3) (de_var (pv 1)) nd)
    (ds_cons (ds_while (passes_of rfl) (dt_w (dw_and (dt_cmp or_lt opd_ord (pv 3) (de_b1 or_len opd_len rfl G.b_len rfl (pv 0)) (nomark _)) (dw_and1 (dt_cmp (or_in (hu65 hr)) opd_in (de_ix (or_ix (hu1 hr)) opd_ix (pv 0) (pv 3)) (pv 2) (by with_unfolding_all rfl))))) (ds_one (ds_aug (i := 3) ip_addI opd_addI de_int nd)))
    (ds_one (ds_ret (de_move (pv 3))))))
/-- token_at -/
theorem w1 {f : Addr} {fd : FuncData} (F : FnP K "token_at" (top 7) f fd) (G : Gb K mg) (TB : Tab P w K mg base k c) : FnOk P w K mg base (L2.CX P w) (k + 1) f fd p1 (spF K [] 2 (runF [] 2 4 (b1 c))) := by
  have nd := sc1.nd
  let sc := defScope (top 7)
  let N := N1
  exact fn_okD (N := N1) (ps := p1) F sc1 (by decide) (by decide) fun cdv A outer s H E hr =>
    (ds_cons (ds_set (i := 2) (de_ix (or_ix (hu1 hr)) opd_ix (pv 0) (pv 1)) nd)
    (ds_cons (ds_if (dt_cmp (or_in (hu65 hr)) opd_in (pv 2) (de_glo G.g_LETTERS) (by with_unfolding_all rfl)) (ds_cons (ds_set (i := 3) (de_callK TB.t0 hr (takes_of rfl rfl rfl rfl) (da_cons (de_var (pv 0)) (da_cons (de_var (pv 1)) (da_cons (de_glo G.g_NAME_CHARACTERS) da_nil)))) nd)
    (ds_one (ds_ret (de_tup (da_cons (de_ite (dt_cmp (or_in (hu65 hr)) opd_in (de_slice (pv 0) (pod_some (pv 1)) (pod_some (pv 3))) (de_glo G.g_WORDS) (by with_unfolding_all rfl)) de_str de_str) (da_cons (de_var (pv 1)) (da_cons (de_var (pv 3)) da_nil))))))) ds_nil)
    (ds_cons (ds_if (dt_cmp (or_in (hu65 hr)) opd_in (pv 2) (de_glo G.g_DIGITS) (by with_unfolding_all rfl)) (ds_one (ds_ret (de_tup (da_cons de_str (da_cons (de_var (pv 1)) (da_cons (de_callK TB.t0 hr (takes_of rfl rfl rfl rfl) (da_cons (de_var (pv 0)) (da_cons (de_var (pv 1)) (da_cons (de_glo G.g_DIGITS) da_nil)))) da_nil)))))) ds_nil)
    (ds_cons (ds_if (dt_cmp (or_in (hu65 hr)) opd_in (de_slice (pv 0) (pod_some (pv 1)) (pod_some (de_op or_add opd_add (pv 1) de_int))) (de_tup (da_cons de_str (da_cons de_str da_nil))) (by with_unfolding_all rfl)) (ds_one (ds_ret (de_tup (da_cons de_str (da_cons (de_var (pv 1)) (da_cons (de_op or_add opd_add (pv 1) de_int) da_nil)))))) ds_nil)
    (ds_one (ds_ret (de_tup (da_cons (de_ite (dt_cmp (or_in (hu65 hr)) opd_in (pv 2) (de_glo G.g_SIGNS) (by with_unfolding_all rfl)) de_str de_str) (da_cons (de_var (pv 1)) (da_cons (de_op or_add opd_add (pv 1) de_int) da_nil))))))))))
/-- tokens -/
theorem w2 {f : Addr} {fd : FuncData} (F : FnP K "tokens" (top 8) f fd) (G : Gb K mg) (TB : Tab P w K mg base k c) : FnOk P w K mg base (L2.CX P w) (k + 1) f fd p2 (spF K [] 1 (runF [] 1 4 (b2 c))) := by
  have nd := sc2.nd
  let sc := defScope (top 8)
  let N := N2
  exact fn_okD (N := N2) (ps := p2) F sc2 (by decide) (by decide) fun cdv A outer s H E hr =>
    (ds_cons (ds_set (i := 1) (de_lst da_nil) nd)
    (ds_cons (ds_set (i := 2) de_int nd)
    (ds_cons (ds_while (passes_of rfl) (dt_cmp or_lt opd_ord (pv 2) (de_b1 or_len opd_len rfl G.b_len rfl (pv 0)) (nomark _)) (ds_one (ds_if (dt_w (dw_or (dt_cmp (or_eqS hr.units) opd_eqS (de_ix (or_ix (hu1 hr)) opd_ix (pv 0) (pv 2)) de_str (nomark _)) (dw_or1 (dt_cmp (or_eqS hr.units) opd_eqS (de_ix (or_ix (hu1 hr)) opd_ix (pv 0) (pv 2)) de_str (nomark _))))) (ds_one (ds_aug (i := 2) ip_addI opd_addI de_int nd)) (ds_one (ds_if (dt_cmp (or_eqS hr.units) opd_eqS (de_ix (or_ix (hu1 hr)) opd_ix (pv 0) (pv 2)) de_str (nomark _)) (ds_cons (ds_set (i := 3) (dm_methB (pe_bm PySem.F.plainAttrs_str PySem.F.slot_str_find PySem.F.type_str_find mt_find3 (pv 0) (da_cons de_str (da_cons (pv 2) da_nil))) ops_find) nd)
    (ds_one (ds_set (i := 2) (de_ite (dt_cmp or_lt opd_ord (pv 3) de_int (nomark _)) (de_b1 or_len opd_len rfl G.b_len rfl (pv 0)) (de_var (pv 3))) nd))) (ds_cons (ds_expr (dm_grow (pe_bm PySem.F.plainAttrs_list PySem.F.slot_list_append PySem.F.type_list_append mt_append (pv 1) (pa_cons (de_callK TB.t1 hr (takes_of rfl rfl rfl rfl) (da_cons (de_var (pv 0)) (da_cons (de_var (pv 2)) da_nil))) pa_nil)) grow_app))
    (ds_one (ds_set (i := 2) (de_ix (or_ix (hu1 hr)) opd_ix (de_ix (or_ix (hu1 hr)) opd_ix (pv 1) (de_neg de_int)) de_int) nd))))))))
    (ds_one (ds_ret (de_move (pv 1)))))))
/-- _law_tape -/
theorem w3 {f : Addr} {fd : FuncData} (F : FnP K "_law_tape" (top 10) f fd) (G : Gb K mg) (TB : Tab P w K mg base k c) : FnOk P w K mg base (L2.CX P w) (k + 1) f fd p3 (spF K [] 1 (runF [] 1 4 (b3 c))) := by
  have nd := sc3.nd
  let sc := defScope (top 10)
  let N := N3
  exact fn_okD (N := N3) (ps := p3) F sc3 (by decide) (by decide) fun cdv A outer s H E hr =>
    (ds_cons (ds_comp (ps_setLc (i := 1) (own := [("_law_cell", 3)]) (g := gT _ (.nm 3)) rfl nd rfl rfl (sw_true rfl rfl rfl (by decide +kernel)) (di_it (de_var (pv 0))) (blkOk_by (own := [("_law_cell", 3)]) (N := N) (sc := sc) (by decide +kernel)) (fun _ _ _ _ _ => (dg_name nd)) (fun _ _ _ _ _ => dts_nil) (fun _ _ _ _ _ => (de_b1 call_abs opd_abs rfl G.b_abs rfl (de_t1 call_int1 opd_toInt rfl G.b_int rfl (pv 3))))))
    (ds_cons (ds_set (i := 2) de_int nd)
    (ds_cons (ds_for (passes_of rfl) rfl (di_it (de_var (pv 1))) (dg_name nd) (ds_one (ds_set (i := 2) (de_op op_mod opd_mod (de_t1 call_int1 opd_toInt rfl G.b_int rfl (de_op or_add opd_add (de_op op_mul opd_mul (pv 2) de_int) (pv 3))) de_int) nd)))
    (ds_one (ds_ret (dm_disp (pe_disp (pps_cons de_str (de_var (pv 1)) (pps_cons de_str de_int (pps_cons de_str de_int (pps_cons de_str (de_var (pv 2)) (pps_cons de_str de_int pps_nil))))) rfl rfl (List.cons_ne_nil _ _) (by decide))))))))
/-- _law_take -/
theorem w4 {f : Addr} {fd : FuncData} (F : FnP K "_law_take" (top 11) f fd) (G : Gb K mg) (TB : Tab P w K mg base k c) : FnOk P w K mg base (L2.CX P w) (k + 1) f fd p4 (spF K [0] 2 (runF [0] 2 4 (b4 c))) := by
  have nd := sc4.nd
  let sc := defScope (top 11)
  let N := N4
  exact fn_okD (N := N4) (ps := p4) F sc4 (by decide) (by decide) fun cdv A outer s H E hr =>
    (ds_cons (ds_if (dt_w (dw_and (dt_cmp (or_eqS hr.units) opd_eqS (de_ix (or_ix (hu1 hr)) opd_ix (pv 0) de_str) de_int (nomark _)) (dw_and1 (dt_cmp or_lt opd_ord (de_ix (or_ix (hu1 hr)) opd_ix (pv 0) de_str) (de_b1 or_len opd_len rfl G.b_len rfl (de_ix (or_ix (hu1 hr)) opd_ix (pv 0) de_str)) (nomark _))))) (ds_cons (ds_setIt (ps_asg (de_ix (or_ix (hu1 hr)) opd_ix (de_ix (or_ix (hu1 hr)) opd_ix (pv 0) de_str) (de_ix (or_ix (hu1 hr)) opd_ix (pv 0) de_str)) (pg_sub (pv 0) de_str set_list)) (ps_dput (hu1 hr) (pv 0) de_str (de_ix (or_ix (hu1 hr)) opd_ix (de_ix (or_ix (hu1 hr)) opd_ix (pv 0) de_str) (de_ix (or_ix (hu1 hr)) opd_ix (pv 0) de_str)) rfl))
    (ds_one (ds_setIt (ps_asg (de_op or_add opd_add (de_ix (or_ix (hu1 hr)) opd_ix (pv 0) de_str) de_int) (pg_sub (pv 0) de_str set_list)) (ps_dput (hu1 hr) (pv 0) de_str (de_op or_add opd_add (de_ix (or_ix (hu1 hr)) opd_ix (pv 0) de_str) de_int) rfl)))) ds_nil)
    (ds_cons (ds_if (dt_cmp or_gt opd_ord (de_ix (or_ix (hu1 hr)) opd_ix (pv 0) de_str) de_int (nomark _)) (ds_cons (ds_set (i := 2) (de_op op_mod opd_mod (de_t1 call_int1 opd_toInt rfl G.b_int rfl (de_ix (or_ix (hu1 hr)) opd_ix (pv 0) de_str)) (pv 1)) nd)
    (ds_cons (ds_setIt (ps_asg (de_op op_fdiv opd_div (de_ix (or_ix (hu1 hr)) opd_ix (pv 0) de_str) (pv 1)) (pg_sub (pv 0) de_str set_list)) (ps_dput (hu1 hr) (pv 0) de_str (de_op op_fdiv opd_div (de_ix (or_ix (hu1 hr)) opd_ix (pv 0) de_str) (pv 1)) rfl))
    (ds_one (ds_ret (de_move (pv 2)))))) ds_nil)
    (ds_cons (ds_setIt (ps_asg (de_op or_add opd_add (de_ix (or_ix (hu1 hr)) opd_ix (pv 0) de_str) de_int) (pg_sub (pv 0) de_str set_list)) (ps_dput (hu1 hr) (pv 0) de_str (de_op or_add opd_add (de_ix (or_ix (hu1 hr)) opd_ix (pv 0) de_str) de_int) rfl))
    (ds_cons (ds_set (i := 3) (de_op op_mod opd_mod (de_t1 call_int1 opd_toInt rfl G.b_int rfl (de_op or_add opd_add (de_op op_mul opd_mul (de_ix (or_ix (hu1 hr)) opd_ix (pv 0) de_str) de_int) (de_op op_mul opd_mul (de_ix (or_ix (hu1 hr)) opd_ix (pv 0) de_str) de_int))) de_int) nd)
    (ds_cons (ds_set (i := 3) (de_op op_mod opd_mod (de_t1 call_int1 opd_toInt rfl G.b_int rfl (de_op or_add opd_add (de_op or_add opd_add (de_op op_mul opd_mul (pv 3) (pv 3)) (de_op op_mul opd_mul (de_ix (or_ix (hu1 hr)) opd_ix (pv 0) de_str) de_int)) de_int)) de_int) nd)
    (ds_one (ds_ret (de_op op_mod opd_mod (de_t1 call_int1 opd_toInt rfl G.b_int rfl (pv 3)) (pv 1)))))))))
/-- _law_is_integer -/
theorem w5 {f : Addr} {fd : FuncData} (F : FnP K "_law_is_integer" (top 12) f fd) (G : Gb K mg) (TB : Tab P w K mg base k c) : FnOk P w K mg base (L2.CX P w) (k + 1) f fd p5 (spF K [] 1 (runF [] 1 1 (b5 c))) := by
  have nd := sc5.nd
  let sc := defScope (top 12)
  let N := N5
  exact fn_okD (N := N5) (ps := p5) F sc5 (by decide) (by decide) fun cdv A outer s H E hr =>
    (ds_one (ds_ret (de_and (de_b2 call_isi opd_isi rfl G.b_isinstance rfl (pv 0) (de_ty G.b_int)) (de_one (de_not (de_b2 call_isi opd_isi rfl G.b_isinstance rfl (pv 0) (de_ty G.b_bool)))))))
/-- _law_same_items -/
theorem w6 {f : Addr} {fd : FuncData} (F : FnP K "_law_same_items" (top 13) f fd) (G : Gb K mg) (TB : Tab P w K mg base k c) : FnOk P w K mg base (L2.CX P w) (k + 1) f fd p6 (spF K [] 2 (runF [] 2 3 (b6 c))) := by
  have nd := sc6.nd
  let sc := defScope (top 13)
  let N := N6
  exact fn_okD (N := N6) (ps := p6) F sc6 (by decide) (by decide) fun cdv A outer s H E hr =>
    (ds_cons (ds_if (dt_cmp (or_neS hr.units) opd_neS (de_b1 or_len opd_len rfl G.b_len rfl (pv 0)) (de_b1 or_len opd_len rfl G.b_len rfl (pv 1)) (nomark _)) (ds_one (ds_ret de_bl)) ds_nil)
    (ds_cons (ds_for (passes_of rfl) rfl (di_rng1 rfl G.b_range (de_b1 or_len opd_len rfl G.b_len rfl (pv 1))) (dg_name nd) (ds_one (ds_if (dt_not (dt_tru (de_callK TB.t7 hr (takes_of rfl rfl rfl rfl) (da_cons (de_ix (or_ix (hu1 hr)) opd_ix (pv 0) (pv 2)) (da_cons (de_ix (or_ix (hu1 hr)) opd_ix (pv 1) (pv 2)) da_nil))))) (ds_one (ds_ret de_bl)) ds_nil)))
    (ds_one (ds_ret de_bl))))
/-- _law_same -/
theorem w7 {f : Addr} {fd : FuncData} (F : FnP K "_law_same" (top 14) f fd) (G : Gb K mg) (TB : Tab P w K mg base k c) : FnOk P w K mg base (L2.CX P w) (k + 1) f fd p7 (spF K [] 2 (runF [] 2 3 (b7 c))) := by
  have nd := sc7.nd
  let sc := defScope (top 14)
  let N := N7
  exact fn_okD (N := N7) (ps := p7) F sc7 (by decide) (by decide) fun cdv A outer s H E hr =>
    (ds_cons (ds_if (dt_cmp op_isN opd_isN (pv 1) de_non (nomark _)) (ds_one (ds_ret (de_cmp op_isN opd_isN (pv 0) de_non (nomark _)))) ds_nil)
    (ds_cons (ds_if (dt_tru (de_b2 call_isi opd_isi rfl G.b_isinstance rfl (pv 1) (de_ty G.b_bool))) (ds_one (ds_ret (de_and (de_b2 call_isi opd_isi rfl G.b_isinstance rfl (pv 0) (de_ty G.b_bool)) (de_one (de_cmp (or_eqS hr.units) opd_eqS (pv 0) (pv 1) (nomark _)))))) ds_nil)
    (ds_cons (ds_if (dt_tru (de_b2 call_isi opd_isi rfl G.b_isinstance rfl (pv 1) (de_ty G.b_int))) (ds_one (ds_ret (de_and (de_callK TB.t5 hr (takes_of rfl rfl rfl rfl) (da_cons (de_var (pv 0)) da_nil)) (de_one (de_cmp (or_eqS hr.units) opd_eqS (pv 0) (pv 1) (nomark _)))))) ds_nil)
    (ds_cons (ds_if (dt_tru (de_b2 call_isi opd_isi rfl G.b_isinstance rfl (pv 1) (de_ty G.b_str))) (ds_one (ds_ret (de_and (de_b2 call_isi opd_isi rfl G.b_isinstance rfl (pv 0) (de_ty G.b_str)) (de_one (de_cmp (or_eqS hr.units) opd_eqS (pv 0) (pv 1) (nomark _)))))) ds_nil)
    (ds_cons (ds_if (dt_tru (de_b2 call_isi opd_isi rfl G.b_isinstance rfl (pv 1) (de_ty G.b_tuple))) (ds_one (ds_ret (de_and (de_b2 call_isi opd_isi rfl G.b_isinstance rfl (pv 0) (de_ty G.b_tuple)) (de_one (de_callK TB.t6 hr (takes_of rfl rfl rfl rfl) (da_cons (de_var (pv 0)) (da_cons (de_var (pv 1)) da_nil))))))) ds_nil)
    (ds_cons (ds_if (dt_tru (de_b2 call_isi opd_isi rfl G.b_isinstance rfl (pv 1) (de_ty G.b_list))) (ds_one (ds_ret (de_and (de_b2 call_isi opd_isi rfl G.b_isinstance rfl (pv 0) (de_ty G.b_list)) (de_one (de_callK TB.t6 hr (takes_of rfl rfl rfl rfl) (da_cons (de_var (pv 0)) (da_cons (de_var (pv 1)) da_nil))))))) ds_nil)
    (ds_cons (ds_if (dt_w (dw_or (dt_not (dt_tru (de_b2 call_isi opd_isi rfl G.b_isinstance rfl (pv 0) (de_ty G.b_dict)))) (dw_or1 (dt_cmp (or_neS hr.units) opd_neS (de_b1 or_len opd_len rfl G.b_len rfl (pv 0)) (de_b1 or_len opd_len rfl G.b_len rfl (pv 1)) (nomark _))))) (ds_one (ds_ret de_bl)) ds_nil)
    (ds_cons (ds_for (passes_of rfl) rfl (di_it (de_var (pv 1))) (dg_name nd) (ds_one (ds_if (dt_w (dw_or (dt_cmp (or_notin (hu65 hr)) opd_in (pv 2) (pv 0) (by with_unfolding_all rfl)) (dw_or1 (dt_not (dt_tru (de_callK TB.t7 hr (takes_of rfl rfl rfl rfl) (da_cons (de_ix (or_ix (hu1 hr)) opd_ix (pv 0) (pv 2)) (da_cons (de_ix (or_ix (hu1 hr)) opd_ix (pv 1) (pv 2)) da_nil)))))))) (ds_one (ds_ret de_bl)) ds_nil)))
    (ds_cons (ds_for (passes_of rfl) rfl (di_it (de_var (pv 0))) (dg_name nd) (ds_one (ds_if (dt_tru (de_b2 call_isi opd_isi rfl G.b_isinstance rfl (pv 2) (de_ty G.b_bool))) (ds_one (ds_ret de_bl)) ds_nil)))
    (ds_one (ds_ret de_bl)))))))))))
/-- _law_letter -/
theorem w8 {f : Addr} {fd : FuncData} (F : FnP K "_law_letter" (top 15) f fd) (G : Gb K mg) (TB : Tab P w K mg base k c) : FnOk P w K mg base (L2.CX P w) (k + 1) f fd p8 (spF K [] 1 (runF [] 1 1 (b8 c))) := by
  have nd := sc8.nd
  let sc := defScope (top 15)
  let N := N8
  exact fn_okD (N := N8) (ps := p8) F sc8 (by decide) (by decide) fun cdv A outer s H E hr =>
    (ds_one (ds_ret (de_or (de_chain or_le or_le opd_ord opd_ord de_str (de_var (pv 0)) de_str) (de_one (de_chain or_le or_le opd_ord opd_ord de_str (de_var (pv 0)) de_str)))))
/-- _law_digit -/
theorem w9 {f : Addr} {fd : FuncData} (F : FnP K "_law_digit" (top 16) f fd) (G : Gb K mg) (TB : Tab P w K mg base k c) : FnOk P w K mg base (L2.CX P w) (k + 1) f fd p9 (spF K [] 1 (runF [] 1 1 (b9 c))) := by
  have nd := sc9.nd
  let sc := defScope (top 16)
  let N := N9
  exact fn_okD (N := N9) (ps := p9) F sc9 (by decide) (by decide) fun cdv A outer s H E hr =>
    (ds_one (ds_ret (de_chain or_le or_le opd_ord opd_ord de_str (de_var (pv 0)) de_str)))
/-- _law_stretch -/
theorem w10 {f : Addr} {fd : FuncData} (F : FnP K "_law_stretch" (top 17) f fd) (G : Gb K mg) (TB : Tab P w K mg base k c) : FnOk P w K mg base (L2.CX P w) (k + 1) f fd p10 (spF K [] 2 (runF [] 2 6 (b10 c))) := by
  have nd := sc10.nd
  let sc := defScope (top 17)
  let N := N10
  exact fn_okD (N := N10) (ps := p10) F sc10 (by decide) (by decide) fun cdv A outer s H E hr =>
    (ds_cons (ds_set (i := 2) (de_var (pv 1)) nd)
    (ds_cons (ds_set (i := 3) (de_callK TB.t9 hr (takes_of rfl rfl rfl rfl) (da_cons (de_ix (or_ix (hu1 hr)) opd_ix (pv 0) (pv 1)) da_nil)) nd)
    (ds_cons (ds_for (passes_of rfl) rfl (di_it (de_slice (pv 0) (pod_some (pv 1)) pod_none)) (dg_name nd) (ds_cons (ds_set (i := 5) (de_ite (dt_tru (pv 3)) (de_callK TB.t9 hr (takes_of rfl rfl rfl rfl) (da_cons (de_var (pv 4)) da_nil)) (de_or (de_callK TB.t8 hr (takes_of rfl rfl rfl rfl) (da_cons (de_var (pv 4)) da_nil)) (de_or (de_callK TB.t9 hr (takes_of rfl rfl rfl rfl) (da_cons (de_var (pv 4)) da_nil)) (de_one (de_cmp (or_eqS hr.units) opd_eqS (pv 4) de_str (nomark _)))))) nd)
    (ds_cons (ds_if (dt_not (dt_tru (pv 5))) (ds_one (ds_ret (de_move (pv 2)))) ds_nil)
    (ds_one (ds_set (i := 2) (de_op or_add opd_add (pv 2) de_int) nd)))))
    (ds_one (ds_ret (de_move (pv 2)))))))
/-- _law_token -/
theorem w11 {f : Addr} {fd : FuncData} (F : FnP K "_law_token" (top 18) f fd) (G : Gb K mg) (TB : Tab P w K mg base k c) : FnOk P w K mg base (L2.CX P w) (k + 1) f fd p11 (spF K [] 2 (runF [] 2 5 (b11 c))) := by
  have nd := sc11.nd
  let sc := defScope (top 18)
  let N := N11
  exact fn_okD (N := N11) (ps := p11) F sc11 (by decide) (by decide) fun cdv A outer s H E hr =>
    (ds_cons (ds_set (i := 2) (de_lst (da_cons de_str (da_cons de_str (da_cons de_str (da_cons de_str (da_cons de_str (da_cons de_str (da_cons de_str (da_cons de_str (da_cons de_str (da_cons de_str da_nil))))))))))) nd)
    (ds_cons (ds_set (i := 3) (de_ix (or_ix (hu1 hr)) opd_ix (pv 0) (pv 1)) nd)
    (ds_cons (ds_if (dt_tru (de_callK TB.t8 hr (takes_of rfl rfl rfl rfl) (da_cons (de_var (pv 3)) da_nil))) (ds_cons (ds_set (i := 4) (de_callK TB.t10 hr (takes_of rfl rfl rfl rfl) (da_cons (de_var (pv 0)) (da_cons (de_var (pv 1)) da_nil))) nd)
    (ds_one (ds_ret (de_tup (da_cons (de_ite (dt_cmp (or_in (hu65 hr)) opd_in (de_slice (pv 0) (pod_some (pv 1)) (pod_some (pv 4))) (pv 2) (by with_unfolding_all rfl)) de_str de_str) (da_cons (de_var (pv 1)) (da_cons (de_var (pv 4)) da_nil))))))) ds_nil)
    (ds_cons (ds_if (dt_tru (de_callK TB.t9 hr (takes_of rfl rfl rfl rfl) (da_cons (de_var (pv 3)) da_nil))) (ds_one (ds_ret (de_tup (da_cons de_str (da_cons (de_var (pv 1)) (da_cons (de_callK TB.t10 hr (takes_of rfl rfl rfl rfl) (da_cons (de_var (pv 0)) (da_cons (de_var (pv 1)) da_nil))) da_nil)))))) ds_nil)
    (ds_cons (ds_if (dt_w (dw_or (dt_cmp (or_eqS hr.units) opd_eqS (de_slice (pv 0) (pod_some (pv 1)) (pod_some (de_op or_add opd_add (pv 1) de_int))) de_str (nomark _)) (dw_or1 (dt_cmp (or_eqS hr.units) opd_eqS (de_slice (pv 0) (pod_some (pv 1)) (pod_some (de_op or_add opd_add (pv 1) de_int))) de_str (nomark _))))) (ds_one (ds_ret (de_tup (da_cons de_str (da_cons (de_var (pv 1)) (da_cons (de_op or_add opd_add (pv 1) de_int) da_nil)))))) ds_nil)
    (ds_one (ds_ret (de_tup (da_cons (de_ite (dt_cmp (or_in (hu65 hr)) opd_in (pv 3) de_str (by with_unfolding_all rfl)) de_str de_str) (da_cons (de_var (pv 1)) (da_cons (de_op or_add opd_add (pv 1) de_int) da_nil)))))))))))
/-- _law_tokens -/
theorem w12 {f : Addr} {fd : FuncData} (F : FnP K "_law_tokens" (top 19) f fd) (G : Gb K mg) (TB : Tab P w K mg base k c) : FnOk P w K mg base (L2.CX P w) (k + 1) f fd p12 (spF K [] 1 (runF [] 1 5 (b12 c))) := by
  have nd := sc12.nd
  let sc := defScope (top 19)
  let N := N12
  exact fn_okD (N := N12) (ps := p12) F sc12 (by decide) (by decide) fun cdv A outer s H E hr =>
    (ds_cons (ds_set (i := 1) (de_lst da_nil) nd)
    (ds_cons (ds_set (i := 2) de_int nd)
    (ds_cons (ds_set (i := 3) de_bl nd)
    (ds_cons (ds_for (passes_of rfl) rfl (di_rng1 rfl G.b_range (de_b1 or_len opd_len rfl G.b_len rfl (pv 0))) (dg_name nd) (ds_cons (ds_if (dt_cmp (or_eqS hr.units) opd_eqS (de_ix (or_ix (hu1 hr)) opd_ix (pv 0) (pv 4)) de_str (nomark _)) (ds_one (ds_set (i := 3) de_bl nd)) ds_nil)
    (ds_cons (ds_if (dt_w (dw_or (dt_cmp or_lt opd_ord (pv 4) (pv 2) (nomark _)) (dw_or (dt_tru (pv 3)) (dw_or (dt_cmp (or_eqS hr.units) opd_eqS (de_ix (or_ix (hu1 hr)) opd_ix (pv 0) (pv 4)) de_str (nomark _)) (dw_or1 (dt_cmp (or_eqS hr.units) opd_eqS (de_ix (or_ix (hu1 hr)) opd_ix (pv 0) (pv 4)) de_str (nomark _))))))) (ds_one ds_continue) ds_nil)
    (ds_one (ds_if (dt_cmp (or_eqS hr.units) opd_eqS (de_ix (or_ix (hu1 hr)) opd_ix (pv 0) (pv 4)) de_str (nomark _)) (ds_one (ds_set (i := 3) de_bl nd)) (ds_cons (ds_expr (dm_grow (pe_bm PySem.F.plainAttrs_list PySem.F.slot_list_append PySem.F.type_list_append mt_append (pv 1) (pa_cons (de_callK TB.t11 hr (takes_of rfl rfl rfl rfl) (da_cons (de_var (pv 0)) (da_cons (de_var (pv 4)) da_nil))) pa_nil)) grow_app))
    (ds_one (ds_set (i := 2) (de_ix (or_ix (hu1 hr)) opd_ix (de_ix (or_ix (hu1 hr)) opd_ix (pv 1) (de_neg de_int)) de_int) nd))))))))
    (ds_one (ds_ret (de_move (pv 1))))))))
/-- _law_char -/
theorem w13 {f : Addr} {fd : FuncData} (F : FnP K "_law_char" (top 20) f fd) (G : Gb K mg) (TB : Tab P w K mg base k c) : FnOk P w K mg base (L2.CX P w) (k + 1) f fd p13 (spF K [0] 1 (runF [0] 1 2 (b13 c))) := by
  have nd := sc13.nd
  let sc := defScope (top 20)
  let N := N13
  exact fn_okD (N := N13) (ps := p13) F sc13 (by decide) (by decide) fun cdv A outer s H E hr =>
    (ds_cons (ds_set (i := 1) de_str nd)
    (ds_cons (ds_set (i := 1) (de_op or_add opd_add (pv 1) de_str) nd)
    (ds_one (ds_ret (de_ix (or_ix (hu1 hr)) opd_ix (pv 1) (de_callK TB.t4 hr (takes_of rfl rfl rfl rfl) (da_cons (pv 0) (da_cons (de_b1 or_len opd_len rfl G.b_len rfl (pv 1)) da_nil))))))))
/-- _law_scraps -/
theorem w14 {f : Addr} {fd : FuncData} (F : FnP K "_law_scraps" (top 21) f fd) (G : Gb K mg) (TB : Tab P w K mg base k c) : FnOk P w K mg base (L2.CX P w) (k + 1) f fd p14 (spF K [0] 2 (runF [0] 2 5 (b14 c))) := by
  have nd := sc14.nd
  let sc := defScope (top 21)
  let N := N14
  exact fn_okD (N := N14) (ps := p14) F sc14 (by decide) (by decide) fun cdv A outer s H E hr =>
    (ds_cons (ds_set (i := 2) (de_lst (da_cons de_str (da_cons de_str (da_cons de_str (da_cons de_str (da_cons de_str (da_cons de_str (da_cons de_str (da_cons de_str (da_cons de_str (da_cons de_str (da_cons de_str (da_cons de_str (da_cons de_str (da_cons de_str (da_cons de_str (da_cons de_str (da_cons de_str (da_cons de_str da_nil))))))))))))))))))) nd)
    (ds_cons (ds_set (i := 2) (de_op or_add opd_add (pv 2) (de_lst (da_cons de_str (da_cons de_str (da_cons de_str (da_cons de_str (da_cons de_str (da_cons de_str (da_cons de_str (da_cons de_str (da_cons de_str (da_cons de_str (da_cons de_str (da_cons de_str da_nil)))))))))))))) nd)
    (ds_cons (ds_set (i := 3) (de_lst da_nil) nd)
    (ds_cons (ds_for (passes_of rfl) rfl (di_rng1 rfl G.b_range (de_callK TB.t4 hr (takes_of rfl rfl rfl rfl) (da_cons (pv 0) (da_cons (de_op or_add opd_add (pv 1) de_int) da_nil)))) (dg_name nd) (ds_one (ds_expr (dm_grow (pe_bm PySem.F.plainAttrs_list PySem.F.slot_list_append PySem.F.type_list_append mt_append (pv 3) (pa_cons (de_ite (dt_cmp (or_eqS hr.units) opd_eqS (de_callK TB.t4 hr (takes_of rfl rfl rfl rfl) (da_cons (pv 0) (da_cons de_int da_nil))) de_int (nomark _)) (de_callK TB.t13 hr (takes_of rfl rfl rfl rfl) (da_cons (pv 0) da_nil)) (de_ix (or_ix (hu1 hr)) opd_ix (pv 2) (de_callK TB.t4 hr (takes_of rfl rfl rfl rfl) (da_cons (pv 0) (da_cons de_int da_nil))))) pa_nil)) grow_app))))
    (ds_one (ds_ret (dm_meth1 (pe_join de_str (pv 3)) ops_join)))))))
/-- law -/
theorem w15 {f : Addr} {fd : FuncData} (F : FnP K "law" (top 22) f fd) (G : Gb K mg) (TB : Tab P w K mg base k c) : FnOk P w K mg base (L2.CX P w) (k + 1) f fd p15 (spF K [] 1 (runF [] 1 4 (b15 c))) := by
  have nd := sc15.nd
  let sc := defScope (top 22)
  let N := N15
  exact fn_okD (N := N15) (ps := p15) F sc15 (by decide) (by decide) fun cdv A outer s H E hr =>
    (ds_cons (ds_set (i := 1) (de_callK TB.t3 hr (takes_of rfl rfl rfl rfl) (da_cons (de_var (pv 0)) da_nil)) nd)
    (ds_cons (ds_for (passes_of rfl) rfl (di_rng1 rfl G.b_range de_int) (dg_name nd) (ds_cons (ds_set (i := 3) (de_callK TB.t14 hr (takes_of rfl rfl rfl rfl) (da_cons (pv 1) (da_cons de_int da_nil))) nd)
    (ds_one (ds_if (dt_not (dt_tru (de_callK TB.t7 hr (takes_of rfl rfl rfl rfl) (da_cons (de_callK TB.t2 hr (takes_of rfl rfl rfl rfl) (da_cons (de_var (pv 3)) da_nil)) (da_cons (de_callK TB.t12 hr (takes_of rfl rfl rfl rfl) (da_cons (de_var (pv 3)) da_nil)) da_nil))))) (ds_one (ds_ret de_bl)) ds_nil))))
    (ds_one (ds_ret de_bl))))
/-- where the defs stand -/
structure Df (K : PySem.W.Frag) (mg : Str → Option Value) : Prop where
  f0 : ∃ (f : Addr) (fd : FuncData), mg "run_end" = some (.ref f) ∧ FnP K "run_end" (top 6) f fd
  f1 : ∃ (f : Addr) (fd : FuncData), mg "token_at" = some (.ref f) ∧ FnP K "token_at" (top 7) f fd
  f2 : ∃ (f : Addr) (fd : FuncData), mg "tokens" = some (.ref f) ∧ FnP K "tokens" (top 8) f fd
  f3 : ∃ (f : Addr) (fd : FuncData), mg "_law_tape" = some (.ref f) ∧ FnP K "_law_tape" (top 10) f fd
  f4 : ∃ (f : Addr) (fd : FuncData), mg "_law_take" = some (.ref f) ∧ FnP K "_law_take" (top 11) f fd
  f5 : ∃ (f : Addr) (fd : FuncData), mg "_law_is_integer" = some (.ref f) ∧ FnP K "_law_is_integer" (top 12) f fd
  f6 : ∃ (f : Addr) (fd : FuncData), mg "_law_same_items" = some (.ref f) ∧ FnP K "_law_same_items" (top 13) f fd
  f7 : ∃ (f : Addr) (fd : FuncData), mg "_law_same" = some (.ref f) ∧ FnP K "_law_same" (top 14) f fd
  f8 : ∃ (f : Addr) (fd : FuncData), mg "_law_letter" = some (.ref f) ∧ FnP K "_law_letter" (top 15) f fd
  f9 : ∃ (f : Addr) (fd : FuncData), mg "_law_digit" = some (.ref f) ∧ FnP K "_law_digit" (top 16) f fd
  f10 : ∃ (f : Addr) (fd : FuncData), mg "_law_stretch" = some (.ref f) ∧ FnP K "_law_stretch" (top 17) f fd
  f11 : ∃ (f : Addr) (fd : FuncData), mg "_law_token" = some (.ref f) ∧ FnP K "_law_token" (top 18) f fd
  f12 : ∃ (f : Addr) (fd : FuncData), mg "_law_tokens" = some (.ref f) ∧ FnP K "_law_tokens" (top 19) f fd
  f13 : ∃ (f : Addr) (fd : FuncData), mg "_law_char" = some (.ref f) ∧ FnP K "_law_char" (top 20) f fd
  f14 : ∃ (f : Addr) (fd : FuncData), mg "_law_scraps" = some (.ref f) ∧ FnP K "_law_scraps" (top 21) f fd
  f15 : ∃ (f : Addr) (fd : FuncData), mg "law" = some (.ref f) ∧ FnP K "law" (top 22) f fd
theorem bi0 {f : Addr} {fd : FuncData} (F : FnP K "run_end" (top 6) f fd) : Binds K fd p0 [] := F.bindsN fun _ _ _ _ _ _ us hl => match us, hl with | [_, _, _], _ => rfl
theorem bi1 {f : Addr} {fd : FuncData} (F : FnP K "token_at" (top 7) f fd) : Binds K fd p1 [] := F.bindsN fun _ _ _ _ _ _ us hl => match us, hl with | [_, _], _ => rfl
theorem bi2 {f : Addr} {fd : FuncData} (F : FnP K "tokens" (top 8) f fd) : Binds K fd p2 [] := F.bindsN fun _ _ _ _ _ _ us hl => match us, hl with | [_], _ => rfl
theorem bi3 {f : Addr} {fd : FuncData} (F : FnP K "_law_tape" (top 10) f fd) : Binds K fd p3 [] := F.bindsN fun _ _ _ _ _ _ us hl => match us, hl with | [_], _ => rfl
theorem bi4 {f : Addr} {fd : FuncData} (F : FnP K "_law_take" (top 11) f fd) : Binds K fd p4 [] := F.bindsN fun _ _ _ _ _ _ us hl => match us, hl with | [_, _], _ => rfl
theorem bi5 {f : Addr} {fd : FuncData} (F : FnP K "_law_is_integer" (top 12) f fd) : Binds K fd p5 [] := F.bindsN fun _ _ _ _ _ _ us hl => match us, hl with | [_], _ => rfl
theorem bi6 {f : Addr} {fd : FuncData} (F : FnP K "_law_same_items" (top 13) f fd) : Binds K fd p6 [] := F.bindsN fun _ _ _ _ _ _ us hl => match us, hl with | [_, _], _ => rfl
theorem bi7 {f : Addr} {fd : FuncData} (F : FnP K "_law_same" (top 14) f fd) : Binds K fd p7 [] := F.bindsN fun _ _ _ _ _ _ us hl => match us, hl with | [_, _], _ => rfl
theorem bi8 {f : Addr} {fd : FuncData} (F : FnP K "_law_letter" (top 15) f fd) : Binds K fd p8 [] := F.bindsN fun _ _ _ _ _ _ us hl => match us, hl with | [_], _ => rfl
theorem bi9 {f : Addr} {fd : FuncData} (F : FnP K "_law_digit" (top 16) f fd) : Binds K fd p9 [] := F.bindsN fun _ _ _ _ _ _ us hl => match us, hl with | [_], _ => rfl
theorem bi10 {f : Addr} {fd : FuncData} (F : FnP K "_law_stretch" (top 17) f fd) : Binds K fd p10 [] := F.bindsN fun _ _ _ _ _ _ us hl => match us, hl with | [_, _], _ => rfl
theorem bi11 {f : Addr} {fd : FuncData} (F : FnP K "_law_token" (top 18) f fd) : Binds K fd p11 [] := F.bindsN fun _ _ _ _ _ _ us hl => match us, hl with | [_, _], _ => rfl
theorem bi12 {f : Addr} {fd : FuncData} (F : FnP K "_law_tokens" (top 19) f fd) : Binds K fd p12 [] := F.bindsN fun _ _ _ _ _ _ us hl => match us, hl with | [_], _ => rfl
theorem bi13 {f : Addr} {fd : FuncData} (F : FnP K "_law_char" (top 20) f fd) : Binds K fd p13 [] := F.bindsN fun _ _ _ _ _ _ us hl => match us, hl with | [_], _ => rfl
theorem bi14 {f : Addr} {fd : FuncData} (F : FnP K "_law_scraps" (top 21) f fd) : Binds K fd p14 [] := F.bindsN fun _ _ _ _ _ _ us hl => match us, hl with | [_, _], _ => rfl
theorem bi15 {f : Addr} {fd : FuncData} (F : FnP K "law" (top 22) f fd) : Binds K fd p15 [] := F.bindsN fun _ _ _ _ _ _ us hl => match us, hl with | [_], _ => rfl
theorem tab (D : Df K mg) (G : Gb K mg) : ∀ k : Nat, Tab P w K mg base k (sem k)
  | 0 => by
    obtain ⟨f0, fd0, e0, F0⟩ := D.f0
    obtain ⟨f1, fd1, e1, F1⟩ := D.f1
    obtain ⟨f2, fd2, e2, F2⟩ := D.f2
    obtain ⟨f3, fd3, e3, F3⟩ := D.f3
    obtain ⟨f4, fd4, e4, F4⟩ := D.f4
    obtain ⟨f5, fd5, e5, F5⟩ := D.f5
    obtain ⟨f6, fd6, e6, F6⟩ := D.f6
    obtain ⟨f7, fd7, e7, F7⟩ := D.f7
    obtain ⟨f8, fd8, e8, F8⟩ := D.f8
    obtain ⟨f9, fd9, e9, F9⟩ := D.f9
    obtain ⟨f10, fd10, e10, F10⟩ := D.f10
    obtain ⟨f11, fd11, e11, F11⟩ := D.f11
    obtain ⟨f12, fd12, e12, F12⟩ := D.f12
    obtain ⟨f13, fd13, e13, F13⟩ := D.f13
    obtain ⟨f14, fd14, e14, F14⟩ := D.f14
    obtain ⟨f15, fd15, e15, F15⟩ := D.f15
    exact ⟨Kn.zero e0 F0.kp (bi0 F0), Kn.zero e1 F1.kp (bi1 F1), Kn.zero e2 F2.kp (bi2 F2), Kn.zero e3 F3.kp (bi3 F3), Kn.zero e4 F4.kp (bi4 F4), Kn.zero e5 F5.kp (bi5 F5), Kn.zero e6 F6.kp (bi6 F6), Kn.zero e7 F7.kp (bi7 F7), Kn.zero e8 F8.kp (bi8 F8), Kn.zero e9 F9.kp (bi9 F9), Kn.zero e10 F10.kp (bi10 F10), Kn.zero e11 F11.kp (bi11 F11), Kn.zero e12 F12.kp (bi12 F12), Kn.zero e13 F13.kp (bi13 F13), Kn.zero e14 F14.kp (bi14 F14), Kn.zero e15 F15.kp (bi15 F15)⟩
  | k + 1 => by
    have T := tab D G k
    obtain ⟨f0, fd0, e0, F0⟩ := D.f0
    obtain ⟨f1, fd1, e1, F1⟩ := D.f1
    obtain ⟨f2, fd2, e2, F2⟩ := D.f2
    obtain ⟨f3, fd3, e3, F3⟩ := D.f3
    obtain ⟨f4, fd4, e4, F4⟩ := D.f4
    obtain ⟨f5, fd5, e5, F5⟩ := D.f5
    obtain ⟨f6, fd6, e6, F6⟩ := D.f6
    obtain ⟨f7, fd7, e7, F7⟩ := D.f7
    obtain ⟨f8, fd8, e8, F8⟩ := D.f8
    obtain ⟨f9, fd9, e9, F9⟩ := D.f9
    obtain ⟨f10, fd10, e10, F10⟩ := D.f10
    obtain ⟨f11, fd11, e11, F11⟩ := D.f11
    obtain ⟨f12, fd12, e12, F12⟩ := D.f12
    obtain ⟨f13, fd13, e13, F13⟩ := D.f13
    obtain ⟨f14, fd14, e14, F14⟩ := D.f14
    obtain ⟨f15, fd15, e15, F15⟩ := D.f15
    exact ⟨⟨f0, fd0, e0, F0.kp, bi0 F0, w0 F0 G T⟩, ⟨f1, fd1, e1, F1.kp, bi1 F1, w1 F1 G T⟩, ⟨f2, fd2, e2, F2.kp, bi2 F2, w2 F2 G T⟩, ⟨f3, fd3, e3, F3.kp, bi3 F3, w3 F3 G T⟩, ⟨f4, fd4, e4, F4.kp, bi4 F4, w4 F4 G T⟩, ⟨f5, fd5, e5, F5.kp, bi5 F5, w5 F5 G T⟩, ⟨f6, fd6, e6, F6.kp, bi6 F6, w6 F6 G T⟩, ⟨f7, fd7, e7, F7.kp, bi7 F7, w7 F7 G T⟩, ⟨f8, fd8, e8, F8.kp, bi8 F8, w8 F8 G T⟩, ⟨f9, fd9, e9, F9.kp, bi9 F9, w9 F9 G T⟩, ⟨f10, fd10, e10, F10.kp, bi10 F10, w10 F10 G T⟩, ⟨f11, fd11, e11, F11.kp, bi11 F11, w11 F11 G T⟩, ⟨f12, fd12, e12, F12.kp, bi12 F12, w12 F12 G T⟩, ⟨f13, fd13, e13, F13.kp, bi13 F13, w13 F13 G T⟩, ⟨f14, fd14, e14, F14.kp, bi14 F14, w14 F14 G T⟩, ⟨f15, fd15, e15, F15.kp, bi15 F15, w15 F15 G T⟩⟩
end
def dd0 : He.DefD := ⟨("run_end", none), "run_end", "run_end", defArgs (top 6), defBody (top 6), defScope (top 6), [], []⟩
def dd1 : He.DefD := ⟨("token_at", none), "token_at", "token_at", defArgs (top 7), defBody (top 7), defScope (top 7), [], []⟩
def dd2 : He.DefD := ⟨("tokens", none), "tokens", "tokens", defArgs (top 8), defBody (top 8), defScope (top 8), [], []⟩
def dd3 : He.DefD := ⟨("_law_tape", none), "_law_tape", "_law_tape", defArgs (top 10), defBody (top 10), defScope (top 10), [], []⟩
def dd4 : He.DefD := ⟨("_law_take", none), "_law_take", "_law_take", defArgs (top 11), defBody (top 11), defScope (top 11), [], []⟩
def dd5 : He.DefD := ⟨("_law_is_integer", none), "_law_is_integer", "_law_is_integer", defArgs (top 12), defBody (top 12), defScope (top 12), [], []⟩
def dd6 : He.DefD := ⟨("_law_same_items", none), "_law_same_items", "_law_same_items", defArgs (top 13), defBody (top 13), defScope (top 13), [], []⟩
def dd7 : He.DefD := ⟨("_law_same", none), "_law_same", "_law_same", defArgs (top 14), defBody (top 14), defScope (top 14), [], []⟩
def dd8 : He.DefD := ⟨("_law_letter", none), "_law_letter", "_law_letter", defArgs (top 15), defBody (top 15), defScope (top 15), [], []⟩
def dd9 : He.DefD := ⟨("_law_digit", none), "_law_digit", "_law_digit", defArgs (top 16), defBody (top 16), defScope (top 16), [], []⟩
def dd10 : He.DefD := ⟨("_law_stretch", none), "_law_stretch", "_law_stretch", defArgs (top 17), defBody (top 17), defScope (top 17), [], []⟩
def dd11 : He.DefD := ⟨("_law_token", none), "_law_token", "_law_token", defArgs (top 18), defBody (top 18), defScope (top 18), [], []⟩
def dd12 : He.DefD := ⟨("_law_tokens", none), "_law_tokens", "_law_tokens", defArgs (top 19), defBody (top 19), defScope (top 19), [], []⟩
def dd13 : He.DefD := ⟨("_law_char", none), "_law_char", "_law_char", defArgs (top 20), defBody (top 20), defScope (top 20), [], []⟩
def dd14 : He.DefD := ⟨("_law_scraps", none), "_law_scraps", "_law_scraps", defArgs (top 21), defBody (top 21), defScope (top 21), [], []⟩
def dd15 : He.DefD := ⟨("law", none), "law", "law", defArgs (top 22), defBody (top 22), defScope (top 22), [], []⟩
def fn : List He.DefD := [dd0, dd1, dd2, dd3, dd4, dd5, dd6, dd7, dd8, dd9, dd10, dd11, dd12, dd13, dd14, dd15]
def fa : List He.Fa := [.glo "run_end", .glo "token_at", .glo "tokens", .glo "_law_tape", .glo "_law_take", .glo "_law_is_integer", .glo "_law_same_items", .glo "_law_same", .glo "_law_letter", .glo "_law_digit", .glo "_law_stretch", .glo "_law_token", .glo "_law_tokens", .glo "_law_char", .glo "_law_scraps", .glo "law", .free "abs", .free "bool", .free "dict", .free "int", .free "isinstance", .free "len", .free "list", .free "range", .free "str", .free "tuple", .str "DIGITS" "0123456789", .str "LETTERS" "abcdefghijklmnopqrstuvwxyzABCDEFGHIJKLMNOPQRSTUVWXYZ", .str "NAME_CHARACTERS" "abcdefghijklmnopqrstuvwxyzABCDEFGHIJKLMNOPQRSTUVWXYZ0123456789_", .str "SIGNS" "(){},:=<+-*", .glo "WORDS"]
def xs_WORDS : List Str := ["ends", "part", "play", "call", "asks", "sets", "as", "if", "else", "while"]
def ex (K : PySem.W.Frag) : Bool := true && He.tupB K "WORDS" (xs_WORDS.map He.Dv.str)
abbrev R : PySem.W.OpenRow := PySem.W.OpenLaw.row PySem.Challenge.rw_onescore_k01_tokens_of_texts
abbrev hk : PySem.W.Hook := He.hookX 4 fa fn [] [] ex
def ob (s : PySem.W.SharedT) : He.AlX := He.obsX 4 fa fn [] [] ex (HandSHeadRun.getT s)
theorem ob_eq (s : PySem.W.SharedT) : ob s = hk.obs s.abs := He.obsX_eq (HandSHeadRun.getT_eq s)
def lo0 : List PySem.Str := ["LETTERS", "DIGITS", "NAME_CHARACTERS", "SIGNS", "WORDS", "run_end", "token_at", "tokens", "_law_tape", "_law_take", "_law_is_integer", "_law_same_items", "_law_same", "_law_letter", "_law_digit", "_law_stretch", "_law_token", "_law_tokens", "_law_char", "_law_scraps"]
def loose : List PySem.Str := lo0
theorem run (w : World) : HandSHeadRun.RunEq R (PySem.W.view R.prog [22]) hk ob 1320 loose w := by
  intro os
  kernel_rfl
theorem facts {P : Program} {w : World} {K : PySem.W.Frag} {h : Heap} {mg : Str → Option Value} (X : K.In h) (G : h.Ns mainGlobals mg) (c : He.SaysX fa fn [] [] ex w h K) : Df K mg ∧ Gb K mg := by
  have cd := c.t.d
  have hx := c.more
  refine ⟨⟨?_, ?_, ?_, ?_, ?_, ?_, ?_, ?_, ?_, ?_, ?_, ?_, ?_, ?_, ?_, ?_⟩, ⟨?_, ?_, ?_, ?_, ?_, ?_, ?_, ?_, ?_, ?_, ?_, ?_, ?_, ?_, ?_⟩⟩
  · obtain ⟨fd, F⟩ := cd.def_ 0 (d := dd0) rfl
    exact ⟨_, fd, He.glo_ok X G (cd.fact 0 (f := .glo "run_end") rfl), F⟩
  · obtain ⟨fd, F⟩ := cd.def_ 1 (d := dd1) rfl
    exact ⟨_, fd, He.glo_ok X G (cd.fact 1 (f := .glo "token_at") rfl), F⟩
  · obtain ⟨fd, F⟩ := cd.def_ 2 (d := dd2) rfl
    exact ⟨_, fd, He.glo_ok X G (cd.fact 2 (f := .glo "tokens") rfl), F⟩
  · obtain ⟨fd, F⟩ := cd.def_ 3 (d := dd3) rfl
    exact ⟨_, fd, He.glo_ok X G (cd.fact 3 (f := .glo "_law_tape") rfl), F⟩
  · obtain ⟨fd, F⟩ := cd.def_ 4 (d := dd4) rfl
    exact ⟨_, fd, He.glo_ok X G (cd.fact 4 (f := .glo "_law_take") rfl), F⟩
  · obtain ⟨fd, F⟩ := cd.def_ 5 (d := dd5) rfl
    exact ⟨_, fd, He.glo_ok X G (cd.fact 5 (f := .glo "_law_is_integer") rfl), F⟩
  · obtain ⟨fd, F⟩ := cd.def_ 6 (d := dd6) rfl
    exact ⟨_, fd, He.glo_ok X G (cd.fact 6 (f := .glo "_law_same_items") rfl), F⟩
  · obtain ⟨fd, F⟩ := cd.def_ 7 (d := dd7) rfl
    exact ⟨_, fd, He.glo_ok X G (cd.fact 7 (f := .glo "_law_same") rfl), F⟩
  · obtain ⟨fd, F⟩ := cd.def_ 8 (d := dd8) rfl
    exact ⟨_, fd, He.glo_ok X G (cd.fact 8 (f := .glo "_law_letter") rfl), F⟩
  · obtain ⟨fd, F⟩ := cd.def_ 9 (d := dd9) rfl
    exact ⟨_, fd, He.glo_ok X G (cd.fact 9 (f := .glo "_law_digit") rfl), F⟩
  · obtain ⟨fd, F⟩ := cd.def_ 10 (d := dd10) rfl
    exact ⟨_, fd, He.glo_ok X G (cd.fact 10 (f := .glo "_law_stretch") rfl), F⟩
  · obtain ⟨fd, F⟩ := cd.def_ 11 (d := dd11) rfl
    exact ⟨_, fd, He.glo_ok X G (cd.fact 11 (f := .glo "_law_token") rfl), F⟩
  · obtain ⟨fd, F⟩ := cd.def_ 12 (d := dd12) rfl
    exact ⟨_, fd, He.glo_ok X G (cd.fact 12 (f := .glo "_law_tokens") rfl), F⟩
  · obtain ⟨fd, F⟩ := cd.def_ 13 (d := dd13) rfl
    exact ⟨_, fd, He.glo_ok X G (cd.fact 13 (f := .glo "_law_char") rfl), F⟩
  · obtain ⟨fd, F⟩ := cd.def_ 14 (d := dd14) rfl
    exact ⟨_, fd, He.glo_ok X G (cd.fact 14 (f := .glo "_law_scraps") rfl), F⟩
  · obtain ⟨fd, F⟩ := cd.def_ 15 (d := dd15) rfl
    exact ⟨_, fd, He.glo_ok X G (cd.fact 15 (f := .glo "law") rfl), F⟩
  · exact He.free_ok X G (cd.fact 16 (f := .free "abs") rfl)
  · exact He.free_ok X G (cd.fact 17 (f := .free "bool") rfl)
  · exact He.free_ok X G (cd.fact 18 (f := .free "dict") rfl)
  · exact He.free_ok X G (cd.fact 19 (f := .free "int") rfl)
  · exact He.free_ok X G (cd.fact 20 (f := .free "isinstance") rfl)
  · exact He.free_ok X G (cd.fact 21 (f := .free "len") rfl)
  · exact He.free_ok X G (cd.fact 22 (f := .free "list") rfl)
  · exact He.free_ok X G (cd.fact 23 (f := .free "range") rfl)
  · exact He.free_ok X G (cd.fact 24 (f := .free "str") rfl)
  · exact He.free_ok X G (cd.fact 25 (f := .free "tuple") rfl)
  · exact Gc.str (He.str_ok X G (cd.fact 26 (f := .str "DIGITS" "0123456789") rfl))
  · exact Gc.str (He.str_ok X G (cd.fact 27 (f := .str "LETTERS" "abcdefghijklmnopqrstuvwxyzABCDEFGHIJKLMNOPQRSTUVWXYZ") rfl))
  · exact Gc.str (He.str_ok X G (cd.fact 28 (f := .str "NAME_CHARACTERS" "abcdefghijklmnopqrstuvwxyzABCDEFGHIJKLMNOPQRSTUVWXYZ0123456789_") rfl))
  · exact Gc.str (He.str_ok X G (cd.fact 29 (f := .str "SIGNS" "(){},:=<+-*") rfl))
  · have e := He.glo_ok X G (cd.fact 30 (f := .glo "WORDS") rfl)
    have t : He.tupB K "WORDS" (xs_WORDS.map He.Dv.str) = true := by
      unfold ex at hx
      simp only [Bool.and_eq_true] at hx
      simp only [hx]
    exact Gc.strs (xs := xs_WORDS) e fun H => He.tupB_ok t H
end K01
section
open PySem PySem.W PySem.Calls PyProof.Rows
theorem K01.holds_of (k : Nat) (hr : L2.Room (k + 1) PySem.callerA) (hlaw : ∀ ns : List Int, ns.length ≤ 63 → (∀ i ∈ ns, Builtin.Int.intBits i ≤ 1048576) → ∃ fr, K01.sem (k + 1) 15 [.fro (ns.map PV.D.int)] = .ret fr (.bl true) []) : PySem.Challenge.rw_onescore_k01_tokens_of_texts.Holds := by
  w_on; o_law
  refine HandSHeadRun.head_any (r := OpenLaw.row PySem.Challenge.rw_onescore_k01_tokens_of_texts) (q := view (OpenLaw.row PySem.Challenge.rw_onescore_k01_tokens_of_texts).prog [22]) (H := K01.hk) (ob := K01.ob) (M := 1320) (loose := K01.loose) (d := HandSHeadRun.topDef (OpenLaw.row PySem.Challenge.rw_onescore_k01_tokens_of_texts).prog 22) (kwd := []) K01.ob_eq
    (by kernel_rfl) (fun s => by kernel_rfl) K01.run (by kernel_rfl) (by kernel_rfl) (by kernel_rfl) (by rfl) (by first | assumption | decide +kernel) (by decide +kernel) ⟨rfl, rfl, rfl, rfl, rfl, by decide +kernel⟩ ?hw ?hc
  case hw => w_witness2
  case hc =>
    refine PV.walk_pv (l := PySem.Challenge.rw_onescore_k01_tokens_of_texts) (k := k + 1) (x := "_law_script") rfl (by kernel_rfl) hr ?_
    intro w mg fa h Y G hmg0
    obtain ⟨K, KX, c⟩ := Y
    have hmg : mg ("law" : PySem.Str) = some (.ref fa) := by
      have e : (HandSHeadRun.topDef (OpenLaw.row PySem.Challenge.rw_onescore_k01_tokens_of_texts).prog 22).name = ("law" : PySem.Str) := by kernel_rfl
      rw [← e]
      exact hmg0
    obtain ⟨D, Gb⟩ := K01.facts (P := (PySem.Challenge.rw_onescore_k01_tokens_of_texts).prog) (w := w) KX G c
    obtain ⟨f, fd, e, F⟩ := D.f15
    rw [hmg] at e
    cases e
    have b := L2.FunD.bindsA (ps := ["_law_script"]) F fun _ _ _ _ _ _ us hl => match us, hl with | [_], _ => rfl
    exact ⟨K, fd, _, KX, fun s u => b s [u] rfl, hlaw, fun base _ _ => K01.w15 F Gb (K01.tab D Gb k)⟩
end

namespace K01
open PySem PySem.Spec L2 PV
def isLet (c : Nat) : Bool := (decide (97 ≤ c) && decide (c ≤ 122)) || (decide (65 ≤ c) && decide (c ≤ 90))
def isDig (c : Nat) : Bool := decide (48 ≤ c) && decide (c ≤ 57)
def nmc (c : Nat) : Bool := isLet c || isDig c || decide (c = 95)
section
variable {l : List Nat} {i c : Nat} {k : Nat}
theorem c_a : (("a" : Str)) = tx [97] := by decide +kernel
theorem c_z : (("z" : Str)) = tx [122] := by decide +kernel
theorem c_A : (("A" : Str)) = tx [65] := by decide +kernel
theorem c_Z : (("Z" : Str)) = tx [90] := by decide +kernel
theorem c_0 : (("0" : Str)) = tx [48] := by decide +kernel
theorem c_9 : (("9" : Str)) = tx [57] := by decide +kernel
theorem c_us : (("_" : Str)) = tx [95] := by decide +kernel
theorem c_sp : ((" " : Str)) = tx [32] := by decide +kernel
theorem c_nl : (("\n" : Str)) = tx [10] := by decide +kernel
theorem c_hash : (("#" : Str)) = tx [35] := by decide +kernel
theorem c_ar : (("->" : Str)) = tx [45, 62] := by decide +kernel
theorem c_eqs : (("==" : Str)) = tx [61, 61] := by decide +kernel
theorem letters_eq : ("abcdefghijklmnopqrstuvwxyzABCDEFGHIJKLMNOPQRSTUVWXYZ" : Str).cps.toList = (List.range' 97 26) ++ List.range' 65 26 := by decide +kernel
theorem digits_eq : ("0123456789" : Str).cps.toList = List.range' 48 10 := by decide +kernel
theorem names_eq : ("abcdefghijklmnopqrstuvwxyzABCDEFGHIJKLMNOPQRSTUVWXYZ0123456789_" : Str).cps.toList = (List.range' 97 26) ++ List.range' 65 26 ++ List.range' 48 10 ++ [95] := by decide +kernel
theorem in_let : hasC ("abcdefghijklmnopqrstuvwxyzABCDEFGHIJKLMNOPQRSTUVWXYZ" : Str) c = isLet c := by
  unfold hasC
  rw [letters_eq, Bool.eq_iff_iff]
  unfold isLet
  simp only [decide_eq_true_eq, List.mem_append, List.mem_range'_1, Bool.or_eq_true, Bool.and_eq_true]
  omega
theorem in_dig : hasC ("0123456789" : Str) c = isDig c := by
  unfold hasC
  rw [digits_eq, Bool.eq_iff_iff]
  unfold isDig
  simp only [decide_eq_true_eq, List.mem_append, List.mem_range'_1, Bool.or_eq_true, Bool.and_eq_true]
  omega
theorem in_nmc : hasC ("abcdefghijklmnopqrstuvwxyzABCDEFGHIJKLMNOPQRSTUVWXYZ0123456789_" : Str) c = nmc c := by
  unfold hasC
  rw [names_eq, Bool.eq_iff_iff]
  unfold nmc isLet isDig
  simp only [decide_eq_true_eq, List.mem_append, List.mem_range'_1, Bool.or_eq_true, Bool.and_eq_true, List.mem_singleton]
  omega
theorem run_loop {al : Str} {s1 s2 : Slot} (hs : l.length ≤ sizeLine) : ∀ (n i : Nat), l.length - i = n → whileM (andM (truB (binM ltD (.sl 3) (.ex (unM lenD (.sl 0))))) (truB (binM (inD false) (.ex (binM ixD (.sl 0) (.sl 3))) (.sl 2)))) (augM addI 3 (constM (.int 1))) [some (.sh, .str (tx l)), s1, some (.sh, .str al), some (.sh, .int i)] =
    .ok .nx [some (.sh, .str (tx l)), s1, some (.sh, .str al), some (.sh, .int (runTo (hasC al) l i))]
  | n, i, h => by
    rw [whileM_eq]
    unfold wstep
    by_cases hi : i < l.length
    · have e : l[i]? = some l[i] := List.getElem?_eq_getElem hi
      by_cases hc : hasC al l[i] = true
      · have ih := run_loop (s1 := s1) (s2 := s2) (al := al) hs (n - 1) (i + 1) (by omega)
        rw [runTo_yes e hc]
        simp [t_len hs, t_ix hs e, hi, hc]
        simpa using ih
      · rw [runTo_no e (by simpa using hc)]
        simp [t_len hs, t_ix hs e, hi, hc]
    · rw [runTo_end (by omega)]
      simp [t_len hs, hi]
  termination_by n => n
  decreasing_by omega
theorem run_end (hs : l.length ≤ sizeLine) {al : Str} : sem (k + 1) 0 [.str (tx l), .int i, .str al] = .ret false (.int (runTo (hasC al) l i)) [] := by
  rw [se0]
  refine runF_rt (s := [some (.sh, .str (tx l)), some (.sh, .int i), some (.sh, .str al), some (.sh, .int (runTo (hasC al) l i))]) ?_ rfl rfl
  rw [show initS [] 4 [.str (tx l), .int i, .str al] = [some (.sh, .str (tx l)), some (.sh, .int i), some (.sh, .str al), none] from rfl]
  have h := run_loop (al := al) (s1 := some (.sh, .int i)) (s2 := none) hs (l.length - i) i rfl
  unfold b0
  simp [h]
theorem letter : sem (k + 1) 8 [.str (tx [c])] = .ret false (.bl (isLet c)) [] := by
  rw [se8]
  refine runF_rt (s := [some (.sh, .str (tx [c]))]) ?_ rfl rfl
  rw [show initS [] 1 [.str (tx [c])] = [some (.sh, .str (tx [c]))] from rfl]
  unfold b8
  rw [c_a, c_z, c_A, c_Z]
  unfold isLet
  by_cases h1 : 97 ≤ c <;> by_cases h2 : c ≤ 122 <;> by_cases h3 : 65 ≤ c <;> simp [-v_ordS, h1, h2, h3]
theorem digit : sem (k + 1) 9 [.str (tx [c])] = .ret false (.bl (isDig c)) [] := by
  rw [se9]
  refine runF_rt (s := [some (.sh, .str (tx [c]))]) ?_ rfl rfl
  rw [show initS [] 1 [.str (tx [c])] = [some (.sh, .str (tx [c]))] from rfl]
  unfold b9
  rw [c_0, c_9]
  unfold isDig
  by_cases h1 : 48 ≤ c <;> by_cases h2 : c ≤ 57 <;> simp [-v_ordS, h1, h2]
/-- what stands within a run: digits, or letters, digits, _ -/
def ins (num : Bool) (c : Nat) : Bool := if num then isDig c else nmc c
noncomputable def stB (k : Nat) : M Fl := (seqM (setM 5 (iteM (truM (.sl 3)) (callM (sem k 9) [.ex (varM 4)]) (orV (callM (sem k 8) [.ex (varM 4)]) (orV (callM (sem k 9) [.ex (varM 4)]) (binM (eqS false) (.sl 4) (.ex (constM (.str "_"))))))))
    (seqM (iteM (notM (truM (.sl 5))) (retM (moveM 2)) nxM)
    (setM 2 (binM addD (.sl 2) (.ex (constM (.int 1)))))))
theorem st_one {s0 s1 s5 : Slot} {e : Nat} {num : Bool} (h5 : ∀ d, s5 ≠ some (.io, d)) : stB (k + 1) [s0, s1, some (.sh, .int e), some (.sh, .bl num), some (.sh, .str (tx [c])), s5] =
    if ins num c then .ok .nx [s0, s1, some (.sh, .int (e + 1 : Nat)), some (.sh, .bl num), some (.sh, .str (tx [c])), some (.sh, .bl true)]
    else .ok (.rt false (.int e)) [s0, s1, some (.sh, .int e), some (.sh, .bl num), some (.sh, .str (tx [c])), some (.sh, .bl false)] := by
  unfold stB ins nmc
  rw [c_us]
  match s5, h5 with
  | some (.io, d), h => exact absurd rfl (h d)
  | none, _ => cases num <;> cases h1 : isLet c <;> cases h2 : isDig c <;> by_cases h3 : c = 95 <;> first | (subst h3; simp [-v_ordS, -v_eqT, letter, digit, h1, h2]) | simp [-v_ordS, -v_eqT, letter, digit, h1, h2, h3]
  | some (.sh, d), _ => cases num <;> cases h1 : isLet c <;> cases h2 : isDig c <;> by_cases h3 : c = 95 <;> first | (subst h3; simp [-v_ordS, -v_eqT, letter, digit, h1, h2]) | simp [-v_ordS, -v_eqT, letter, digit, h1, h2, h3]
  | some (.ow, d), _ => cases num <;> cases h1 : isLet c <;> cases h2 : isDig c <;> by_cases h3 : c = 95 <;> first | (subst h3; simp [-v_ordS, -v_eqT, letter, digit, h1, h2]) | simp [-v_ordS, -v_eqT, letter, digit, h1, h2, h3]
theorem st_loop {s0 s1 : Slot} {num : Bool} : ∀ (m : List Nat) (e : Nat) (s4 s5 : Slot), (∀ d, s4 ≠ some (.io, d)) → (∀ d, s5 ≠ some (.io, d)) → ∃ s', ((forL (.nm 4) (stB (k + 1)) (m.map fun c => .str (tx [c])) [s0, s1, some (.sh, .int e), some (.sh, .bl num), s4, s5]).bind fun fl s' => match fl with
      | .nx => retM (moveM 2) s'
      | fl => .ok fl s') = .ok (.rt false (.int (e + (m.takeWhile (ins num)).length : Nat))) s'
  | [], e, s4, s5, _, _ => ⟨[s0, s1, some (.sh, .int e), some (.sh, .bl num), s4, s5], by simp⟩
  | c :: m, e, s4, s5, h4, h5 => by
    have ep : (Tg.nm 4).put (.str (tx [c])) [s0, s1, some (.sh, .int e), some (.sh, .bl num), s4, s5] = some [s0, s1, some (.sh, .int e), some (.sh, .bl num), some (.sh, .str (tx [c])), s5] := by
      match s4, h4 with
      | none, _ => rfl
      | some (.sh, _), _ => rfl
      | some (.ow, _), _ => rfl
      | some (.io, d), h => exact absurd rfl (h d)
    rw [List.map_cons, ev_for1, ep]
    simp only []
    rw [st_one h5]
    by_cases hc : ins num c = true
    · obtain ⟨s', ih⟩ := st_loop m (e + 1) (some (.sh, .str (tx [c]))) (some (.sh, .bl true)) (by simp) (by simp)
      refine ⟨s', ?_⟩
      rw [if_pos hc, List.takeWhile_cons_of_pos hc, List.length_cons]
      rw [show e + ((m.takeWhile (ins num)).length + 1) = e + 1 + (m.takeWhile (ins num)).length from by omega, ← ih]
      rfl
    · refine ⟨[s0, s1, some (.sh, .int e), some (.sh, .bl num), some (.sh, .str (tx [c])), some (.sh, .bl false)], ?_⟩
      rw [if_neg hc, List.takeWhile_cons_of_neg hc]
      rfl
theorem stretch (hs : l.length ≤ sizeLine) (h : l[i]? = some c) : sem (k + 3) 10 [.str (tx l), .int i] = .ret false (.int (runTo (ins (isDig c)) l i)) [] := by
  obtain ⟨hi, _⟩ := List.getElem?_eq_some_iff.mp h
  rw [se10]
  obtain ⟨s', ih⟩ := st_loop (k := k + 1) (s0 := some (.sh, .str (tx l))) (s1 := some (.sh, .int i)) (num := isDig c) (l.drop i) i none none (by simp) (by simp)
  refine runF_rt (s := s') ?_ rfl rfl
  rw [show initS [] 6 [.str (tx l), .int i] = [some (.sh, .str (tx l)), some (.sh, .int i), none, none, none, none] from rfl]
  show seqM (setM 2 (varM 1)) (seqM (setM 3 (callM (sem (k + 2) 9) [.ex (binM ixD (.sl 0) (.sl 1))])) (seqM (forM (itM (sliceM (.sl 0) (some (.sl 1)) none)) (.nm 4) (stB (k + 1 + 1))) (retM (moveM 2)))) _ = _
  have hd : sem (k + 2) 9 [.str (tx [c])] = .ret false (.bl (isDig c)) [] := digit
  simp [t_ix hs h, hd, t_tail hs (Nat.le_of_lt hi), t_signs, -List.map_drop]
  exact ih
/-! ### a token -/
def wordsD : List D := [.str "ends", .str "part", .str "play", .str "call", .str "asks", .str "sets", .str "as", .str "if", .str "else", .str "while"]
def isWord (m : List Nat) : Bool := inV (.str (tx m)) [.str "ends", .str "part", .str "play", .str "call", .str "asks", .str "sets", .str "as", .str "if", .str "else", .str "while"]
def isPair (m : List Nat) : Bool := decide (m = [45, 62]) || decide (m = [61, 61])
def isSign (c : Nat) : Bool := hasC ("(){},:=<+-*" : Str) c
/-- the token's end -/
def tokE (l : List Nat) (i c : Nat) : Nat := if isLet c then runTo nmc l i else if isDig c then runTo isDig l i else if isPair ((l.drop i).take 2) then i + 2 else i + 1
def tokN (l : List Nat) (i c : Nat) : Str := if isLet c then (if isWord ((l.drop i).take (tokE l i c - i)) then "word" else "name") else if isDig c then "number" else if isPair ((l.drop i).take 2) then "sign" else if isSign c then "sign" else "wrong"
def tokD (l : List Nat) (i c : Nat) : D := .tup [.str (tokN l i c), .int i, .int (tokE l i c)]
theorem in_words {m : List Nat} {n : Bool} : inD n (.str (tx m)) d_WORDS = some (false, .bl (if n then !isWord m else isWord m)) := rfl
theorem in_words2 {m : List Nat} {n : Bool} : inD n (.str (tx m)) (.lst wordsD) = some (false, .bl (if n then !isWord m else isWord m)) := rfl
theorem in_pair {m : List Nat} {n : Bool} : inD n (.str (tx m)) (.tup [.str "->", .str "=="]) = some (false, .bl (if n then !isPair m else isPair m)) := by
  have e : inV (.str (tx m)) [.str "->", .str "=="] = isPair m := by
    rw [c_ar, c_eqs, Bool.eq_iff_iff]
    show ((tx [45, 62] == tx m) || ((tx [61, 61] == tx m) || false)) = true ↔ _
    unfold isPair
    simp only [Bool.or_eq_true, beq_iff_eq, decide_eq_true_eq, tx_inj, Bool.or_false]
    constructor <;> rintro (h | h) <;> first | exact .inl h.symm | exact .inr h.symm
  show some (false, D.bl (if n then !inV (.str (tx m)) [.str "->", .str "=="] else inV (.str (tx m)) [.str "->", .str "=="])) = _
  rw [e]
theorem tlen : 3 ≤ sizeLine := by decide +kernel
theorem tlen2 : 2 ≤ sizeLine := by decide +kernel
theorem token_at (hs : l.length ≤ sizeLine) (h : l[i]? = some c) : sem (k + 2) 1 [.str (tx l), .int i] = .ret false (tokD l i c) [] := by
  obtain ⟨hi, _⟩ := List.getElem?_eq_some_iff.mp h
  rw [se1]
  have hr : ∀ al : Str, sem (k + 1) 0 [.str (tx l), .int i, .str al] = .ret false (.int (runTo (hasC al) l i)) [] := fun al => run_end hs
  have e1 : runTo (hasC ("abcdefghijklmnopqrstuvwxyzABCDEFGHIJKLMNOPQRSTUVWXYZ0123456789_" : Str)) l i = runTo nmc l i := runTo_congr fun c => in_nmc
  have e2 : runTo (hasC ("0123456789" : Str)) l i = runTo isDig l i := runTo_congr fun c => in_dig
  have i0 : initS [] 4 [.str (tx l), .int i] = [some (.sh, .str (tx l)), some (.sh, .int i), none, none] := rfl
  have sl2 : sliceD (some (i : Int)) (some ((i : Int) + 2)) (.str (tx l)) = some (false, .str (tx ((l.drop i).take 2))) := by
    have := t_slice (j := i + 2) hs (Nat.le_of_lt hi)
    rw [show i + 2 - i = 2 from by omega] at this
    exact this
  unfold tokD tokN
  by_cases hl : isLet c = true
  · have te : tokE l i c = runTo nmc l i := by unfold tokE; rw [if_pos hl]
    refine runF_rt (s := [some (.sh, .str (tx l)), some (.sh, .int i), some (.sh, .str (tx [c])), some (.sh, .int (runTo nmc l i))]) ?_ rfl rfl
    rw [i0]
    unfold b1
    unfold d_LETTERS d_NAME_CHARACTERS
    cases hw : isWord ((l.drop i).take (runTo nmc l i - i)) <;> simp [-v_ordS, -v_eqT, t_ix hs h, in_let, hl, hr, e1, t_slice hs (Nat.le_of_lt hi), in_words, te, hw, tlen]
  · by_cases hd : isDig c = true
    · have te : tokE l i c = runTo isDig l i := by unfold tokE; rw [if_neg hl, if_pos hd]
      refine runF_rt (s := [some (.sh, .str (tx l)), some (.sh, .int i), some (.sh, .str (tx [c])), none]) ?_ rfl rfl
      rw [i0]
      unfold b1
      unfold d_LETTERS d_DIGITS
      simp [-v_ordS, -v_eqT, t_ix hs h, in_let, in_dig, hl, hd, hr, e2, te, tlen]
    · by_cases hp : isPair ((l.drop i).take 2) = true
      · have te : tokE l i c = i + 2 := by unfold tokE; rw [if_neg hl, if_neg hd, if_pos hp]
        refine runF_rt (s := [some (.sh, .str (tx l)), some (.sh, .int i), some (.sh, .str (tx [c])), none]) ?_ rfl rfl
        rw [i0]
        unfold b1
        unfold d_LETTERS d_DIGITS
        simp [-v_ordS, -v_eqT, t_ix hs h, in_let, in_dig, hl, hd, hp, sl2, in_pair, te, tlen, tlen2]
      · have te : tokE l i c = i + 1 := by unfold tokE; rw [if_neg hl, if_neg hd, if_neg hp]
        refine runF_rt (s := [some (.sh, .str (tx l)), some (.sh, .int i), some (.sh, .str (tx [c])), none]) ?_ rfl rfl
        rw [i0]
        unfold b1
        unfold d_LETTERS d_DIGITS d_SIGNS
        have hsg : hasC ("(){},:=<+-*" : Str) c = isSign c := rfl
        cases h6 : isSign c <;> simp [-v_ordS, -v_eqT, t_ix hs h, in_let, in_dig, hl, hd, hp, sl2, in_pair, te, tlen, tlen2, hsg, h6]
theorem st_ins (b : Bool) : ∀ c, ins b c = if b then isDig c else nmc c := fun _ => rfl
theorem ins_t : ins true = isDig := funext fun _ => rfl
theorem ins_f : ins false = nmc := funext fun _ => rfl
theorem ip1 : isPair [45, 62] = true := by decide
theorem ip2 : isPair [61, 61] = true := by decide
theorem tlen10 : 10 ≤ sizeLine := by decide +kernel
theorem law_token (hs : l.length ≤ sizeLine) (h : l[i]? = some c) : sem (k + 4) 11 [.str (tx l), .int i] = .ret false (tokD l i c) [] := by
  obtain ⟨hi, _⟩ := List.getElem?_eq_some_iff.mp h
  rw [se11]
  have hr : sem (k + 3) 10 [.str (tx l), .int i] = .ret false (.int (runTo (ins (isDig c)) l i)) [] := stretch hs h
  have h8 : sem (k + 3) 8 [.str (tx [c])] = .ret false (.bl (isLet c)) [] := letter
  have h9 : sem (k + 3) 9 [.str (tx [c])] = .ret false (.bl (isDig c)) [] := digit
  have i0 : initS [] 5 [.str (tx l), .int i] = [some (.sh, .str (tx l)), some (.sh, .int i), none, none, none] := rfl
  have sl2 : sliceD (some (i : Int)) (some ((i : Int) + 2)) (.str (tx l)) = some (false, .str (tx ((l.drop i).take 2))) := by
    have := t_slice (j := i + 2) hs (Nat.le_of_lt hi)
    rw [show i + 2 - i = 2 from by omega] at this
    exact this
  unfold tokD tokN
  by_cases hl : isLet c = true
  · have hd : isDig c = false := by
      unfold isLet at hl; unfold isDig
      simp only [Bool.or_eq_true, Bool.and_eq_true, decide_eq_true_eq] at hl
      rw [Bool.and_eq_false_iff, decide_eq_false_iff_not, decide_eq_false_iff_not]
      omega
    have te : tokE l i c = runTo nmc l i := by unfold tokE; rw [if_pos hl]
    rw [hd, ins_f] at hr
    refine runF_rt (s := [some (.sh, .str (tx l)), some (.sh, .int i), some (.ow, .lst wordsD), some (.sh, .str (tx [c])), some (.sh, .int (runTo nmc l i))]) ?_ rfl rfl
    rw [i0]
    unfold b11
    have iw : inD false (.str (tx ((l.drop i).take (runTo nmc l i - i)))) (.lst wordsD) = _ := in_words2
    unfold wordsD at iw ⊢
    cases hw : isWord ((l.drop i).take (runTo nmc l i - i)) <;> simp [-v_ordS, -v_eqT, t_ix hs h, hl, hr, h8, h9, t_slice hs (Nat.le_of_lt hi), iw, te, hw, tlen, tlen10]
  · by_cases hd : isDig c = true
    · have te : tokE l i c = runTo isDig l i := by unfold tokE; rw [if_neg hl, if_pos hd]
      rw [hd, ins_t] at hr
      refine runF_rt (s := [some (.sh, .str (tx l)), some (.sh, .int i), some (.ow, .lst wordsD), some (.sh, .str (tx [c])), none]) ?_ rfl rfl
      rw [i0]
      unfold b11
      unfold wordsD
      simp [-v_ordS, -v_eqT, t_ix hs h, hl, hd, hr, h8, h9, te, tlen, tlen10]
    · have cp : ∀ m : List Nat, isPair m = (decide (m = [45, 62]) || decide (m = [61, 61])) := fun _ => rfl
      by_cases hp : isPair ((l.drop i).take 2) = true
      · have te : tokE l i c = i + 2 := by unfold tokE; rw [if_neg hl, if_neg hd, if_pos hp]
        refine runF_rt (s := [some (.sh, .str (tx l)), some (.sh, .int i), some (.ow, .lst wordsD), some (.sh, .str (tx [c])), none]) ?_ rfl rfl
        rw [i0]
        unfold b11
        unfold wordsD
        have hp' := hp
        rw [cp] at hp'
        generalize (l.drop i).take 2 = m at *
        by_cases p1 : m = [45, 62]
        · simp [-v_ordS, -v_eqT, t_ix hs h, hl, hd, hp, h8, h9, sl2, te, tlen, tlen10, c_ar, p1, ip1]
        · have p2 : m = [61, 61] := by simpa [p1] using hp'
          simp [-v_ordS, -v_eqT, t_ix hs h, hl, hd, hp, h8, h9, sl2, te, tlen, tlen10, c_ar, c_eqs, p2, ip2]
      · have te : tokE l i c = i + 1 := by unfold tokE; rw [if_neg hl, if_neg hd, if_neg hp]
        refine runF_rt (s := [some (.sh, .str (tx l)), some (.sh, .int i), some (.ow, .lst wordsD), some (.sh, .str (tx [c])), none]) ?_ rfl rfl
        rw [i0]
        unfold b11
        unfold wordsD
        have hsg : hasC ("(){},:=<+-*" : Str) c = isSign c := rfl
        have hp' := hp
        rw [cp] at hp'
        generalize (l.drop i).take 2 = m at *
        simp only [Bool.or_eq_true, decide_eq_true_eq, not_or] at hp'
        obtain ⟨p1, p2⟩ := hp'
        cases h6 : isSign c <;> simp [-v_ordS, -v_eqT, t_ix hs h, hl, hd, hp, h8, h9, sl2, te, tlen, tlen10, c_ar, c_eqs, p1, p2, hsg, h6]
/-! ### the tokens of a text -/
inductive Tk (l : List Nat) : Nat → List D → Prop
  | fin {i : Nat} : l.length ≤ i → Tk l i []
  | skip {i c : Nat} {ds : List D} : l[i]? = some c → c = 32 ∨ c = 10 → Tk l (i + 1) ds → Tk l i ds
  | note {i : Nat} {ds : List D} : l[i]? = some 35 → Tk l (nextAt l 10 i) ds → Tk l i ds
  | tok {i c : Nat} {ds : List D} : l[i]? = some c → c ≠ 32 → c ≠ 10 → c ≠ 35 → Tk l (tokE l i c) ds → Tk l i (tokD l i c :: ds)
theorem tokE_gt (h : l[i]? = some c) : i + 1 ≤ tokE l i c := by
  unfold tokE
  split
  · rename_i hl
    rw [runTo_yes h (by unfold nmc; rw [hl]; rfl)]
    exact runTo_ge
  · split
    · rename_i hd
      rw [runTo_yes h hd]
      exact runTo_ge
    · split <;> omega
theorem next_gt (h : l[i]? = some 35) : nextAt l 10 i = nextAt l 10 (i + 1) := nextAt_miss h (by decide)
theorem next_ge (i : Nat) : i ≤ nextAt l c i := Nat.le_add_right _ _
theorem tk_ex : ∀ (n i : Nat), l.length - i ≤ n → ∃ ds, Tk l i ds ∧ ds.length ≤ n
  | 0, i, h => ⟨[], .fin (by omega), Nat.le_refl _⟩
  | n + 1, i, h => by
    by_cases hi : i < l.length
    · have e : l[i]? = some l[i] := List.getElem?_eq_getElem hi
      generalize l[i] = c at e
      by_cases h1 : c = 32 ∨ c = 10
      · obtain ⟨ds, t, hl⟩ := tk_ex n (i + 1) (by omega)
        exact ⟨ds, .skip e h1 t, by omega⟩
      · by_cases h2 : c = 35
        · subst h2
          obtain ⟨ds, t, hl⟩ := tk_ex n (nextAt l 10 i) (by have := next_ge (l := l) (c := 10) (i + 1); rw [next_gt e]; omega)
          exact ⟨ds, .note e t, by omega⟩
        · obtain ⟨ds, t, hl⟩ := tk_ex n (tokE l i c) (by have := tokE_gt e; omega)
          exact ⟨_ :: ds, .tok e (fun q => h1 (.inl q)) (fun q => h1 (.inr q)) h2 t, by simp; omega⟩
    · exact ⟨[], .fin (by omega), Nat.zero_le _⟩
theorem tk_fin {ds : List D} (t : Tk l i ds) (h : l.length ≤ i) : ds = [] := by
  cases t with
  | fin _ => rfl
  | skip e _ _ => rw [List.getElem?_eq_none h] at e; cases e
  | note e _ => rw [List.getElem?_eq_none h] at e; cases e
  | tok e _ _ _ _ => rw [List.getElem?_eq_none h] at e; cases e
theorem at_last {xs : List D} {y : D} : atI (xs ++ [y]) (-1) = some y := by
  unfold atI ixN
  rw [if_neg (by decide), if_pos (by simp; omega)]
  have : (-1 + ((xs ++ [y]).length : Int)).toNat = xs.length := by simp; omega
  rw [Option.bind_some, this]
  simp
theorem at_two {a b d : D} : atI [a, b, d] 2 = some d := rfl
noncomputable def tkC : M Bool := (truB (binM ltD (.sl 2) (.ex (unM lenD (.sl 0)))))
noncomputable def tkB (k : Nat) : M Fl := (iteM (orM (truB (binM (eqS false) (.ex (binM ixD (.sl 0) (.sl 2))) (.ex (constM (.str " "))))) (truB (binM (eqS false) (.ex (binM ixD (.sl 0) (.sl 2))) (.ex (constM (.str "\n")))))) (augM addI 2 (constM (.int 1))) (iteM (truB (binM (eqS false) (.ex (binM ixD (.sl 0) (.sl 2))) (.ex (constM (.str "#"))))) (seqM (setM 3 (methS findD (.sl 0) [(.ex (constM (.str "\n"))), (.sl 2)]))
    (setM 2 (iteM (truB (binM ltD (.sl 3) (.ex (constM (.int 0))))) (unM lenD (.sl 0)) (varM 3)))) (seqM (dropM (growM appD 1 (callM (sem k 1) [.ex (varM 0), .ex (varM 2)])))
    (setM 2 (binM ixD (.ex (binM ixD (.sl 1) (.ex (negM (.ex (constM (.int 1))))))) (.ex (constM (.int 2))))))))
theorem tk_loop (hs : l.length ≤ sizeLine) {ds : List D} (t : Tk l i ds) : ∀ (acc : List D) (s3 : Slot), (∀ d, s3 ≠ some (.io, d)) → acc.length + ds.length ≤ sizeLine → ∃ (s2' s3' : Slot), whileM tkC (tkB (k + 2)) [some (.sh, .str (tx l)), some (.ow, .lst acc), some (.sh, .int i), s3] = .ok .nx [some (.sh, .str (tx l)), some (.ow, .lst (acc ++ ds)), s2', s3'] := by
  induction t with
  | @fin i h =>
    intro acc s3 _ _
    refine ⟨some (.sh, .int i), s3, ?_⟩
    rw [whileM_eq]
    unfold wstep tkC
    have hi : ¬ i < l.length := by omega
    simp [t_len hs, hi]
  | @skip i c ds e h _ ih =>
    intro acc s3 h3 hz
    obtain ⟨s2', s3', ih⟩ := ih acc s3 h3 hz
    refine ⟨s2', s3', ?_⟩
    rw [whileM_eq, ← ih]
    unfold wstep
    have hi : i < l.length := (List.getElem?_eq_some_iff.mp e).1
    have e1 : tkC [some (.sh, .str (tx l)), some (.ow, .lst acc), some (.sh, .int i), s3] = .ok true [some (.sh, .str (tx l)), some (.ow, .lst acc), some (.sh, .int i), s3] := by
      unfold tkC; simp [t_len hs, hi]
    have e2 : tkB (k + 2) [some (.sh, .str (tx l)), some (.ow, .lst acc), some (.sh, .int i), s3] = .ok .nx [some (.sh, .str (tx l)), some (.ow, .lst acc), some (.sh, .int (i + 1 : Nat)), s3] := by
      unfold tkB
      rcases h with rfl | rfl <;> simp [-v_eqT, t_ix hs e, c_sp, c_nl]
    rw [e1]
    simp only [Res.bind_ok, if_true, e2]
  | @note i ds e _ ih =>
    intro acc s3 h3 hz
    obtain ⟨s2', s3', ih⟩ := ih acc (some (.sh, .int (if nextAt l 10 i < l.length then ((nextAt l 10 i : Nat) : Int) else -1))) (by simp) hz
    refine ⟨s2', s3', ?_⟩
    rw [whileM_eq, ← ih]
    unfold wstep
    have hi : i < l.length := (List.getElem?_eq_some_iff.mp e).1
    have e1 : tkC [some (.sh, .str (tx l)), some (.ow, .lst acc), some (.sh, .int i), s3] = .ok true [some (.sh, .str (tx l)), some (.ow, .lst acc), some (.sh, .int i), s3] := by
      unfold tkC; simp [t_len hs, hi]
    have hf := t_find (c := 10) (Nat.le_of_lt hi)
    have e2 : tkB (k + 2) [some (.sh, .str (tx l)), some (.ow, .lst acc), some (.sh, .int i), s3] = .ok .nx [some (.sh, .str (tx l)), some (.ow, .lst acc), some (.sh, .int (nextAt l 10 i)), some (.sh, .int (if nextAt l 10 i < l.length then ((nextAt l 10 i : Nat) : Int) else -1))] := by
      unfold tkB
      by_cases hn : nextAt l 10 i < l.length
      · have h0 : ¬ ((nextAt l 10 i : Nat) : Int) < 0 := by omega
        rw [if_pos hn] at hf ⊢
        match s3, h3 with
        | some (.io, d), h => exact absurd rfl (h d)
        | none, _ => simp [-v_eqT, t_ix hs e, c_sp, c_nl, c_hash, hf, t_len hs, h0]
        | some (.sh, d), _ => simp [-v_eqT, t_ix hs e, c_sp, c_nl, c_hash, hf, t_len hs, h0]
        | some (.ow, d), _ => simp [-v_eqT, t_ix hs e, c_sp, c_nl, c_hash, hf, t_len hs, h0]
      · have h0 : nextAt l 10 i = l.length := by have := nextAt_le (c := 10) (Nat.le_of_lt hi); omega
        rw [if_neg hn] at hf ⊢
        rw [h0]
        match s3, h3 with
        | some (.io, d), h => exact absurd rfl (h d)
        | none, _ => simp [-v_eqT, t_ix hs e, c_sp, c_nl, c_hash, hf, t_len hs]
        | some (.sh, d), _ => simp [-v_eqT, t_ix hs e, c_sp, c_nl, c_hash, hf, t_len hs]
        | some (.ow, d), _ => simp [-v_eqT, t_ix hs e, c_sp, c_nl, c_hash, hf, t_len hs]
    rw [e1]
    simp only [Res.bind_ok, if_true, e2]
  | @tok i c ds e h1 h2 h4 _ ih =>
    intro acc s3 h3 hz
    obtain ⟨s2', s3', ih⟩ := ih (acc ++ [tokD l i c]) s3 h3 (by simp at hz ⊢; omega)
    refine ⟨s2', s3', ?_⟩
    rw [List.append_assoc, List.singleton_append] at ih
    rw [whileM_eq, ← ih]
    unfold wstep
    have hi : i < l.length := (List.getElem?_eq_some_iff.mp e).1
    have hz2 : acc.length < sizeLine := by simp at hz; omega
    have e1 : tkC [some (.sh, .str (tx l)), some (.ow, .lst acc), some (.sh, .int i), s3] = .ok true [some (.sh, .str (tx l)), some (.ow, .lst acc), some (.sh, .int i), s3] := by
      unfold tkC; simp [t_len hs, hi]
    have hk : sem (k + 2) 1 [.str (tx l), .int i] = .ret false (tokD l i c) [] := token_at hs e
    have hx : ixD (tokD l i c) (.int 2) = some (false, .int (tokE l i c)) := rfl
    have e2 : tkB (k + 2) [some (.sh, .str (tx l)), some (.ow, .lst acc), some (.sh, .int i), s3] = .ok .nx [some (.sh, .str (tx l)), some (.ow, .lst (acc ++ [tokD l i c])), some (.sh, .int (tokE l i c)), s3] := by
      unfold tkB
      simp [-v_eqT, t_ix hs e, c_sp, c_nl, c_hash, h1, h2, h4, hk, hz2, at_last, hx]
    rw [e1]
    simp only [Res.bind_ok, if_true, e2]
theorem tokens (hs : l.length ≤ sizeLine) {ds : List D} (t : Tk l 0 ds) (hz : ds.length ≤ sizeLine) : sem (k + 3) 2 [.str (tx l)] = .ret true (.lst ds) [] := by
  rw [se2]
  obtain ⟨s2', s3', h⟩ := tk_loop (k := k) hs t [] none (by simp) (by simpa using hz)
  have e : b2 (sem (k + 2)) (initS [] 4 [.str (tx l)]) = .ok (.rt true (.lst ds)) [some (.sh, .str (tx l)), none, s2', s3'] := by
    rw [show initS [] 4 [.str (tx l)] = [some (.sh, .str (tx l)), none, none, none] from rfl]
    show seqM (setM 1 (lstM [])) (seqM (setM 2 (constM (.int 0))) (seqM (whileM tkC (tkB (k + 2))) (retM (moveM 1)))) _ = _
    rw [show ((0 : Nat) : Int) = 0 from rfl, List.nil_append] at h
    simp [h]
  exact runF_rt e rfl rfl
/-! ### the law's tokens -/
noncomputable def lwB (k : Nat) : M Fl := (seqM (iteM (truB (binM (eqS false) (.ex (binM ixD (.sl 0) (.sl 4))) (.ex (constM (.str "\n"))))) (setM 3 (constM (.bl false))) nxM)
    (seqM (iteM (orM (truB (binM ltD (.sl 4) (.sl 2))) (orM (truM (.sl 3)) (orM (truB (binM (eqS false) (.ex (binM ixD (.sl 0) (.sl 4))) (.ex (constM (.str " "))))) (truB (binM (eqS false) (.ex (binM ixD (.sl 0) (.sl 4))) (.ex (constM (.str "\n")))))))) ctM nxM)
    (iteM (truB (binM (eqS false) (.ex (binM ixD (.sl 0) (.sl 4))) (.ex (constM (.str "#"))))) (setM 3 (constM (.bl true))) (seqM (dropM (growM appD 1 (callM (sem k 11) [.ex (varM 0), .ex (varM 4)])))
    (setM 2 (binM ixD (.ex (binM ixD (.sl 1) (.ex (negM (.ex (constM (.int 1))))))) (.ex (constM (.int 2)))))))))
/-- one turn: from (behind, comment, acc) at i -/
def lwS (acc : List D) (b : Nat) (cm : Bool) (l : List Nat) (s4 : Slot) : S := [some (.sh, .str (tx l)), some (.ow, .lst acc), some (.sh, .int b), some (.sh, .bl cm), s4]
theorem lw_loop (hs : l.length ≤ sizeLine) : ∀ (n i b : Nat) (cm : Bool) (acc ds : List D) (s4 : Slot), i + n = l.length → Tk l (if cm then nextAt l 10 i else max i b) ds → (cm = true → b ≤ i) → (∀ d, s4 ≠ some (.io, d)) → acc.length + ds.length ≤ sizeLine →
    ∃ (b' : Nat) (cm' : Bool) (s4' : Slot), forL (.nm 4) (lwB (k + 4)) ((List.range' i n).map fun j => .int (0 + (j : Nat))) (lwS acc b cm l s4) = .ok .nx (lwS (acc ++ ds) b' cm' l s4')
  | 0, i, b, cm, acc, ds, s4, hn, t, hb, h4, hz => by
    have e : ds = [] := tk_fin t (by cases cm with | true => have := next_ge (l := l) (c := 10) i; simp; omega | false => simp; omega)
    subst e
    exact ⟨b, cm, s4, by simp⟩
  | n + 1, i, b, cm, acc, ds, s4, hn, t, hb, h4, hz => by
    have hi : i < l.length := by omega
    have e : l[i]? = some l[i] := List.getElem?_eq_getElem hi
    generalize l[i] = c at e
    have ep : (Tg.nm 4).put (.int (0 + (i : Nat))) (lwS acc b cm l s4) = some (lwS acc b cm l (some (.sh, .int i))) := by
      rw [Int.zero_add]
      match s4, h4 with
      | none, _ => rfl
      | some (.sh, _), _ => rfl
      | some (.ow, _), _ => rfl
      | some (.io, d), h => exact absurd rfl (h d)
    rw [List.range'_succ, List.map_cons, ev_for1, ep]
    simp only []
    have go : ∀ (fl : Fl) (b1 : Nat) (cm1 : Bool) (acc1 ds1 : List D), fl = .nx ∨ fl = .ct → lwB (k + 4) (lwS acc b cm l (some (.sh, .int i))) = .ok fl (lwS acc1 b1 cm1 l (some (.sh, .int i))) → Tk l (if cm1 then nextAt l 10 (i + 1) else max (i + 1) b1) ds1 → (cm1 = true → b1 ≤ i + 1) → acc1.length + ds1.length ≤ sizeLine → acc1 ++ ds1 = acc ++ ds →
        ∃ (b' : Nat) (cm' : Bool) (s4' : Slot), ((lwB (k + 4) (lwS acc b cm l (some (.sh, .int i)))).bind fun fl s2 => (match fl with
          | .bk => .ok .nx s2
          | .rt fr d => .ok (.rt fr d) s2
          | _ => forL (.nm 4) (lwB (k + 4)) ((List.range' (i + 1) n).map fun j => .int (0 + (j : Nat))) s2)) = .ok .nx (lwS (acc ++ ds) b' cm' l s4') := by
      intro fl b1 cm1 acc1 ds1 hf hr ht hb1 hz1 ha
      obtain ⟨b', cm', s4', ih⟩ := lw_loop hs n (i + 1) b1 cm1 acc1 ds1 (some (.sh, .int i)) (by omega) ht hb1 (by simp) hz1
      refine ⟨b', cm', s4', ?_⟩
      rw [hr]
      rw [ha] at ih
      rcases hf with rfl | rfl <;> exact ih
    have bz : ∀ x : Nat, (i : Int) < (x : Int) ↔ i < x := fun x => by omega
    cases cm with
    | true =>
      have hb' := hb rfl
      have nb : ¬ i < b := by omega
      by_cases hc : c = 10
      · subst hc
        refine go .ct b false acc ds (.inr rfl) (by unfold lwB lwS; simp [-v_eqT, t_ix hs e, c_sp, c_nl, c_hash, nb]) ?_ (by simp) hz rfl
        simp only [if_true, nextAt_hit e] at t
        have : max (i + 1) b = i + 1 := by omega
        simp only [Bool.false_eq_true, if_false, this]
        cases t with
        | fin h => omega
        | skip e' _ t => exact t
        | note e' _ => rw [e] at e'; cases e'
        | tok e' h1 h2 h3 _ => rw [e] at e'; cases e'; exact absurd rfl h2
      · refine go .ct b true acc ds (.inr rfl) (by unfold lwB lwS; simp [-v_eqT, t_ix hs e, c_sp, c_nl, c_hash, nb, hc]) ?_ (fun _ => by omega) hz rfl
        simp only [if_true] at t ⊢
        rw [← nextAt_miss e hc]
        exact t
    | false =>
      simp only [Bool.false_eq_true, if_false] at t
      by_cases nb : i < b
      · have m1 : max i b = b := by omega
        have m2 : max (i + 1) b = b := by omega
        rw [m1] at t
        refine go .ct b false acc ds (.inr rfl) ?_ (by simp only [Bool.false_eq_true, if_false, m2]; exact t) (by simp) hz rfl
        unfold lwB lwS
        by_cases hc : c = 10 <;> simp [-v_eqT, t_ix hs e, c_sp, c_nl, c_hash, nb, hc]
      · have m1 : max i b = i := by omega
        have m2 : max (i + 1) b = i + 1 := by omega
        rw [m1] at t
        cases t with
        | fin h => omega
        | @skip _ c' _ e' h t =>
          rw [e] at e'; cases e'
          refine go .ct b false acc ds (.inr rfl) ?_ (by simp only [Bool.false_eq_true, if_false, m2]; exact t) (by simp) hz rfl
          unfold lwB lwS
          rcases h with rfl | rfl <;> simp [-v_eqT, t_ix hs e, c_sp, c_nl, c_hash, nb]
        | note e' t =>
          rw [e] at e'; cases e'
          refine go .nx b true acc ds (.inl rfl) ?_ (by simp only [if_true]; rw [← next_gt e]; exact t) (fun _ => by omega) hz rfl
          unfold lwB lwS
          simp [-v_eqT, t_ix hs e, c_sp, c_nl, c_hash, nb]
        | @tok _ c' ds' e' h1 h2 h3 t =>
          rw [e] at e'; cases e'
          have hk : sem (k + 4) 11 [.str (tx l), .int i] = .ret false (tokD l i c) [] := law_token hs e
          have hx : ixD (tokD l i c) (.int 2) = some (false, .int (tokE l i c)) := rfl
          have hz2 : acc.length < sizeLine := by simp at hz; omega
          have m3 : max (i + 1) (tokE l i c) = tokE l i c := by have := tokE_gt e; omega
          refine go .nx (tokE l i c) false (acc ++ [tokD l i c]) ds' (.inl rfl) ?_ (by simp only [Bool.false_eq_true, if_false, m3]; exact t) (by simp) (by simp at hz ⊢; omega) (by simp)
          unfold lwB lwS
          simp [-v_eqT, t_ix hs e, c_sp, c_nl, c_hash, nb, h1, h2, h3, hk, hz2, at_last, hx]
theorem law_tokens (hs : l.length ≤ sizeLine) {ds : List D} (t : Tk l 0 ds) (hz : ds.length ≤ sizeLine) : sem (k + 5) 12 [.str (tx l)] = .ret true (.lst ds) [] := by
  rw [se12]
  obtain ⟨b', cm', s4', h⟩ := lw_loop (k := k) hs l.length 0 0 false [] ds none (by omega) (by simpa using t) (by simp) (by simp) (by simpa using hz)
  have e : b12 (sem (k + 4)) (initS [] 5 [.str (tx l)]) = .ok (.rt true (.lst ds)) [some (.sh, .str (tx l)), none, some (.sh, .int b'), some (.sh, .bl cm'), s4'] := by
    rw [show initS [] 5 [.str (tx l)] = [some (.sh, .str (tx l)), none, none, none, none] from rfl]
    show seqM (setM 1 (lstM [])) (seqM (setM 2 (constM (.int 0))) (seqM (setM 3 (constM (.bl false))) (seqM (forM (rng1M (unM lenD (.sl 0))) (.nm 4) (lwB (k + 4))) (retM (moveM 1))))) _ = _
    have h' : forL (.nm 4) (lwB (k + 4)) (intsD 0 l.length) [some (.sh, .str (tx l)), some (.ow, .lst []), some (.sh, .int 0), some (.sh, .bl false), none] = .ok .nx [some (.sh, .str (tx l)), some (.ow, .lst ds), some (.sh, .int b'), some (.sh, .bl cm'), s4'] := by
      unfold intsD
      rw [List.range_eq_range']
      exact h
    simp [t_len hs, rng_nat hs, h']
  exact runF_rt e rfl rfl
end
end K01

namespace K01
open PySem PySem.Spec L2 PV
/-! ### the drawn texts -/
theorem take {k : Nat} {d : D} {m : Int} (h : Tape d) (h3 : 0 < m) (h4 : m < 1073741824) : ∃ (r : Int) (d' : D), 0 ≤ r ∧ r < m ∧ Tape d' ∧ sem (k + 1) 4 [d, .int m] = .ret false (.int r) [d'] := take_run h h3 h4
def chS : Str := (" !#$&'()*+,-./0123456789:;<=>?@ABCDEFGHIJKLMNOPQRSTUVWXYZ[]^_" : Str) ++ ("abcdefghijklmnopqrstuvwxyz{|}~\n" : Str)
theorem chS_len : chS.length = 92 := by decide +kernel
theorem chS_fit : (" !#$&'()*+,-./0123456789:;<=>?@ABCDEFGHIJKLMNOPQRSTUVWXYZ[]^_" : Str).length + ("abcdefghijklmnopqrstuvwxyz{|}~\n" : Str).length ≤ sizeLine := by decide +kernel
theorem char {k : Nat} {d : D} (h : Tape d) : ∃ (c : Nat) (d' : D), Tape d' ∧ sem (k + 2) 13 [d] = .ret false (.str (tx [c])) [d'] := by
  obtain ⟨r, d', r0, r1, t, e⟩ := take (k := k) (m := 92) h (by decide) (by decide)
  have hz : (92 : Nat) ≤ sizeLine := by decide +kernel
  have hl : chS.cps.toList.length = 92 := by rw [← chS_len]; simp [Str.length]
  obtain ⟨n, rfl⟩ := Int.eq_ofNat_of_zero_le r0
  have hn : n < chS.cps.toList.length := by omega
  refine ⟨chS.cps.toList[n], d', t, ?_⟩
  rw [se13]
  have hx : ixD (.str chS) (.int n) = some (false, .str (tx [chS.cps.toList[n]])) := by
    rw [v_ixS, if_pos (by rw [chS_len]; exact hz), at_nat, List.getElem?_eq_getElem hn]; rfl
  have hy : lenD (.str chS) = some (false, .int 92) := by
    rw [v_lenS, if_pos (by rw [chS_len]; exact hz), chS_len]; rfl
  have ha : addD (.str " !#$&'()*+,-./0123456789:;<=>?@ABCDEFGHIJKLMNOPQRSTUVWXYZ[]^_") (.str "abcdefghijklmnopqrstuvwxyz{|}~\n") = some (false, .str chS) := by
    rw [v_addS, if_pos chS_fit]; rfl
  refine runF_rt (s := [some (.io, d'), some (.sh, .str chS)]) ?_ rfl rfl
  rw [show initS [0] 2 [d] = [some (.io, d), none] from rfl]
  unfold b13
  simp [-v_addS, -v_ixS, -v_lenS, ha, hy, hx, e]
def wS : List Str := ["ends ", "a", "b", ", ", "play ", "{", "}", "->", ": ", "go", "(", "1", ")", " as ", "n", " sets ", "=", "==", "<", "+", "-", "*", "if ", " else ", "while ", "call ", "part ", " asks ", "#", "\n"]
theorem wS_len : wS.length = 30 := rfl
theorem wS_6 : ∀ y ∈ wS, y.length ≤ 6 := by decide +kernel
noncomputable def scB (k : Nat) : M Fl := (dropM (growM appD 3 (iteM (truB (binM (eqS false) (.ex (callM (sem k 4) [.sl 0, .ex (constM (.int 5))])) (.ex (constM (.int 0))))) (callM (sem k 13) [.sl 0]) (binM ixD (.sl 2) (.ex (callM (sem k 4) [.sl 0, .ex (constM (.int 30))]))))))
theorem sc_one {k : Nat} {d : D} {ys : List Str} {s1 s4 : Slot} (h : Tape d) (hz : ys.length < sizeLine) : ∃ (d' : D) (y : Str), Tape d' ∧ y.length ≤ 6 ∧
    scB (k + 2) [some (.io, d), s1, some (.ow, .lst (wS.map .str)), some (.ow, .lst (ys.map .str)), s4] = .ok .nx [some (.io, d'), s1, some (.ow, .lst (wS.map .str)), some (.ow, .lst ((ys ++ [y]).map .str)), s4] := by
  obtain ⟨r, d1, r0, r1, t1, e1⟩ := take (k := k + 1) (m := 5) h (by decide) (by decide)
  by_cases hr : r = 0
  · subst hr
    obtain ⟨c, d2, t2, e2⟩ := char (k := k) t1
    refine ⟨d2, tx [c], t2, by simp, ?_⟩
    unfold scB
    simp [e1, e2, hz]
  · obtain ⟨q, d2, q0, q1, t2, e2⟩ := take (k := k + 1) (m := 30) t1 (by decide) (by decide)
    obtain ⟨n, rfl⟩ := Int.eq_ofNat_of_zero_le q0
    have hn : n < wS.length := by rw [wS_len]; omega
    refine ⟨d2, wS[n], t2, wS_6 _ (List.getElem_mem hn), ?_⟩
    have hx : ixD (.lst (wS.map .str)) (.int n) = some (false, .str wS[n]) := by
      rw [v_ixL, at_nat, List.getElem?_map, List.getElem?_eq_getElem hn]; rfl
    unfold scB
    simp [-v_ixL, e1, e2, hr, hx, hz]
theorem sc_loop {k : Nat} {s1 : Slot} : ∀ (js : List Nat) (d : D) (ys : List Str) (s4 : Slot), Tape d → (∀ y ∈ ys, y.length ≤ 6) → ys.length + js.length ≤ 40 → (∀ d, s4 ≠ some (.io, d)) → ∃ (d' : D) (zs : List Str) (s4' : Slot), Tape d' ∧ (∀ y ∈ zs, y.length ≤ 6) ∧ zs.length ≤ 40 ∧
    forL (.nm 4) (scB (k + 2)) (js.map fun j => .int (0 + (j : Nat))) [some (.io, d), s1, some (.ow, .lst (wS.map .str)), some (.ow, .lst (ys.map .str)), s4] = .ok .nx [some (.io, d'), s1, some (.ow, .lst (wS.map .str)), some (.ow, .lst (zs.map .str)), s4']
  | [], d, ys, s4, h, hy, hl, _ => ⟨d, ys, s4, h, hy, by simpa using hl, rfl⟩
  | j :: js, d, ys, s4, h, hy, hl, h4 => by
    have hz : ys.length < sizeLine := Nat.lt_of_lt_of_le (by simp at hl; omega) (show 64 ≤ sizeLine by decide)
    obtain ⟨d1, y, t1, hy1, e1⟩ := sc_one (k := k) (s1 := s1) (s4 := some (.sh, .int j)) h hz
    obtain ⟨d', zs, s4', t', hz', hl', ih⟩ := sc_loop (k := k) (s1 := s1) js d1 (ys ++ [y]) (some (.sh, .int j)) t1 (fun z m => (List.mem_append.mp m).elim (hy z) fun m => by rw [List.mem_singleton.mp m]; exact hy1) (by simp at hl ⊢; omega) (by simp)
    refine ⟨d', zs, s4', t', hz', hl', ?_⟩
    have ep : (Tg.nm 4).put (.int (0 + (j : Nat))) [some (.io, d), s1, some (.ow, .lst (wS.map .str)), some (.ow, .lst (ys.map .str)), s4] = some [some (.io, d), s1, some (.ow, .lst (wS.map .str)), some (.ow, .lst (ys.map .str)), some (.sh, .int j)] := by
      rw [Int.zero_add]
      match s4, h4 with
      | none, _ => rfl
      | some (.sh, _), _ => rfl
      | some (.ow, _), _ => rfl
      | some (.io, d), h => exact absurd rfl (h d)
    rw [List.map_cons, ev_for1, ep]
    simp only []
    rw [e1, Res.bind_ok]
    exact ih
theorem sum_6 : ∀ ys : List Str, (∀ y ∈ ys, y.length ≤ 6) → (ys.map (·.length)).sum ≤ 6 * ys.length
  | [], _ => Nat.le_refl _
  | y :: ys, h => by
    have h1 := h y List.mem_cons_self
    have h2 := sum_6 ys fun z m => h z (List.mem_cons_of_mem _ m)
    simp only [List.map_cons, List.sum_cons, List.length_cons]
    omega
theorem scraps {k : Nat} {d : D} (h : Tape d) : ∃ (l : List Nat) (d' : D), l.length ≤ 240 ∧ Tape d' ∧ sem (k + 3) 14 [d, .int 40] = .ret false (.str (tx l)) [d'] := by
  obtain ⟨r, d1, r0, r1, t1, e1⟩ := take (k := k + 1) (m := 41) h (by decide) (by decide)
  obtain ⟨n, rfl⟩ := Int.eq_ofNat_of_zero_le r0
  obtain ⟨d', zs, s4', t', hz, hl, e2⟩ := sc_loop (k := k) (s1 := some (.sh, .int 40)) (List.range n) d1 [] none t1 (by simp) (by simp; omega) (by simp)
  have h6 := sum_6 zs hz
  have hlen : (Txt.join "" zs).length ≤ 240 := by
    show (Builtin.Str.glued "" zs).length ≤ 240
    have e0 : ("" : Str).length = 0 := rfl
    rw [size_glued, e0]
    omega
  refine ⟨(Txt.join "" zs).cps.toList, d', by simpa [Str.length] using hlen, t', ?_⟩
  rw [← tx_of, se14]
  have e3 : forL (.nm 4) (scB (k + 2)) (intsD 0 n) [some (.io, d1), some (.sh, .int 40), some (.ow, .lst (wS.map .str)), some (.ow, .lst []), none] = _ := e2
  have hj : joinD "" [.lst (zs.map .str)] = some (false, .str (Txt.join "" zs)) := by
    unfold joinD
    simp only [txts_map, Option.bind_some]
    rw [if_pos (by have e0 : ("" : Str).length = 0 := rfl; rw [e0]; omega)]
  have hn : rngD (.int n) = some (intsD 0 n) := rng_nat (Nat.le_trans (show n ≤ 64 by omega) (by decide))
  have w1 : (18 : Nat) ≤ sizeLine := by decide
  have w2 : (12 : Nat) ≤ sizeLine := by decide
  have w3 : (30 : Nat) ≤ sizeLine := by decide
  refine runF_rt (s := [some (.io, d'), some (.sh, .int 40), some (.ow, .lst (wS.map .str)), some (.ow, .lst (zs.map .str)), s4']) ?_ rfl rfl
  rw [show initS [0] 5 [d, .int 40] = [some (.io, d), some (.sh, .int 40), none, none, none] from rfl]
  have ew : b14 (sem (k + 2)) [some (.io, d), some (.sh, .int 40), none, none, none] = (seqM (setM 3 (lstM [])) (seqM (forM (rng1M (callM (sem (k + 2) 4) [.sl 0, .ex (binM addD (.sl 1) (.ex (constM (.int 1))))])) (.nm 4) (scB (k + 2))) (retM (methS joinD (.ex (constM (.str ""))) [(.sl 3)])))) [some (.io, d), some (.sh, .int 40), some (.ow, .lst (wS.map .str)), none, none] := by
    unfold b14 scB wS
    simp [w1, w2, w3]
  rw [ew]
  simp [e1, hn, e3, hj]
/-! ### the law -/
theorem pl_tok {l : List Nat} {i : Nat} {ds : List D} (t : Tk l i ds) : ∀ d ∈ ds, pl 2 d = true := by
  have h3 : (3 : Nat) ≤ sizeLine := by decide
  induction t with
  | fin _ => intro d m; cases m
  | skip _ _ _ ih => exact ih
  | note _ _ ih => exact ih
  | tok e h1 h2 h4 t ih =>
    intro d m
    rcases List.mem_cons.mp m with rfl | m
    · simp [tokD, pl, h3]
    · exact ih d m
noncomputable def lawB (k : Nat) : M Fl := (seqM (setM 3 (callM (sem k 14) [.sl 1, .ex (constM (.int 40))]))
    (iteM (notM (truM (.ex (callM (sem k 7) [.ex (callM (sem k 2) [.ex (varM 3)]), .ex (callM (sem k 12) [.ex (varM 3)])])))) (retM (constM (.bl false))) nxM))
theorem law_one {d : D} {s0 s2 s3 : Slot} (h : Tape d) (h3 : ∀ d, s3 ≠ some (.io, d)) : ∃ (d' : D) (s3' : Slot), Tape d' ∧ (∀ d, s3' ≠ some (.io, d)) ∧ lawB 11 [s0, some (.ow, d), s2, s3] = .ok .nx [s0, some (.ow, d'), s2, s3'] := by
  obtain ⟨l, d', hl, t, e1⟩ := scraps (k := 8) h
  have hs : l.length ≤ sizeLine := Nat.le_trans hl (by decide)
  obtain ⟨ds, tk, hd⟩ := tk_ex (l := l) l.length 0 (by omega)
  have hz : ds.length ≤ sizeLine := Nat.le_trans hd hs
  have e2 := tokens (k := 8) hs tk hz
  have e3 := law_tokens (k := 6) hs tk hz
  have e4 : sem 11 7 [.lst ds, .lst ds] = .ret false (.bl true) [] := same_refl (sm := fun k => sem k 7) (it := fun k => sem k 6) (ii := fun k => sem k 5) (fun _ => rfl) (fun _ => rfl) (fun _ => rfl) 3 11 (.lst ds) (by
    rw [pl, Bool.and_eq_true, List.all_eq_true, decide_eq_true_eq]
    exact ⟨pl_tok tk, hz⟩) (by decide)
  refine ⟨d', some (.sh, .str (tx l)), t, by simp, ?_⟩
  unfold lawB
  match s3, h3 with
  | some (.io, d), h => exact absurd rfl (h d)
  | none, _ => simp [e1, e2, e3, e4]
  | some (.sh, d), _ => simp [e1, e2, e3, e4]
  | some (.ow, d), _ => simp [e1, e2, e3, e4]
theorem law (ns : List Int) (h : ns.length ≤ 63) : ∃ fr, sem 12 15 [.fro (ns.map .int)] = .ret fr (.bl true) [] := by
  obtain ⟨d, t, e⟩ := tape_run ns h
  have e0 : sem 11 3 [.fro (ns.map .int)] = .ret true d [] := e
  obtain ⟨d1, s3, t1, h3, e1⟩ := law_one (s0 := some (.sh, .fro (ns.map .int))) (s2 := some (.sh, .int 0)) (s3 := none) t (by simp)
  obtain ⟨d2, s3', t2, h3', e2⟩ := law_one (s0 := some (.sh, .fro (ns.map .int))) (s2 := some (.sh, .int 1)) t1 h3
  refine ⟨false, ?_⟩
  rw [se15]
  refine runF_rt (s := [some (.sh, .fro (ns.map .int)), some (.ow, d2), some (.sh, .int 1), s3']) ?_ rfl rfl
  rw [show initS [] 4 [.fro (ns.map .int)] = [some (.sh, .fro (ns.map .int)), none, none, none] from rfl]
  have hr : rngD (.int 2) = some [.int 0, .int 1] := by
    rw [rng_int (by decide) (by decide)]; rfl
  show seqM (setM 1 (callM (sem 11 3) [.ex (varM 0)])) (seqM (forM (rng1M (constM (.int 2))) (.nm 2) (lawB 11)) (retM (constM (.bl true)))) _ = _
  simp [e0, hr, e1, e2]
end K01
theorem PySem.Challenge.cw_onescore_k01_tokens_of_texts_holds : PySem.Challenge.rw_onescore_k01_tokens_of_texts.Holds := by
  exact K01.holds_of 11 ⟨rfl, by decide, by decide⟩ fun ns h _ => K01.law ns h
