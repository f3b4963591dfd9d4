import PyProof.Rows.All
import Wide.All
import OpenK.AllK
import Wide.FinOn
import HandS.ForMost
import HandS.Exc
import HandS.WordsExc
import HandS.CallSlots
import HandS.HeadHook3
import HandS.HeadEnd
import HandS.Head2
import HandS.TupAny
import HandS.Deep
import HandS.Flow
import HandS.Defaults
import HandS.IsInst
import HandS.RaiseMore
import HandS.StrMore
import HandS.HeadHook4
import HandS.EndBits
import HandS.ExcInit
import HandS.ExcField
import HandS.TryOnly
import KE.GoesEnum
import HandS.Text
import PySem.Challenge.RW_onescore_k35_texts_of_code
import HandS.Codes
import PyProof.Rows.ChunkEnd
set_option Elab.async false
set_option linter.all false
set_option maxRecDepth 100000
set_option autoImplicit false
set_option maxHeartbeats 0
/-! PV: programs by values. D: what a Python value is, its objects within it; Rep: how the abstract heap bears it (with the addresses of what may be changed); SR: how the frame's slots bear their values. -/
namespace PV
open PySem PySem.Spec L2

/-- a test that nothing unfolds -/
noncomputable def gd (p : Prop) : Bool := @decide p (Classical.propDecidable p)
theorem gd_iff {p : Prop} : gd p = true ↔ p := @decide_eq_true_iff p (Classical.propDecidable p)
theorem gd_yes {p : Prop} (h : p) : gd p = true := gd_iff.mpr h

inductive D where
  | non | bl (b : Bool) | int (i : Int) | str (x : Str) | tup (ds : List D) | lst (ds : List D) | fro (ds : List D) | dct (kvs : List (Key × D)) | ty (n : String)

/-- a list that nobody changes: frozen, or of the module -/
def Fz (K : PySem.W.Frag) (H : Hp) (a : Addr) (vs : List V) : Prop :=
  (∃ o, H a = some (.frz o (.lst vs))) ∨
    ∃ (o : Obj) (its : Array Value) (n : Nat), K.lookup a = some o ∧ o.cls = .type "list" ∧ o.dict = none ∧ o.data = .seq its n ∧ its.size ≤ sizeLine ∧ Vals vs its.toList

mutual
inductive Rep (K : PySem.W.Frag) (H : Hp) : D → V → List Addr → Prop
  | non : Rep K H .non .non []
  | bl {b : Bool} : Rep K H (.bl b) (.bl b) []
  | int {i : Int} : Rep K H (.int i) (.int i) []
  | str {x : Str} : Rep K H (.str x) (.str x) []
  | ty {n : String} : Rep K H (.ty n) (.ty n) []
  | tup {a : Addr} {ds : List D} {vs : List V} {F : List Addr} : SqT K H a vs → Reps K H ds vs F → Rep K H (.tup ds) (.ref a) F
  | lst {a : Addr} {ds : List D} {vs : List V} {F : List Addr} : H a = some (.lst vs) → Reps K H ds vs F → Rep K H (.lst ds) (.ref a) (a :: F)
  | lsz {a : Addr} {ds : List D} {vs : List V} {F : List Addr} : Fz K H a vs → Reps K H ds vs F → Rep K H (.fro ds) (.ref a) F
  | dct {a : Addr} {kds : List (Key × D)} {kvs : List (Key × V)} {F : List Addr} : H a = some (.dK kvs) → RepK K H kds kvs F → Rep K H (.dct kds) (.ref a) (a :: F)
inductive Reps (K : PySem.W.Frag) (H : Hp) : List D → List V → List Addr → Prop
  | nil : Reps K H [] [] []
  | cons {d : D} {v : V} {F : List Addr} {ds : List D} {vs : List V} {G : List Addr} : Rep K H d v F → Reps K H ds vs G → Reps K H (d :: ds) (v :: vs) (F ++ G)
inductive RepK (K : PySem.W.Frag) (H : Hp) : List (Key × D) → List (Key × V) → List Addr → Prop
  | nil : RepK K H [] [] []
  | cons {k : Key} {d : D} {v : V} {F : List Addr} {ds : List (Key × D)} {vs : List (Key × V)} {G : List Addr} : Rep K H d v F → RepK K H ds vs G → RepK K H ((k, d) :: ds) ((k, v) :: vs) (F ++ G)
end

section
variable {K : PySem.W.Frag} {H H' : Hp}

/-- what no rule changes -/
def Im : HO → Prop
  | .tup _ => True
  | .frz _ _ => True
  | _ => False
/-- the step from H to H' leaves what is protected and what is immutable -/
structure Fr (P : Addr → Prop) (H H' : Hp) : Prop where
  p : ∀ b, P b → H' b = H b
  i : ∀ b o, H b = some o → Im o → H' b = some o
theorem Fr.refl {P : Addr → Prop} {H : Hp} : Fr P H H := ⟨fun _ _ => rfl, fun _ _ h _ => h⟩
theorem Fr.trans {P : Addr → Prop} {H H1 H2 : Hp} (a : Fr P H H1) (b : Fr P H1 H2) : Fr P H H2 :=
  ⟨fun c h => (b.p c h).trans (a.p c h), fun c o h i => b.i c o (a.i c o h i) i⟩
theorem Fr.mono {P P' : Addr → Prop} {H H' : Hp} (a : Fr P H H') (h : ∀ b, P' b → P b) : Fr P' H H' := ⟨fun c q => a.p c (h c q), a.i⟩
theorem Fr.new {P : Addr → Prop} {H : Hp} {p : Addr} {o : HO} (np : H p = none) (tr : ∀ b, P b → H b ≠ none) : Fr P H (upd H p o) :=
  ⟨fun b h => upd_ne fun e => tr b h (e ▸ np), fun b u h _ => by rw [upd_ne (ne_of_none h np)]; exact h⟩
theorem Fr.put {P : Addr → Prop} {H : Hp} {a : Addr} {o o' : HO} (h : H a = some o) (m : ¬ Im o) (np : ¬ P a) : Fr P H (upd H a o') :=
  ⟨fun b hb => upd_ne fun e => np (e ▸ hb), fun b u hb hi => by
    rw [upd_ne fun e => ?_]
    · exact hb
    · subst e; rw [h] at hb; cases hb; exact m hi⟩

theorem sqT_keep {a : Addr} {vs : List V} (h : SqT K H a vs) (i : ∀ b o, H b = some o → Im o → H' b = some o) : SqT K H' a vs := by
  rcases h with (h | ⟨o, h⟩) | h
  · exact .inl (.inl (i _ _ h trivial))
  · exact .inl (.inr ⟨o, i _ _ h trivial⟩)
  · exact .inr h
theorem fz_keep {a : Addr} {vs : List V} (h : Fz K H a vs) (i : ∀ b o, H b = some o → Im o → H' b = some o) : Fz K H' a vs := by
  rcases h with ⟨o, h⟩ | h
  · exact .inl ⟨o, i _ _ h trivial⟩
  · exact .inr h
theorem fz_sq {a : Addr} {vs : List V} (h : Fz K H a vs) : SqL K H a vs := by
  rcases h with h | h
  · exact .inl (.inr h)
  · exact .inr h

mutual
theorem Rep.keep (i : ∀ b o, H b = some o → Im o → H' b = some o) : ∀ {d : D} {v : V} {F : List Addr}, Rep K H d v F → (∀ a, a ∈ F → H' a = H a) → Rep K H' d v F
  | .non, _, _, h, _ => by cases h; exact .non
  | .bl _, _, _, h, _ => by cases h; exact .bl
  | .int _, _, _, h, _ => by cases h; exact .int
  | .str _, _, _, h, _ => by cases h; exact .str
  | .ty _, _, _, h, _ => by cases h; exact .ty
  | .tup ds, _, _, h, f => by
    cases h with
    | tup h1 h2 => exact .tup (sqT_keep h1 i) (Reps.keep i h2 f)
  | .lst ds, _, _, h, f => by
    cases h with
    | lst h1 h2 => exact .lst ((f _ List.mem_cons_self).trans h1) (Reps.keep i h2 fun a m => f a (List.mem_cons_of_mem _ m))
  | .fro ds, _, _, h, f => by
    cases h with
    | lsz h1 h2 => exact .lsz (fz_keep h1 i) (Reps.keep i h2 f)
  | .dct kds, _, _, h, f => by
    cases h with
    | dct h1 h2 => exact .dct ((f _ List.mem_cons_self).trans h1) (RepK.keep i h2 fun a m => f a (List.mem_cons_of_mem _ m))
theorem Reps.keep (i : ∀ b o, H b = some o → Im o → H' b = some o) : ∀ {ds : List D} {vs : List V} {F : List Addr}, Reps K H ds vs F → (∀ a, a ∈ F → H' a = H a) → Reps K H' ds vs F
  | [], _, _, h, _ => by cases h; exact .nil
  | d :: ds, _, _, h, f => by
    cases h with
    | cons h1 h2 => exact .cons (Rep.keep i h1 fun a m => f a (List.mem_append_left _ m)) (Reps.keep i h2 fun a m => f a (List.mem_append_right _ m))
theorem RepK.keep (i : ∀ b o, H b = some o → Im o → H' b = some o) : ∀ {ds : List (Key × D)} {vs : List (Key × V)} {F : List Addr}, RepK K H ds vs F → (∀ a, a ∈ F → H' a = H a) → RepK K H' ds vs F
  | [], _, _, h, _ => by cases h; exact .nil
  | d :: ds, _, _, h, f => by
    cases h with
    | cons h1 h2 => exact .cons (Rep.keep i h1 fun a m => f a (List.mem_append_left _ m)) (RepK.keep i h2 fun a m => f a (List.mem_append_right _ m))
end
mutual
theorem Rep.tr : ∀ {d : D} {v : V} {F : List Addr}, Rep K H d v F → ∀ a, a ∈ F → H a ≠ none
  | .non, _, _, h, _, m => by cases h; cases m
  | .bl _, _, _, h, _, m => by cases h; cases m
  | .int _, _, _, h, _, m => by cases h; cases m
  | .str _, _, _, h, _, m => by cases h; cases m
  | .ty _, _, _, h, _, m => by cases h; cases m
  | .tup ds, _, _, h, a, m => by
    cases h with
    | tup h1 h2 => exact Reps.tr h2 a m
  | .lst ds, _, _, h, a, m => by
    cases h with
    | lst h1 h2 =>
      rcases List.mem_cons.mp m with rfl | m
      · rw [h1]; simp
      · exact Reps.tr h2 a m
  | .fro ds, _, _, h, a, m => by
    cases h with
    | lsz h1 h2 => exact Reps.tr h2 a m
  | .dct kds, _, _, h, a, m => by
    cases h with
    | dct h1 h2 =>
      rcases List.mem_cons.mp m with rfl | m
      · rw [h1]; simp
      · exact RepK.tr h2 a m
theorem Reps.tr : ∀ {ds : List D} {vs : List V} {F : List Addr}, Reps K H ds vs F → ∀ a, a ∈ F → H a ≠ none
  | [], _, _, h, _, m => by cases h; cases m
  | d :: ds, _, _, h, a, m => by
    cases h with
    | cons h1 h2 =>
      rcases List.mem_append.mp m with m | m
      · exact Rep.tr h1 a m
      · exact Reps.tr h2 a m
theorem RepK.tr : ∀ {ds : List (Key × D)} {vs : List (Key × V)} {F : List Addr}, RepK K H ds vs F → ∀ a, a ∈ F → H a ≠ none
  | [], _, _, h, _, m => by cases h; cases m
  | d :: ds, _, _, h, a, m => by
    cases h with
    | cons h1 h2 =>
      rcases List.mem_append.mp m with m | m
      · exact Rep.tr h1 a m
      · exact RepK.tr h2 a m
end
theorem Reps.length : ∀ {ds : List D} {vs : List V} {F : List Addr}, Reps K H ds vs F → ds.length = vs.length
  | [], _, _, h => by cases h; rfl
  | d :: ds, _, _, h => by
    cases h with
    | cons h1 h2 => simp [Reps.length h2]
theorem Reps.get : ∀ {ds : List D} {vs : List V} {F : List Addr} {i : Nat} {d : D}, Reps K H ds vs F → ds[i]? = some d → ∃ v G, vs[i]? = some v ∧ Rep K H d v G ∧ ∀ a, a ∈ G → a ∈ F
  | [], _, _, _, _, h, e => by simp at e
  | d :: ds, _, _, i, d', h, e => by
    cases h with
    | @cons _ v F' _ vs G h1 h2 =>
      cases i with
      | zero =>
        simp at e; subst e
        exact ⟨v, F', rfl, h1, fun a m => List.mem_append_left _ m⟩
      | succ i =>
        obtain ⟨w, G', e1, e2, e3⟩ := Reps.get (i := i) h2 (by simpa using e)
        exact ⟨w, G', by simpa using e1, e2, fun a m => List.mem_append_right _ (e3 a m)⟩
theorem Reps.append : ∀ {ds : List D} {vs : List V} {F : List Addr} {ds' : List D} {vs' : List V} {F' : List Addr}, Reps K H ds vs F → Reps K H ds' vs' F' → Reps K H (ds ++ ds') (vs ++ vs') (F ++ F')
  | [], _, _, _, _, _, h, h' => by cases h; exact h'
  | d :: ds, _, _, _, _, _, h, h' => by
    cases h with
    | cons h1 h2 =>
      rw [List.append_assoc]
      exact .cons h1 (Reps.append h2 h')
theorem Reps.one {d : D} {v : V} {F : List Addr} (h : Rep K H d v F) : Reps K H [d] [v] F := by
  have := Reps.cons h (Reps.nil (K := K) (H := H))
  rwa [List.append_nil] at this
/-- a part of a sequence -/
theorem Reps.sub : ∀ {ds : List D} {vs : List V} {F : List Addr} (a n : Nat), Reps K H ds vs F → ∃ G, Reps K H ((ds.drop a).take n) ((vs.drop a).take n) G ∧ ∀ b, b ∈ G → b ∈ F
  | [], _, _, a, n, h => by cases h; exact ⟨[], by simpa using Reps.nil, fun _ m => m⟩
  | d :: ds, _, _, a, n, h => by
    cases h with
    | @cons _ v F' _ vs G h1 h2 =>
      cases a with
      | succ a =>
        obtain ⟨G', e1, e2⟩ := Reps.sub a n h2
        exact ⟨G', by simpa using e1, fun b m => List.mem_append_right _ (e2 b m)⟩
      | zero =>
        cases n with
        | zero => exact ⟨[], by simpa using Reps.nil, fun _ m => by cases m⟩
        | succ n =>
          obtain ⟨G', e1, e2⟩ := Reps.sub 0 n h2
          refine ⟨F' ++ G', ?_, fun b m => ?_⟩
          · have := Reps.cons h1 e1
            simpa using this
          · rcases List.mem_append.mp m with m | m
            · exact List.mem_append_left _ m
            · exact List.mem_append_right _ (e2 b m)
end

/-- what stands at a and may be changed -/
inductive RepM (K : PySem.W.Frag) (H : Hp) : D → Addr → List Addr → Prop
  | lst {a : Addr} {ds : List D} {vs : List V} {F : List Addr} : H a = some (.lst vs) → Reps K H ds vs F → RepM K H (.lst ds) a F
  | dct {a : Addr} {kds : List (Key × D)} {kvs : List (Key × V)} {F : List Addr} : H a = some (.dK kvs) → RepK K H kds kvs F → RepM K H (.dct kds) a F
section
variable {K : PySem.W.Frag} {H H' : Hp} {d : D} {a : Addr} {F : List Addr}
theorem RepM.rep (h : RepM K H d a F) : Rep K H d (.ref a) (a :: F) := by
  cases h with
  | lst h1 h2 => exact .lst h1 h2
  | dct h1 h2 => exact .dct h1 h2
theorem RepM.keep (h : RepM K H d a F) (i : ∀ b o, H b = some o → Im o → H' b = some o) (f : ∀ b, b ∈ a :: F → H' b = H b) : RepM K H' d a F := by
  cases h with
  | lst h1 h2 => exact .lst ((f _ List.mem_cons_self).trans h1) (Reps.keep i h2 fun b m => f b (List.mem_cons_of_mem _ m))
  | dct h1 h2 => exact .dct ((f _ List.mem_cons_self).trans h1) (RepK.keep i h2 fun b m => f b (List.mem_cons_of_mem _ m))
theorem RepM.mut (h : RepM K H d a F) : ∃ o, H a = some o ∧ ¬ Im o := by
  cases h with
  | lst h1 h2 => exact ⟨_, h1, fun q => q⟩
  | dct h1 h2 => exact ⟨_, h1, fun q => q⟩
end

/-! ### the frame's slots -/
inductive Own where
  | sh | ow | io
  deriving DecidableEq
abbrev Slot := Option (Own × D)
abbrev S := List Slot

structure SR (K : PySem.W.Frag) (P B : Addr → Prop) (ia : Nat → Addr) (s : S) (σ : St) (H : Hp) (Fs : Nat → List Addr) : Prop where
  len : s.length = σ.length
  rep : ∀ i o d, s[i]? = some (some (o, d)) → ∃ v, σ[i]? = some (some v) ∧ Rep K H d v (Fs i)
  own : ∀ i o d, s[i]? = some (some (o, d)) → o ≠ Own.sh → ∃ a F, σ[i]? = some (some (V.ref a)) ∧ Fs i = a :: F ∧ RepM K H d a F ∧ a ∉ F ∧ ¬ P a ∧ ∀ j, j ≠ i → a ∉ Fs j
  iov : ∀ i d, s[i]? = some (some (Own.io, d)) → σ[i]? = some (some (V.ref (ia i)))
  dead : ∀ i, (∀ o d, s[i]? ≠ some (some (o, d))) → Fs i = []
  inB : ∀ j a, a ∈ Fs j → B a
  tr : ∀ b, P b → H b ≠ none
  nb : ∀ b, H b = none → B b

/-- no slot of one's own has its object among these -/
def NoOwn (s : S) (σ : St) (F : List Addr) : Prop := ∀ (i : Nat) (o : Own) (d : D) (a : Addr), s[i]? = some (some (o, d)) → o ≠ Own.sh → σ[i]? = some (some (V.ref a)) → a ∉ F
theorem NoOwn.nil {s : S} {σ : St} : NoOwn s σ [] := fun _ _ _ _ _ _ _ m => nomatch m
theorem NoOwn.sub {s : S} {σ : St} {F G : List Addr} (h : NoOwn s σ F) (q : ∀ a, a ∈ G → a ∈ F) : NoOwn s σ G := fun i o d a e n x m => h i o d a e n x (q a m)
theorem NoOwn.app {s : S} {σ : St} {F G : List Addr} (h : NoOwn s σ F) (h' : NoOwn s σ G) : NoOwn s σ (F ++ G) := fun i o d a e n x m => (List.mem_append.mp m).elim (h i o d a e n x) (h' i o d a e n x)

section
variable {K : PySem.W.Frag} {P B : Addr → Prop} {ia : Nat → Addr} {s : S} {σ : St} {H H' : Hp} {Fs : Nat → List Addr}
theorem SR.trF (r : SR K P B ia s σ H Fs) {j : Nat} {a : Addr} (h : a ∈ Fs j) : H a ≠ none := by
  by_cases q : ∃ o d, s[j]? = some (some (o, d))
  · obtain ⟨o, d, q⟩ := q
    obtain ⟨v, _, e⟩ := r.rep j o d q
    exact e.tr a h
  · rw [r.dead j fun o d z => q ⟨o, d, z⟩] at h; cases h
/-- fewer protected -/
theorem SR.weak {P' : Addr → Prop} (r : SR K P B ia s σ H Fs) (h : ∀ b, P' b → P b) : SR K P' B ia s σ H Fs :=
  ⟨r.len, r.rep, fun i o d e n => let ⟨a, F, h1, h2, h3, h4, h5, h6⟩ := r.own i o d e n; ⟨a, F, h1, h2, h3, h4, fun q => h5 (h a q), h6⟩, r.iov, r.dead, r.inB, fun b q => r.tr b (h b q), r.nb⟩
/-- the heap goes on, all that the slots hold stays -/
theorem SR.go (r : SR K P B ia s σ H Fs) (f : ∀ j a, a ∈ Fs j → H' a = H a) (i : ∀ b o, H b = some o → Im o → H' b = some o) (p : ∀ b, P b → H' b = H b) (nb : ∀ b, H' b = none → B b) : SR K P B ia s σ H' Fs :=
  ⟨r.len, fun j o d e => let ⟨v, h1, h2⟩ := r.rep j o d e; ⟨v, h1, h2.keep i fun a m => f j a m⟩,
   fun j o d e n => let ⟨a, F, h1, h2, h3, h4, h5, h6⟩ := r.own j o d e n; ⟨a, F, h1, h2, h3.keep i fun b m => f j b (by rw [h2]; exact m), h4, h5, h6⟩, r.iov, r.dead, r.inB, fun b q => by rw [p b q]; exact r.tr b q, nb⟩
theorem SR.new (r : SR K P B ia s σ H Fs) {p : Addr} {o : HO} (np : H p = none) : SR K P B ia s σ (upd H p o) Fs :=
  r.go (fun j a m => upd_ne fun e => r.trF m (e ▸ np)) (Fr.new np r.tr).i (Fr.new np r.tr).p fun b e => r.nb b (by
    by_cases h : b = p
    · subst h; exact np
    · rw [upd_ne h] at e; exact e)
/-- more protected: a value whose parts no slot may change -/
theorem SR.prot (r : SR K P B ia s σ H Fs) {F : List Addr} (t : ∀ a, a ∈ F → H a ≠ none) (no : NoOwn s σ F) : SR K (fun b => P b ∨ b ∈ F) B ia s σ H Fs :=
  ⟨r.len, r.rep, fun i o d e n => by
    obtain ⟨a, F', h1, h2, h3, h4, h5, h6⟩ := r.own i o d e n
    exact ⟨a, F', h1, h2, h3, h4, fun q => q.elim h5 (no i o d a e n h1), h6⟩, r.iov, r.dead, r.inB, fun b q => q.elim (r.tr b) (t b), r.nb⟩
theorem SR.noOwn (r : SR K P B ia s σ H Fs) {F : List Addr} (h : ∀ a, a ∈ F → P a) : NoOwn s σ F := fun i o d a e n x m => by
  obtain ⟨a', F', h1, h2, h3, h4, h5, h6⟩ := r.own i o d e n
  rw [x] at h1; cases h1; exact h5 (h a m)
theorem SR.noOwnF (r : SR K P B ia s σ H Fs) {j : Nat} {d : D} (e : s[j]? = some (some (Own.sh, d))) : NoOwn s σ (Fs j) := fun i o d' a e' n x m => by
  obtain ⟨a', F', h1, h2, h3, h4, h5, h6⟩ := r.own i o d' e' n
  rw [x] at h1; cases h1
  refine h6 j ?_ m
  rintro rfl
  rw [e] at e'; cases e'; exact n rfl
/-- an own slot's inside -/
theorem SR.noOwnT (r : SR K P B ia s σ H Fs) {j : Nat} {o : Own} {d : D} {a : Addr} {F : List Addr} (e : s[j]? = some (some (o, d))) (n : o ≠ Own.sh) (eF : Fs j = a :: F) : NoOwn s σ F := fun i o' d' b e' n' x m => by
  obtain ⟨a', F', h1, h2, h3, h4, h5, h6⟩ := r.own i o' d' e' n'
  rw [x] at h1; cases h1
  by_cases q : j = i
  · subst q
    rw [eF] at h2; cases h2; exact h4 m
  · exact h6 j q (by rw [eF]; exact List.mem_cons_of_mem _ m)
end

/-! ### results -/
/-- an exception: its class by its name, its fields -/
structure Exn where
  cls : Str
  fs : List (Str × D)
inductive Res (α : Type) where
  | ok (a : α) (s : S)
  | exc (x : Exn) (s : S)
  | stuck
abbrev M (α : Type) := S → Res α
def Res.bind {α β : Type} (r : Res α) (f : α → S → Res β) : Res β := match r with
  | .ok a s => f a s
  | .exc x s => .exc x s
  | .stuck => .stuck
@[simp] theorem Res.bind_ok {α β : Type} (a : α) (s : S) (f : α → S → Res β) : (Res.ok a s).bind f = f a s := rfl
@[simp] theorem Res.bind_exc {α β : Type} (x : Exn) (s : S) (f : α → S → Res β) : (Res.exc x s : Res α).bind f = .exc x s := rfl
@[simp] theorem Res.bind_stuck {α β : Type} (f : α → S → Res β) : (Res.stuck : Res α).bind f = .stuck := rfl

/-- how an exception lies in the heap -/
def XRep (K : PySem.W.Frag) (H : Hp) (x : Exn) (cls : Value) (dx : Option Addr) : Prop :=
  cls = .ref (He.ga K x.cls) ∧ ((x.fs = [] ∧ dx = none) ∨ ∃ b kvs F, dx = some b ∧ H b = some (.xd kvs) ∧ kvs.map (·.1) = x.fs.map (·.1) ∧ Reps K H (x.fs.map (·.2)) (kvs.map (·.2)) F)

/-- a value has come -/
def RV (K : PySem.W.Frag) (P B : Addr → Prop) (ia : Nat → Addr) (s : S) (σ : St) (H H' : Hp) (fr : Bool) (d : D) (v : V) : Prop :=
  ∃ F Fs, Rep K H' d v F ∧ Fr P H H' ∧ (∀ a, a ∈ F → B a) ∧ SR K (fun b => P b ∨ b ∈ F) B ia s σ H' Fs ∧ (fr = true → ∃ a G, v = .ref a ∧ F = a :: G ∧ RepM K H' d a G ∧ a ∉ G ∧ ¬ P a ∧ ∀ j, a ∉ Fs j)
def RX (K : PySem.W.Frag) (P B : Addr → Prop) (ia : Nat → Addr) (s : S) (σ : St) (H H' : Hp) (x : Exn) (cls : Value) (dx : Option Addr) : Prop :=
  ∃ Fs, Fr P H H' ∧ SR K P B ia s σ H' Fs ∧ XRep K H' x cls dx
/-- what is asked of a result: Q's way, E's way -/
def Post {α : Type} (E : Exn → S → Prop) (Q : α → S → Prop) : Res α → Prop
  | .ok a s => Q a s
  | .exc x s => E x s
  | .stuck => False
@[simp] theorem Post.ok {α : Type} {E : Exn → S → Prop} {Q : α → S → Prop} {a : α} {s : S} : Post E Q (.ok a s) = Q a s := rfl
@[simp] theorem Post.exc {α : Type} {E : Exn → S → Prop} {Q : α → S → Prop} {x : Exn} {s : S} : Post E Q (.exc x s) = E x s := rfl
@[simp] theorem Post.stuck {α : Type} {E : Exn → S → Prop} {Q : α → S → Prop} : Post E Q .stuck = False := rfl
theorem Post.bind {α β : Type} {E : Exn → S → Prop} {Q : β → S → Prop} {r : Res α} {f : α → S → Res β} (h : Post E Q (r.bind f)) : Post E (fun a s => Post E Q (f a s)) r := by
  cases r <;> exact h
theorem Post.mono {α : Type} {E E' : Exn → S → Prop} {Q Q' : α → S → Prop} {r : Res α} (h : Post E Q r) (e : ∀ x s, E x s → E' x s) (q : ∀ a s, Q a s → Q' a s) : Post E' Q' r := by
  cases r with
  | ok a s => exact q a s h
  | exc x s => exact e x s h
  | stuck => exact h
/-- the reading of an expression by its function f -/
def tD (K : PySem.W.Frag) (E : WX) (f : M (Bool × D)) : TE := fun σ H Q => ∃ P B ia s Fs, SR K P B ia s σ H Fs ∧
  Post (fun x s' => ∀ cls dx H', RX K P B ia s' σ H H' x cls dx → E cls dx σ H') (fun r s' => ∀ v H', RV K P B ia s' σ H H' r.1 r.2 v → Q v H') (f s)
theorem RX.weak {K : PySem.W.Frag} {P P' B : Addr → Prop} {ia : Nat → Addr} {s : S} {σ : St} {H H1 H' : Hp} {x : Exn} {cls : Value} {dx : Option Addr} (h : RX K P B ia s σ H1 H' x cls dx) (f : Fr P' H H1) (q : ∀ b, P' b → P b) : RX K P' B ia s σ H H' x cls dx :=
  let ⟨Fs, h1, h2, h3⟩ := h
  ⟨Fs, f.trans (h1.mono q), h2.weak q, h3⟩

theorem _root_.L2.PE.imp {X : Cx} {e : Expr} {t t' : TE} (h : PE X e t) (q : ∀ σ H Q, t' σ H Q → t σ H Q) : PE X e t' := ⟨fun pins s σ H Q I w => h.run pins s σ H Q I (q σ H Q w)⟩
theorem _root_.L2.PT.imp {X : Cx} {e : Expr} {t t' : TT} (h : PT X e t) (q : ∀ σ H Q, t' σ H Q → t σ H Q) : PT X e t' := ⟨fun pins s σ H Q I w => h.run pins s σ H Q I (q σ H Q w)⟩
theorem _root_.L2.PW.imp {X : Cx} {e : Expr} {t t' : TT} (h : PW X e t) (q : ∀ σ H Q, t' σ H Q → t σ H Q) : PW X e t' := ⟨fun wh pins s σ H Q I w => h.run wh pins s σ H Q I (q σ H Q w)⟩
theorem _root_.L2.PA.imp {X : Cx} {e : List Expr} {t t' : TA} (h : PA X e t) (q : ∀ σ H Q, t' σ H Q → t σ H Q) : PA X e t' := ⟨fun pos pins s σ H Q I w => h.run pos pins s σ H Q I (q σ H Q w)⟩
theorem _root_.L2.PS.imp {X : Cx} {e : Stmt} {t t' : TS} (h : PS X e t) (q : ∀ D σ H, t' D σ H → t D σ H) : PS X e t' := ⟨fun pins s σ H Q I w => h.run pins s σ H Q I (q Q σ H w)⟩
theorem _root_.L2.PSs.imp {X : Cx} {e : List Stmt} {t t' : TS} (h : PSs X e t) (q : ∀ D σ H, t' D σ H → t D σ H) : PSs X e t' := ⟨fun pins s σ H Q I w => h.run pins s σ H Q I (q Q σ H w)⟩

/-- what an operand brings -/
structure OV (K : PySem.W.Frag) (B : Addr → Prop) (s : S) (σ : St) (H : Hp) (d : D) (x : V) (F : List Addr) : Prop where
  rep : Rep K H d x F
  inB : ∀ a, a ∈ F → B a
  inn : NoOwn s σ F ∨ ∃ a G, x = .ref a ∧ F = a :: G ∧ RepM K H d a G ∧ NoOwn s σ G

/-- an operand: an expression, or a slot that is only looked at -/
inductive Opd where
  | ex (f : M (Bool × D))
  | sl (i : Nat)
def rdO (K : PySem.W.Frag) (E : WX) : Opd → TE
  | .ex f => tD K E f
  | .sl i => tVar i
def Opd.run : Opd → M (Option D)
  | .ex f => fun s => (f s).bind fun r s' => .ok (some r.2) s'
  | .sl i => fun s => match s[i]? with
    | some (some _) => .ok none s
    | _ => .stuck
def Opd.get (s : S) : Opd → Option D → Option D
  | .ex _, x => x
  | .sl i, _ => match s[i]? with
    | some (some (_, d)) => some d
    | _ => none
/-- one operand -/
def op1 {α : Type} (a : Opd) (k : D → S → Res α) : M α := fun s => (a.run s).bind fun x s1 => match a.get s1 x with
  | some dx => k dx s1
  | none => .stuck
/-- two operands -/
def op2 {α : Type} (a b : Opd) (k : D → D → S → Res α) : M α := fun s => (a.run s).bind fun x s1 => (b.run s1).bind fun y s2 => match a.get s2 x, b.get s2 y with
  | some dx, some dy => k dx dy s2
  | _, _ => .stuck

section
variable {K : PySem.W.Frag} {P B : Addr → Prop} {ia : Nat → Addr} {s : S} {σ : St} {H H' : Hp} {Fs : Nat → List Addr} {E : WX}
theorem SR.opd (r : SR K P B ia s σ H Fs) {i : Nat} {o : Own} {d : D} (e : s[i]? = some (some (o, d))) : ∃ v F, σ[i]? = some (some v) ∧ OV K B s σ H d v F := by
  by_cases n : o = Own.sh
  · subst n
    obtain ⟨v, h1, h2⟩ := r.rep i _ d e
    exact ⟨v, Fs i, h1, h2, fun a m => r.inB i a m, .inl (r.noOwnF e)⟩
  · obtain ⟨a, F, h1, h2, h3, h4, h5, h6⟩ := r.own i o d e n
    exact ⟨.ref a, a :: F, h1, h3.rep, fun b m => r.inB i b (by rw [h2]; exact m), .inr ⟨a, F, rfl, rfl, h3, r.noOwnT e n h2⟩⟩
theorem SR.slot_lt (r : SR K P B ia s σ H Fs) {i : Nat} {o : Own} {d : D} (e : s[i]? = some (some (o, d))) : ∃ v, σ[i]? = some (some v) := let ⟨v, h, _⟩ := r.rep i o d e; ⟨v, h⟩

theorem rd1 {a : Opd} {R : V → Hp → Prop} (r : SR K P B ia s σ H Fs)
    (h : Post (fun x s' => ∀ cls dx H', RX K P B ia s' σ H H' x cls dx → E cls dx σ H') (fun d s' => ∀ x H' F Fs', OV K B s' σ H' d x F → Fr P H H' → SR K P B ia s' σ H' Fs' → R x H') (op1 a Res.ok s)) : rdO K E a σ H R := by
  cases a with
  | ex f =>
    refine ⟨P, B, ia, s, Fs, r, ?_⟩
    unfold op1 Opd.run at h
    have h' := Post.bind (Post.bind h)
    refine h'.mono (fun _ _ q => q) fun a s' q v H' w => ?_
    obtain ⟨F, Fs', h1, h2, h3, h4, h5⟩ := w
    exact q v H' F Fs' ⟨h1, h3, .inl (h4.noOwn fun a m => .inr m)⟩ h2 (h4.weak fun b m => .inl m)
  | sl i =>
    simp only [op1, Opd.run] at h
    show ∃ v, σ[i]? = some (some v) ∧ R v H
    match e : s[i]? with
    | some (some (o, d)) =>
      simp only [e, Res.bind_ok, Opd.get] at h
      obtain ⟨v, F, h1, h2⟩ := r.opd e
      exact ⟨v, h1, h v H F Fs h2 Fr.refl r⟩
    | some none => simp only [e] at h; exact h.elim
    | none => simp only [e] at h; exact h.elim
theorem rd2 {a b : Opd} {R : V → V → Hp → Prop} (r : SR K P B ia s σ H Fs)
    (h : Post (fun x s' => ∀ cls dx H', RX K P B ia s' σ H H' x cls dx → E cls dx σ H') (fun (q : D × D) s' => ∀ x y H' F G Fs', OV K B s' σ H' q.1 x F → OV K B s' σ H' q.2 y G → Fr P H H' → SR K P B ia s' σ H' Fs' → R x y H') (op2 a b (fun x y s => .ok (x, y) s) s)) :
    rdO K E a σ H fun x H1 => rdO K E b σ H1 fun y H2 => R x y H2 := by
  cases a with
  | ex f =>
    refine ⟨P, B, ia, s, Fs, r, ?_⟩
    unfold op2 at h
    have h' := Post.bind (Post.bind (r := (f s).bind fun (r : Bool × D) s' => Res.ok (some r.2) s') h)
    refine h'.mono (fun _ _ q => q) fun a s1 q v H1 w => ?_
    obtain ⟨F, Fs1, h1, h2, h3, h4, h5⟩ := w
    cases b with
    | ex g =>
      refine ⟨_, B, ia, s1, Fs1, h4, ?_⟩
      have q' := Post.bind (Post.bind (r := (g s1).bind fun (r : Bool × D) s' => Res.ok (some r.2) s') q)
      refine q'.mono (fun x s2 e cls dx H2 w2 => e cls dx H2 (w2.weak h2 fun b m => .inl m)) fun c s2 e v2 H2 w2 => ?_
      obtain ⟨G, Fs2, g1, g2, g3, g4, g5⟩ := w2
      exact e v v2 H2 F G Fs2 ⟨h1.keep g2.i fun a m => g2.p a (.inr m), h3, .inl (g4.noOwn fun a m => .inl (.inr m))⟩ ⟨g1, g3, .inl (g4.noOwn fun a m => .inr m)⟩
        (h2.trans (g2.mono fun b m => .inl m)) (g4.weak fun b m => .inl (.inl m))
    | sl i =>
      show ∃ w, σ[i]? = some (some w) ∧ R v w H1
      simp only [Post.ok, Opd.run] at q
      match e : s1[i]? with
      | some (some (o, d)) =>
        simp only [e, Res.bind_ok, Opd.get, Post.ok] at q
        obtain ⟨w, G, e1, e2⟩ := h4.opd e
        exact ⟨w, e1, q v w H1 F G Fs1 ⟨h1, h3, .inl (h4.noOwn fun a m => .inr m)⟩ e2 h2 (h4.weak fun b m => .inl m)⟩
      | some none => simp only [e] at q; exact (show False from q).elim
      | none => simp only [e] at q; exact (show False from q).elim
  | sl i =>
    simp only [op2, Opd.run] at h
    match e : s[i]? with
    | some none => simp only [e] at h; exact h.elim
    | none => simp only [e] at h; exact h.elim
    | some (some (o, d)) =>
      obtain ⟨v, F, hv, h2⟩ := r.opd e
      simp only [e, Res.bind_ok] at h
      cases b with
      | ex g =>
        have h' := Post.bind (Post.bind (r := (g s).bind fun (r : Bool × D) s' => Res.ok (some r.2) s') h)
        refine ⟨v, hv, P, B, ia, s, Fs, r, h'.mono (fun _ _ q => q) fun c s2 q v2 H2 w2 => ?_⟩
        obtain ⟨G, Fs2, g1, g2, g3, g4, g5⟩ := w2
        simp only [Post.ok, Opd.get] at q
        match e : s2[i]? with
        | some (some (o, d)) =>
          simp only [e, Post.ok] at q
          obtain ⟨w, F, e1, e2⟩ := g4.opd e
          rw [hv] at e1; cases e1
          exact q v v2 H2 F G Fs2 e2 ⟨g1, g3, .inl (g4.noOwn fun a m => .inr m)⟩ g2 (g4.weak fun b m => .inl m)
        | some none => simp only [e] at q; exact (show False from q).elim
        | none => simp only [e] at q; exact (show False from q).elim
      | sl j =>
        simp only [Opd.run] at h
        match e' : s[j]? with
        | some (some (o', d')) =>
          simp only [e, e', Res.bind_ok, Opd.get] at h
          obtain ⟨v', F', h1', h2'⟩ := r.opd e'
          exact ⟨v, hv, v', h1', h v v' H F F' Fs h2 h2' Fr.refl r⟩
        | some none => simp only [e'] at h; exact h.elim
        | none => simp only [e'] at h; exact h.elim
end
end PV

/-! PV: expressions by values. -/
namespace PV
open PySem PySem.Spec L2
section
variable {K : PySem.W.Frag} {P B : Addr → Prop} {ia : Nat → Addr} {s : S} {σ : St} {H H' H1 : Hp} {Fs : Nat → List Addr} {E : WX} {d : D} {v : V} {F : List Addr}
theorem RV.part (rep : Rep K H' d v F) (no : NoOwn s σ F) (b : ∀ a, a ∈ F → B a) (fr : Fr P H H') (r : SR K P B ia s σ H' Fs) : RV K P B ia s σ H H' false d v :=
  ⟨F, Fs, rep, fr, b, r.prot rep.tr no, fun h => nomatch h⟩
theorem RV.flat (rep : Rep K H' d v []) (fr : Fr P H H') (r : SR K P B ia s σ H' Fs) : RV K P B ia s σ H H' false d v := .part rep .nil (fun _ m => nomatch m) fr r
theorem SR.ownTr (r : SR K P B ia s σ H Fs) {i : Nat} {o : Own} {d : D} {a : Addr} (e : s[i]? = some (some (o, d))) (n : o ≠ Own.sh) (h : σ[i]? = some (some (V.ref a))) : H a ≠ none := by
  obtain ⟨a', F', h1, h2, h3, _⟩ := r.own i o d e n
  rw [h] at h1; cases h1
  obtain ⟨o, e, _⟩ := h3.mut
  rw [e]; simp
theorem NoOwn.cons (r : SR K P B ia s σ H Fs) {p : Addr} (np : H p = none) (no : NoOwn s σ F) : NoOwn s σ (p :: F) := fun i o d a e n x m => by
  rcases List.mem_cons.mp m with rfl | m
  · exact r.ownTr e n x np
  · exact no i o d a e n x m
/-- a new list -/
theorem RV.lst {ds : List D} {vs : List V} {p : Addr} (h : Reps K H1 ds vs F) (no : NoOwn s σ F) (b : ∀ a, a ∈ F → B a) (fr : Fr P H H1) (r : SR K P B ia s σ H1 Fs) (np : H1 p = none) : RV K P B ia s σ H (upd H1 p (.lst vs)) true (.lst ds) (.ref p) := by
  have r2 : SR K P B ia s σ (upd H1 p (.lst vs)) Fs := r.new np
  have f1 : Fr P H1 (upd H1 p (.lst vs)) := Fr.new np r.tr
  have nF : ∀ a, a ∈ F → a ≠ p := fun a m e => h.tr a m (e ▸ np)
  have h2 : Reps K (upd H1 p (.lst vs)) ds vs F := Reps.keep f1.i h fun a m => upd_ne (nF a m)
  refine ⟨p :: F, Fs, .lst upd_same h2, fr.trans f1, fun a m => ?_, r2.prot (fun a m => ?_) (NoOwn.cons r np no), fun _ => ⟨p, F, rfl, rfl, .lst upd_same h2, fun m => nF p m rfl, fun q => r.tr p q np, fun j m => r.trF m np⟩⟩
  · rcases List.mem_cons.mp m with rfl | m
    · exact r.nb _ np
    · exact b a m
  · rcases List.mem_cons.mp m with rfl | m
    · rw [upd_same]; simp
    · exact h2.tr a m
/-- a new tuple -/
theorem RV.tup {ds : List D} {vs : List V} {p : Addr} (h : Reps K H1 ds vs F) (no : NoOwn s σ F) (b : ∀ a, a ∈ F → B a) (fr : Fr P H H1) (r : SR K P B ia s σ H1 Fs) (np : H1 p = none) : RV K P B ia s σ H (upd H1 p (.tup vs)) false (.tup ds) (.ref p) := by
  have f1 : Fr P H1 (upd H1 p (.tup vs)) := Fr.new np r.tr
  exact .part (.tup (SqT.of upd_same) (Reps.keep f1.i h fun a m => upd_ne fun e => h.tr a m (e ▸ np))) no b (fr.trans f1) (r.new np)

/-! ### what an operand's inside is -/
theorem OV.lst_inv {ds : List D} {x : V} (h : OV K B s σ H (.lst ds) x F) : ∃ a vs G, x = .ref a ∧ H a = some (.lst vs) ∧ Reps K H ds vs G ∧ NoOwn s σ G ∧ ∀ b, b ∈ G → B b := by
  cases h.rep with
  | @lst a _ vs G h1 h2 =>
    refine ⟨a, vs, G, rfl, h1, h2, ?_, fun b m => h.inB b (List.mem_cons_of_mem _ m)⟩
    rcases h.inn with no | ⟨a', G', e1, e2, _, no⟩
    · exact no.sub fun b m => List.mem_cons_of_mem _ m
    · cases e2; exact no
theorem OV.tup_inv {ds : List D} {x : V} (h : OV K B s σ H (.tup ds) x F) : ∃ a vs, x = .ref a ∧ SqT K H a vs ∧ Reps K H ds vs F ∧ NoOwn s σ F := by
  cases h.rep with
  | @tup a _ vs G h1 h2 =>
    refine ⟨a, vs, rfl, h1, h2, ?_⟩
    rcases h.inn with no | ⟨a', G', e1, e2, h3, no⟩
    · exact no
    · cases h3
theorem OV.fro_inv {ds : List D} {x : V} (h : OV K B s σ H (.fro ds) x F) : ∃ a vs, x = .ref a ∧ Fz K H a vs ∧ Reps K H ds vs F ∧ NoOwn s σ F := by
  cases h.rep with
  | @lsz a _ vs G h1 h2 =>
    refine ⟨a, vs, rfl, h1, h2, ?_⟩
    rcases h.inn with no | ⟨a', G', e1, e2, h3, no⟩
    · exact no
    · cases h3
theorem OV.dct_inv {kds : List (Key × D)} {x : V} (h : OV K B s σ H (.dct kds) x F) : ∃ a kvs G, x = .ref a ∧ H a = some (.dK kvs) ∧ RepK K H kds kvs G ∧ NoOwn s σ G ∧ ∀ b, b ∈ G → B b := by
  cases h.rep with
  | @dct a _ vs G h1 h2 =>
    refine ⟨a, vs, G, rfl, h1, h2, ?_, fun b m => h.inB b (List.mem_cons_of_mem _ m)⟩
    rcases h.inn with no | ⟨a', G', e1, e2, _, no⟩
    · exact no.sub fun b m => List.mem_cons_of_mem _ m
    · cases e2; exact no
theorem OV.int_inv {i : Int} {x : V} (h : OV K B s σ H (.int i) x F) : x = .int i := by cases h.rep; rfl
theorem OV.str_inv {i : Str} {x : V} (h : OV K B s σ H (.str i) x F) : x = .str i := by cases h.rep; rfl
theorem OV.bl_inv {i : Bool} {x : V} (h : OV K B s σ H (.bl i) x F) : x = .bl i := by cases h.rep; rfl
theorem OV.non_inv {x : V} (h : OV K B s σ H .non x F) : x = .non := by cases h.rep; rfl
end

/-! ### two operands by their values -/
/-- the value function g is what the rule r asks -/
def OpD (K : PySem.W.Frag) (g : D → D → Option (Bool × D)) (r : R2) : Prop :=
  ∀ {P B : Addr → Prop} {ia : Nat → Addr} {s : S} {σ : St} {H H0 : Hp} {Fs : Nat → List Addr} {dx dy : D} {q : Bool × D} {x y : V} {F G : List Addr} {Q : VK}, SR K P B ia s σ H Fs → OV K B s σ H dx x F → OV K B s σ H dy y G → Fr P H0 H → g dx dy = some q →
    (∀ v H', RV K P B ia s σ H0 H' q.1 q.2 v → Q v H') → r x y H Q
theorem OpD.or {K : PySem.W.Frag} {g g' : D → D → Option (Bool × D)} {r r' : R2} (h : OpD K g r) (h' : OpD K g' r') : OpD K (fun x y => (g x y).or (g' x y)) (fun x y H Q => r x y H Q ∨ r' x y H Q) := by
  intro P B ia s σ H H0 Fs dx dy q x y F G Q a b c d e f
  have e : (g dx dy).or (g' dx dy) = some q := e
  show r x y H Q ∨ r' x y H Q
  cases z : g dx dy with
  | some w => rw [z] at e; exact .inl (h a b c d (z.trans e) f)
  | none => rw [z] at e; exact .inr (h' a b c d e f)
/-- a pure two-place operation -/
def binM (g : D → D → Option (Bool × D)) (a b : Opd) : M (Bool × D) := op2 a b fun x y s => match g x y with
  | some r => .ok r s
  | none => .stuck
theorem op2_post {α : Type} {a b : Opd} {k : D → D → S → Res α} {s : S} {E : Exn → S → Prop} {Q : α → S → Prop} (h : Post E Q (op2 a b k s)) : Post E (fun (q : D × D) s' => Post E Q (k q.1 q.2 s')) (op2 a b (fun x y s => .ok (x, y) s) s) := by
  unfold op2 at h ⊢
  cases e : a.run s with
  | ok x s1 =>
    rw [e] at h
    simp only [Res.bind_ok] at h ⊢
    cases e2 : b.run s1 with
    | ok y s2 =>
      rw [e2] at h
      simp only [Res.bind_ok] at h ⊢
      cases e3 : a.get s2 x with
      | some dx =>
        cases e4 : b.get s2 y with
        | some dy => rw [e3, e4] at h; exact h
        | none => rw [e3, e4] at h; exact h
      | none => rw [e3] at h; exact h
    | exc z s2 => rw [e2] at h; exact h
    | stuck => rw [e2] at h; exact h
  | exc z s2 => rw [e] at h; exact h
  | stuck => rw [e] at h; exact h
theorem op1_post {α : Type} {a : Opd} {k : D → S → Res α} {s : S} {E : Exn → S → Prop} {Q : α → S → Prop} (h : Post E Q (op1 a k s)) : Post E (fun q s' => Post E Q (k q s')) (op1 a Res.ok s) := by
  unfold op1 at h ⊢
  cases e : a.run s with
  | ok x s1 =>
    rw [e] at h
    simp only [Res.bind_ok] at h ⊢
    cases e3 : a.get s1 x with
    | some dx => rw [e3] at h; exact h
    | none => rw [e3] at h; exact h
  | exc z s2 => rw [e] at h; exact h
  | stuck => rw [e] at h; exact h
theorem tD_op {K : PySem.W.Frag} {E : WX} {g : D → D → Option (Bool × D)} {r : R2} (hd : OpD K g r) {a b : Opd} (σ : St) (H : Hp) (Q : VK) (h : tD K E (binM g a b) σ H Q) : tOp r (rdO K E a) (rdO K E b) σ H Q := by
  obtain ⟨P, B, ia, s, Fs, R, h⟩ := h
  refine rd2 R ((op2_post h).mono (fun _ _ q => q) fun q s' w x y H' F G Fs' o1 o2 fr R' => ?_)
  cases e : g q.1 q.2 with
  | none => rw [e] at w; exact (show False from w).elim
  | some z =>
    rw [e] at w
    exact hd R' o1 o2 fr e w

section
variable {X : Cx} {E : WX} {a b c : Expr} {oa ob oc : Opd} {pos : Pos}
theorem de_op {op : Operator} {g : D → D → Option (Bool × D)} {r : R2} (ho : OpR X (binaryOp op) r) (hd : OpD X.K g r) (ha : PE X a (rdO X.K E oa)) (hb : PE X b (rdO X.K E ob)) : PE X (.BinOp a op b pos) (tD X.K E (binM g oa ob)) :=
  (pe_op ho ha hb).imp (tD_op hd)
theorem de_cmp {op : CmpOp} {g : D → D → Option (Bool × D)} {r : R2} (ho : OpR X (compareOp op) r) (hd : OpD X.K g r) (ha : PE X a (rdO X.K E oa)) (hb : PE X b (rdO X.K E ob)) (hm : behindInMarks op b = false) : PE X (.Compare a [op] [b] pos) (tD X.K E (binM g oa ob)) :=
  (pe_cmpR ho ha hb hm).imp (tD_op hd)
theorem de_ix {g : D → D → Option (Bool × D)} {r : R2} (ho : IxR X r) (hd : OpD X.K g r) (ha : PE X a (rdO X.K E oa)) (hb : PE X b (rdO X.K E ob)) (hs : PlainIx b := by exact fun _ _ => rfl) : PE X (.Subscript a b pos) (tD X.K E (binM g oa ob)) :=
  (pe_ix ho ha hb hs).imp (tD_op hd)
theorem OpR.or {f : Value → Value → Sem Value} {r r' : R2} (h : OpR X f r) (h' : OpR X f r') : OpR X f (fun x y H Q => r x y H Q ∨ r' x y H Q) := fun pins s σ H x y v u Q I rx ry q => q.elim (h pins s σ H x y v u Q I rx ry) (h' pins s σ H x y v u Q I rx ry)
end

/-! ### + - * // % -/
def addD : D → D → Option (Bool × D)
  | .int i, .int j => some (false, .int (i + j))
  | .str x, .str y => if x.length + y.length ≤ sizeLine then some (false, .str (x ++ y)) else none
  | .lst xs, .lst ys => if xs.length + ys.length ≤ sizeLine then some (true, .lst (xs ++ ys)) else none
  | .tup xs, .tup ys => if xs.length + ys.length ≤ sizeLine then some (false, .tup (xs ++ ys)) else none
  | _, _ => none
def rAdd (K : PySem.W.Frag) : R2 := fun x y H Q => rI0 (fun i j => .int (i + j)) x y H Q ∨ (∃ i j, x = .str i ∧ y = .str j ∧ i.length + j.length ≤ sizeLine ∧ Q (.str (i ++ j)) H) ∨ rCat x y H Q ∨ rCatA K x y H Q
theorem opd_add {K : PySem.W.Frag} : OpD K addD (rAdd K) := by
  intro P B ia s σ H H0 Fs dx dy q x y F G Q R o1 o2 fr e k
  unfold addD at e
  split at e
  · cases e; exact .inl ⟨_, _, o1.int_inv, o2.int_inv, k _ _ (.flat .int fr R)⟩
  · split at e
    · rename_i hz
      cases e
      exact .inr (.inl ⟨_, _, o1.str_inv, o2.str_inv, hz, k _ _ (.flat .str fr R)⟩)
    · cases e
  · split at e
    · rename_i hz
      cases e
      obtain ⟨a, vs, F', e1, h1, h2, no, ib⟩ := o1.lst_inv
      obtain ⟨a', vs', F'', e1', h1', h2', no', ib'⟩ := o2.lst_inv
      exact .inr (.inr (.inl ⟨a, a', vs, vs', e1, e1', h1, h1', by rw [← h2.length, ← h2'.length]; exact hz, fun p np => k _ _ (.lst (h2.append h2') (no.app no') (fun b m => (List.mem_append.mp m).elim (ib b) (ib' b)) fr R np)⟩))
    · cases e
  · split at e
    · rename_i hz
      cases e
      obtain ⟨a, vs, e1, h1, h2, no⟩ := o1.tup_inv
      obtain ⟨a', vs', e1', h1', h2', no'⟩ := o2.tup_inv
      refine .inr (.inr (.inr ⟨a, a', vs, vs', e1, e1', h1, h1', by rw [← h2.length, ← h2'.length]; exact hz, fun en => ?_, fun _ en => ?_, fun _ _ p np => k _ _ (.tup (h2.append h2') (no.app no') (fun b m => (List.mem_append.mp m).elim (o1.inB b) (o2.inB b)) fr R np)⟩))
      · subst en
        cases h2
        exact k _ _ (.part (.tup h1' h2') no' o2.inB fr R)
      · subst en
        cases h2'
        exact k _ _ (.part (F := F) (.tup h1 (by simpa using h2)) no o1.inB fr R)
    · cases e
  · cases e
theorem or_add {X : Cx} : OpR X (binaryOp .Add) (rAdd X.K) := OpR.or op_add (OpR.or op_add_str (OpR.or op_cat op_catA))
/-- two ints, an int -/
def intD (C : Int → Int → Bool) (f : Int → Int → Int) : D → D → Option (Bool × D)
  | .int i, .int j => if C i j then some (false, .int (f i j)) else none
  | _, _ => none
theorem opd_int {K : PySem.W.Frag} {C : Int → Int → Bool} {C' : Int → Int → Prop} {f : Int → Int → Int} (h : ∀ i j, C i j = true → C' i j) : OpD K (intD C f) (rI C' fun i j => .int (f i j)) := by
  intro P B ia s σ H H0 Fs dx dy q x y F G Q R o1 o2 fr e k
  unfold intD at e
  split at e
  · split at e
    · rename_i hc
      cases e; exact ⟨_, _, o1.int_inv, o2.int_inv, h _ _ hc, k _ _ (.flat .int fr R)⟩
    · cases e
  · cases e
theorem opd_int0 {K : PySem.W.Frag} {f : Int → Int → Int} : OpD K (intD (fun _ _ => true) f) (rI0 fun i j => .int (f i j)) := by
  intro P B ia s σ H H0 Fs dx dy q x y F G Q R o1 o2 fr e k
  unfold intD at e
  split at e
  · cases e; exact ⟨_, _, o1.int_inv, o2.int_inv, k _ _ (.flat .int fr R)⟩
  · cases e
abbrev subD := intD (fun _ _ => true) fun i j => i - j
noncomputable abbrev mulD := intD (fun i j => gd ((-(2 ^ 64) < i ∧ i < 2 ^ 64) ∨ (-(2 ^ 64) < j ∧ j < 2 ^ 64))) fun i j => i * j
noncomputable abbrev divD := intD (fun _ j => gd (0 < j ∧ j < 1073741824)) fun i j => i / j
abbrev modD := intD (fun _ j => decide (0 < j)) fun i j => i % j
theorem opd_mul {K : PySem.W.Frag} : OpD K mulD (rI CMul fun i j => .int (i * j)) := opd_int fun _ _ h => gd_iff.mp h
theorem opd_div {K : PySem.W.Frag} : OpD K divD (rI CDiv fun i j => .int (i / j)) := opd_int fun _ _ h => gd_iff.mp h
theorem opd_mod {K : PySem.W.Frag} : OpD K modD (rI (fun _ j => 0 < j) fun i j => .int (i % j)) := opd_int fun _ _ h => of_decide_eq_true h

/-! ### comparisons -/
mutual
/-- the value as data -/
def D.py : D → Option PyData
  | .non => some .none
  | .bl b => some (.bool b)
  | .int i => some (.int i)
  | .str x => some (.str x)
  | .tup ds => (D.pys ds).map .tuple
  | .lst ds => (D.pys ds).map .list
  | .fro ds => (D.pys ds).map .list
  | .dct _ => none
  | .ty _ => none
def D.pys : List D → Option (List PyData)
  | [] => some []
  | d :: ds => (D.py d).bind fun x => (D.pys ds).map fun xs => x :: xs
end
mutual
theorem Rep.dp {K : PySem.W.Frag} {H : Hp} : ∀ {d : D} {v : V} {F : List Addr} {p : PyData}, Rep K H d v F → d.py = some p → Dp K H v p
  | .non, _, _, _, h, e => by cases h; cases e; exact .non
  | .bl _, _, _, _, h, e => by cases h; cases e; exact .bl _
  | .int _, _, _, _, h, e => by cases h; cases e; exact .int _
  | .str _, _, _, _, h, e => by cases h; cases e; exact .str _
  | .ty _, _, _, _, h, e => by cases e
  | .dct _, _, _, _, h, e => by cases e
  | .tup ds, _, _, _, h, e => by
    cases h with
    | tup h1 h2 =>
      rw [D.py] at e
      obtain ⟨ps, e1, e2⟩ := Option.map_eq_some_iff.mp e
      subst e2
      exact .tup h1 (Reps.dp h2 e1)
  | .lst ds, _, _, _, h, e => by
    cases h with
    | lst h1 h2 =>
      rw [D.py] at e
      obtain ⟨ps, e1, e2⟩ := Option.map_eq_some_iff.mp e
      subst e2
      exact .lst (SqL.of h1) (Reps.dp h2 e1)
  | .fro ds, _, _, _, h, e => by
    cases h with
    | lsz h1 h2 =>
      rw [D.py] at e
      obtain ⟨ps, e1, e2⟩ := Option.map_eq_some_iff.mp e
      subst e2
      exact .lst (fz_sq h1) (Reps.dp h2 e1)
theorem Reps.dp {K : PySem.W.Frag} {H : Hp} : ∀ {ds : List D} {vs : List V} {F : List Addr} {ps : List PyData}, Reps K H ds vs F → D.pys ds = some ps → DpAll K H vs ps
  | [], _, _, _, h, e => by cases h; cases e; exact .nil
  | d :: ds, _, _, _, h, e => by
    cases h with
    | cons h1 h2 =>
      rw [D.pys] at e
      obtain ⟨x, e1, e2⟩ := Option.bind_eq_some_iff.mp e
      obtain ⟨xs, e3, e4⟩ := Option.map_eq_some_iff.mp e2
      subst e4
      exact .cons (Rep.dp h1 e1) (Reps.dp h2 e3)
end
def D.shp (d : D) : Option PyData := d.py.bind fun p => if SeqAt.shaped p then some p else none
theorem D.shp_inv {d : D} {p : PyData} (h : d.shp = some p) : d.py = some p ∧ SeqAt.shaped p = true := by
  unfold D.shp at h
  obtain ⟨x, e1, e2⟩ := Option.bind_eq_some_iff.mp h
  split at e2
  · rename_i hs; cases e2; exact ⟨e1, hs⟩
  · cases e2
/-- == -/
def eqD (x y : D) : Option Bool := x.shp.bind fun p => y.shp.map fun q => PyData.eqv p q
def eqDD (neg : Bool) (x y : D) : Option (Bool × D) := (eqD x y).map fun b => (false, .bl (if neg then !b else b))
theorem opd_eq {K : PySem.W.Frag} : OpD K (eqDD false) (rEqD K) := by
  intro P B ia s σ H H0 Fs dx dy q x y F G Q R o1 o2 fr e k
  unfold eqDD eqD at e
  obtain ⟨b, e1, e2⟩ := Option.map_eq_some_iff.mp e
  obtain ⟨p, e3, e4⟩ := Option.bind_eq_some_iff.mp e1
  obtain ⟨p', e5, e6⟩ := Option.map_eq_some_iff.mp e4
  obtain ⟨g1, g2⟩ := D.shp_inv e3
  obtain ⟨g3, g4⟩ := D.shp_inv e5
  subst e2 e6
  exact ⟨p, p', o1.rep.dp g1, o2.rep.dp g3, g2, g4, k _ _ (.flat .bl fr R)⟩
theorem opd_ne {K : PySem.W.Frag} : OpD K (eqDD true) (rNeD K) := by
  intro P B ia s σ H H0 Fs dx dy q x y F G Q R o1 o2 fr e k
  unfold eqDD eqD at e
  obtain ⟨b, e1, e2⟩ := Option.map_eq_some_iff.mp e
  obtain ⟨p, e3, e4⟩ := Option.bind_eq_some_iff.mp e1
  obtain ⟨p', e5, e6⟩ := Option.map_eq_some_iff.mp e4
  obtain ⟨g1, g2⟩ := D.shp_inv e3
  obtain ⟨g3, g4⟩ := D.shp_inv e5
  subst e2 e6
  exact ⟨p, p', o1.rep.dp g1, o2.rep.dp g3, g2, g4, k _ _ (.flat .bl fr R)⟩
/-- < and its like: ints, texts -/
def ordD (f : Int → Int → Bool) (g : List Nat → List Nat → Bool) : D → D → Option (Bool × D)
  | .int i, .int j => some (false, .bl (f i j))
  | .str x, .str y => some (false, .bl (g x.cps.toList y.cps.toList))
  | _, _ => none
abbrev ltD := ordD (fun i j => decide (i < j)) fun x y => decide (x < y)
abbrev leD := ordD (fun i j => decide (i ≤ j)) fun x y => !decide (y < x)
abbrev gtD := ordD (fun i j => decide (j < i)) fun x y => decide (y < x)
abbrev geD := ordD (fun i j => decide (j ≤ i)) fun x y => !decide (x < y)
def rOrd (f : Int → Int → Bool) (g : List Nat → List Nat → Bool) : R2 := fun x y H Q => rI0 (fun i j => .bl (f i j)) x y H Q ∨ ∃ i j, x = .str i ∧ y = .str j ∧ Q (.bl (g i.cps.toList j.cps.toList)) H
theorem opd_ord {K : PySem.W.Frag} {f : Int → Int → Bool} {g : List Nat → List Nat → Bool} : OpD K (ordD f g) (rOrd f g) := by
  intro P B ia s σ H H0 Fs dx dy q x y F G Q R o1 o2 fr e k
  unfold ordD at e
  split at e
  · cases e; exact .inl ⟨_, _, o1.int_inv, o2.int_inv, k _ _ (.flat .bl fr R)⟩
  · cases e; exact .inr ⟨_, _, o1.str_inv, o2.str_inv, k _ _ (.flat .bl fr R)⟩
  · cases e
section
variable {X : Cx}
theorem or_lt : OpR X (compareOp .Lt) (rOrd (fun i j => decide (i < j)) fun x y => decide (x < y)) := OpR.or op_lt op_lt_str
theorem or_le : OpR X (compareOp .LtE) (rOrd (fun i j => decide (i ≤ j)) fun x y => !decide (y < x)) := OpR.or op_le op_le_str
theorem or_gt : OpR X (compareOp .Gt) (rOrd (fun i j => decide (j < i)) fun x y => decide (y < x)) := OpR.or op_gt op_gt_str
theorem or_ge : OpR X (compareOp .GtE) (rOrd (fun i j => decide (j ≤ i)) fun x y => !decide (x < y)) := OpR.or op_ge op_ge_str
end
/-- is None, is not None -/
def isD (neg : Bool) : D → D → Option (Bool × D)
  | .non, .non => some (false, .bl (!neg))
  | _, .non => some (false, .bl neg)
  | _, _ => none
theorem opd_isN {K : PySem.W.Frag} : OpD K (isD false) (fun x y H Q => y = .non ∧ Q (.bl (decide (x = .non))) H) := by
  intro P B ia s σ H H0 Fs dx dy q x y F G Q R o1 o2 fr e k
  unfold isD at e
  split at e
  · cases e
    refine ⟨o2.non_inv, ?_⟩
    rw [o1.non_inv]
    exact k _ _ (.flat .bl fr R)
  · rename_i hn
    cases e
    refine ⟨o2.non_inv, ?_⟩
    have : x ≠ .non := fun e => by
      subst e
      have := o1.rep
      cases this
      exact hn rfl
    rw [decide_eq_false this]
    exact k _ _ (.flat .bl fr R)
  · cases e
theorem opd_notN {K : PySem.W.Frag} : OpD K (isD true) (fun x y H Q => y = .non ∧ Q (.bl (!decide (x = .non))) H) := by
  intro P B ia s σ H H0 Fs dx dy q x y F G Q R o1 o2 fr e k
  unfold isD at e
  split at e
  · cases e
    refine ⟨o2.non_inv, ?_⟩
    rw [o1.non_inv]
    exact k _ _ (.flat .bl fr R)
  · rename_i hn
    cases e
    refine ⟨o2.non_inv, ?_⟩
    have : x ≠ .non := fun e => by
      subst e
      have := o1.rep
      cases this
      exact hn rfl
    rw [decide_eq_false this]
    exact k _ _ (.flat .bl fr R)
  · cases e

/-! ### in, not in -/
/-- a flat value as V -/
def D.flt : D → Option V
  | .non => some .non
  | .bl b => some (.bl b)
  | .int i => some (.int i)
  | .str x => some (.str x)
  | _ => none
theorem Rep.flt {K : PySem.W.Frag} {H : Hp} {d : D} {v w : V} {F : List Addr} (h : Rep K H d v F) (e : d.flt = some w) : v = w ∧ flatV v = true := by
  cases h <;> cases e <;> exact ⟨rfl, rfl⟩
def flts : List D → Option (List V)
  | [] => some []
  | d :: ds => d.flt.bind fun v => (flts ds).map fun vs => v :: vs
theorem Reps.flts {K : PySem.W.Frag} {H : Hp} : ∀ {ds : List D} {vs ws : List V} {F : List Addr}, Reps K H ds vs F → PV.flts ds = some ws → vs = ws ∧ vs.all flatV = true
  | [], _, _, _, h, e => by cases h; cases e; exact ⟨rfl, rfl⟩
  | d :: ds, _, _, _, h, e => by
    cases h with
    | cons h1 h2 =>
      rw [PV.flts] at e
      obtain ⟨x, e1, e2⟩ := Option.bind_eq_some_iff.mp e
      obtain ⟨xs, e3, e4⟩ := Option.map_eq_some_iff.mp e2
      subst e4
      obtain ⟨rfl, f1⟩ := h1.flt e1
      obtain ⟨rfl, f2⟩ := h2.flts e3
      exact ⟨rfl, by rw [List.all_cons, f1, f2]; rfl⟩
/-- a key as V -/
def D.key : D → Option Key
  | .int i => some (.inl i)
  | .str x => some (.inr x)
  | _ => none
theorem Rep.key {K : PySem.W.Frag} {H : Hp} {d : D} {v : V} {F : List Addr} {k : Key} (h : Rep K H d v F) (e : d.key = some k) : v = kV k := by
  cases h <;> cases e <;> rfl
/-- what a dict holds at a key -/
def kget (kds : List (Key × D)) (k : Key) : Option D := (kds.find? fun q => decide (q.1 = k)).map (·.2)
theorem RepK.get {K : PySem.W.Frag} {H : Hp} (k : Key) : ∀ {kds : List (Key × D)} {kvs : List (Key × V)} {F : List Addr}, RepK K H kds kvs F →
    (kget kds k = none ∧ valV kvs k = none) ∨ ∃ d v G, kget kds k = some d ∧ valV kvs k = some v ∧ Rep K H d v G ∧ ∀ a, a ∈ G → a ∈ F
  | [], _, _, h => by cases h; exact .inl ⟨rfl, rfl⟩
  | (k', d) :: ds, _, _, h => by
    cases h with
    | @cons _ _ v F _ vs G h1 h2 =>
      by_cases e : k' = k
      · refine .inr ⟨d, v, F, ?_, valV_pos (p := (k', v)) e, h1, fun a m => List.mem_append_left _ m⟩
        simp [kget, List.find?_cons, e]
      · have e1 : kget ((k', d) :: ds) k = kget ds k := by simp [kget, List.find?_cons, e]
        have e2 : valV ((k', v) :: vs) k = valV vs k := valV_neg (p := (k', v)) e
        rw [e1, e2]
        rcases RepK.get k h2 with q | ⟨d', v', G', q1, q2, q3, q4⟩
        · exact .inl q
        · exact .inr ⟨d', v', G', q1, q2, q3, fun a m => List.mem_append_right _ (q4 a m)⟩
/-- c in s of texts: the model's own word -/
def inStr (i j : Str) : Bool := !(Builtin.Str.occurrences j i 0 j.length 1).isEmpty
def inD (neg : Bool) (x y : D) : Option (Bool × D) := match x, y with
  | .str i, .str j => some (false, .bl (if neg then !inStr i j else inStr i j))
  | x, .dct kds => x.key.map fun k => (false, .bl (if neg then !(kget kds k).isSome else (kget kds k).isSome))
  | x, .tup ds => x.flt.bind fun v => (flts ds).map fun vs => (false, .bl (if neg then !inV v vs else inV v vs))
  | x, .lst ds => match x.flt.bind fun v => (flts ds).map fun vs => (false, D.bl (if neg then !inV v vs else inV v vs)) with
    | some r => some r
    | none => x.shp.bind fun p => (D.lst ds).shp.bind fun q => match q with
      | .list ps => some (false, .bl (if neg then !(ps.any fun z => PyData.eqv z p) else ps.any fun z => PyData.eqv z p))
      | _ => none
  | _, _ => none
/-- the dict's part of in -/
def rInK (neg : Bool) : R2 := fun x y H Q => ∃ a kvs k, y = .ref a ∧ Rd H a (.dK kvs) ∧ x = kV k ∧ Q (.bl (if neg then !(valV kvs k).isSome else (valV kvs k).isSome)) H
def rInA (K : PySem.W.Frag) (neg : Bool) : R2 := fun x y H Q => (∃ i j, x = .str i ∧ y = .str j ∧ Q (.bl (if neg then !inStr i j else inStr i j)) H) ∨ rInK neg x y H Q ∨ rIn K neg x y H Q ∨ (if neg then rNotInD K else rInD K) x y H Q
theorem opd_in {K : PySem.W.Frag} {neg : Bool} : OpD K (inD neg) (rInA K neg) := by
  intro P B ia s σ H H0 Fs dx dy q x y F G Q R o1 o2 fr e k
  unfold inD at e
  split at e
  · cases e; exact .inl ⟨_, _, o1.str_inv, o2.str_inv, k _ _ (.flat .bl fr R)⟩
  · rename_i kds
    obtain ⟨kk, e1, e2⟩ := Option.map_eq_some_iff.mp e
    cases e2
    obtain ⟨a, kvs, G', ea, h1, h2, no, ib⟩ := o2.dct_inv
    refine .inr (.inl ⟨a, kvs, kk, ea, .inl h1, o1.rep.key e1, ?_⟩)
    have : (valV kvs kk).isSome = (kget kds kk).isSome := by
      rcases h2.get kk with ⟨q1, q2⟩ | ⟨d, v, G', q1, q2, _⟩
      · rw [q1, q2] <;> rfl
      · rw [q1, q2] <;> rfl
    rw [this]
    exact k _ _ (.flat .bl fr R)
  · obtain ⟨v, e1, e2⟩ := Option.bind_eq_some_iff.mp e
    obtain ⟨vs, e3, e4⟩ := Option.map_eq_some_iff.mp e2
    cases e4
    obtain ⟨a, ws, ea, h1, h2, no⟩ := o2.tup_inv
    obtain ⟨rfl, f1⟩ := o1.rep.flt e1
    obtain ⟨rfl, f2⟩ := h2.flts e3
    exact .inr (.inr (.inl ⟨a, ws, ea, .inr h1, f1, f2, k _ _ (.flat .bl fr R)⟩))
  · split at e
    · rename_i r hr
      cases e
      obtain ⟨v, e1, e2⟩ := Option.bind_eq_some_iff.mp hr
      obtain ⟨vs, e3, e4⟩ := Option.map_eq_some_iff.mp e2
      cases e4
      obtain ⟨a, ws, G', ea, h1, h2, no, ib⟩ := o2.lst_inv
      obtain ⟨rfl, f1⟩ := o1.rep.flt e1
      obtain ⟨rfl, f2⟩ := h2.flts e3
      exact .inr (.inr (.inl ⟨a, ws, ea, .inl (SqL.of h1), f1, f2, k _ _ (.flat .bl fr R)⟩))
    · obtain ⟨p, e1, e2⟩ := Option.bind_eq_some_iff.mp e
      obtain ⟨q', e3, e4⟩ := Option.bind_eq_some_iff.mp e2
      split at e4
      · rename_i ps
        cases e4
        obtain ⟨g1, g2⟩ := D.shp_inv e1
        obtain ⟨g3, g4⟩ := D.shp_inv e3
        refine .inr (.inr (.inr ?_))
        cases neg with
        | true => exact ⟨p, ps, o1.rep.dp g1, o2.rep.dp g3, g2, g4, k _ _ (.flat .bl fr R)⟩
        | false => exact ⟨p, ps, o1.rep.dp g1, o2.rep.dp g3, g2, g4, k _ _ (.flat .bl fr R)⟩
      · cases e4
  · cases e
section
variable {X : Cx}
theorem op_inK (hu : X.A.units + 1 < cLine) : OpR X (compareOp .In) (rInK false) := by
  intro pins s σ H x y v u Q I rx ry h
  obtain ⟨a, kvs, k, rfl, h1, rfl, q⟩ := h
  cases ry
  exact d_in hu I (.inl ⟨kvs, k, h1, rfl, rfl⟩) rx fun s' I' => ⟨.bl _, H, I', rfl, q⟩
theorem op_notinK (hu : X.A.units + 1 < cLine) : OpR X (compareOp .NotIn) (rInK true) := by
  intro pins s σ H x y v u Q I rx ry h
  obtain ⟨a, kvs, k, rfl, h1, rfl, q⟩ := h
  cases ry
  exact d_notIn hu I (.inl ⟨kvs, k, h1, rfl, rfl⟩) rx fun s' I' => ⟨.bl _, H, I', rfl, q⟩
theorem or_in (hu : X.A.units + 65 < cLine) : OpR X (compareOp .In) (rInA X.K false) := OpR.or op_in_str (OpR.or (op_inK (by omega)) (OpR.or op_in_seq (op_inD hu)))
theorem or_notin (hu : X.A.units + 65 < cLine) : OpR X (compareOp .NotIn) (rInA X.K true) := OpR.or op_notin_str (OpR.or (op_notinK (by omega)) (OpR.or op_notIn_seq (op_notInD hu)))
end
end PV

/-! PV: operands in a row; subscripts, slices, truth, tests, displays, names. -/
namespace PV
open PySem PySem.Spec L2

/-! ### any number of operands -/
def rdOs (K : PySem.W.Frag) (E : WX) : List Opd → TA
  | [] => tNil
  | o :: os => tCons (rdO K E o) (rdOs K E os)
def runs : List Opd → M (List (Option D))
  | [] => fun s => .ok [] s
  | o :: os => fun s => (o.run s).bind fun x s1 => (runs os s1).bind fun xs s2 => .ok (x :: xs) s2
def gets (s : S) : List Opd → List (Option D) → Option (List D)
  | [], _ => some []
  | o :: os, x :: xs => match o.get s x, gets s os xs with
    | some d, some ds => some (d :: ds)
    | _, _ => none
  | _ :: _, [] => none
def opsM {α : Type} (os : List Opd) (k : List D → S → Res α) : M α := fun s => (runs os s).bind fun xs s1 => match gets s1 os xs with
  | some ds => k ds s1
  | none => .stuck
def Opd.isEx : Opd → Bool
  | .ex _ => true
  | .sl _ => false
inductive OVs (K : PySem.W.Frag) (B : Addr → Prop) (s : S) (σ : St) (H : Hp) : List Opd → List D → List V → List (List Addr) → Prop
  | nil : OVs K B s σ H [] [] [] []
  | cons {o : Opd} {os : List Opd} {d : D} {ds : List D} {v : V} {vs : List V} {F : List Addr} {Fs : List (List Addr)} : OV K B s σ H d v F → (o.isEx = true → NoOwn s σ F) →
      (∀ i, o = .sl i → ∃ w, s[i]? = some (some (w, d)) ∧ σ[i]? = some (some v)) → OVs K B s σ H os ds vs Fs → OVs K B s σ H (o :: os) (d :: ds) (v :: vs) (F :: Fs)
section
variable {K : PySem.W.Frag} {B : Addr → Prop} {ia : Nat → Addr} {σ : St} {E : WX}
theorem rdN (os : List Opd) : ∀ {P : Addr → Prop} {s : S} {H : Hp} {Fs : Nat → List Addr} {R : List V → Hp → Prop}, SR K P B ia s σ H Fs →
    Post (fun x s' => ∀ cls dx H', RX K P B ia s' σ H H' x cls dx → E cls dx σ H') (fun xs s' => ∀ vs H' Fs', (∀ ds, gets s' os xs = some ds → ∃ Gs, OVs K B s' σ H' os ds vs Gs) → Fr P H H' → SR K P B ia s' σ H' Fs' → R vs H') (runs os s) →
    rdOs K E os σ H R := by
  induction os with
  | nil =>
    intro P s H Fs R r h
    exact h [] H Fs (fun ds e => by cases e; exact ⟨[], .nil⟩) Fr.refl r
  | cons o os ih =>
    intro P s H Fs R r h
    cases o with
    | ex f =>
      refine ⟨P, B, ia, s, Fs, r, ?_⟩
      have h' := Post.bind (Post.bind (r := (f s).bind fun (r : Bool × D) s' => Res.ok (some r.2) s') h)
      refine h'.mono (fun _ _ q => q) fun a s1 q v H1 w => ?_
      obtain ⟨F, Fs1, h1, h2, h3, h4, h5⟩ := w
      have q' := Post.bind (r := runs os s1) q
      refine ih h4 (q'.mono (fun x s2 e cls dx H2 w2 => e cls dx H2 (w2.weak h2 fun b m => .inl m)) fun xs s2 e vs H2 Fs2 g fr r2 => ?_)
      refine e (v :: vs) H2 Fs2 (fun ds ed => ?_) (h2.trans (fr.mono fun b m => .inl m)) (r2.weak fun b m => .inl m)
      simp only [gets, Opd.get] at ed
      cases eg : gets s2 os xs with
      | none => rw [eg] at ed; cases ed
      | some ds' =>
        rw [eg] at ed; cases ed
        obtain ⟨Gs, hg⟩ := g ds' eg
        have no : NoOwn s2 σ F := r2.noOwn fun a m => .inr m
        exact ⟨F :: Gs, .cons ⟨h1.keep fr.i fun a m => fr.p a (.inr m), h3, .inl no⟩ (fun _ => no) (fun i e => nomatch e) hg⟩
    | sl i =>
      simp only [runs, Opd.run] at h
      match e : s[i]? with
      | some none => simp only [e] at h; exact h.elim
      | none => simp only [e] at h; exact h.elim
      | some (some (o, d)) =>
        obtain ⟨v, F, hv, h2⟩ := r.opd e
        simp only [e, Res.bind_ok] at h
        refine ⟨v, hv, ?_⟩
        have h' := Post.bind (r := runs os s) h
        refine ih r (h'.mono (fun _ _ q => q) fun xs s2 q vs H2 Fs2 g fr r2 => ?_)
        refine q (v :: vs) H2 Fs2 (fun ds ed => ?_) fr r2
        simp only [gets, Opd.get] at ed
        match e2 : s2[i]? with
        | some none => rw [e2] at ed; cases ed
        | none => rw [e2] at ed; cases ed
        | some (some (o2, d2)) =>
          rw [e2] at ed
          cases eg : gets s2 os xs with
          | none => rw [eg] at ed; cases ed
          | some ds' =>
            rw [eg] at ed; cases ed
            obtain ⟨Gs, hg⟩ := g ds' eg
            obtain ⟨w, G, e3, e4⟩ := r2.opd e2
            rw [hv] at e3; cases e3
            exact ⟨G :: Gs, .cons e4 (fun z => nomatch z) (fun j z => by cases z; exact ⟨o2, e2, hv⟩) hg⟩
theorem rdOps {P : Addr → Prop} {s : S} {H : Hp} {Fs : Nat → List Addr} {α : Type} {k : List D → S → Res α} {os : List Opd} {R : List V → Hp → Prop} {QX : Exn → S → Prop} {Q : α → S → Prop} (r : SR K P B ia s σ H Fs)
    (h : Post QX Q (opsM os k s)) (hx : ∀ x s', QX x s' → ∀ cls dx H', RX K P B ia s' σ H H' x cls dx → E cls dx σ H')
    (hk : ∀ ds s' vs H' Gs Fs', Post QX Q (k ds s') → OVs K B s' σ H' os ds vs Gs → Fr P H H' → SR K P B ia s' σ H' Fs' → R vs H') : rdOs K E os σ H R := by
  refine rdN os r ((Post.bind (r := runs os s) h).mono hx fun xs s' q vs H' Fs' g fr r' => ?_)
  cases eg : gets s' os xs with
  | none => rw [eg] at q; exact q.elim
  | some ds =>
    rw [eg] at q
    obtain ⟨Gs, hg⟩ := g ds eg
    exact hk ds s' vs H' Gs Fs' q hg fr r'
/-- all that expressions brought, as one row -/
theorem OVs.reps {s : S} {H : Hp} : ∀ {os : List Opd} {ds : List D} {vs : List V} {Gs : List (List Addr)}, OVs K B s σ H os ds vs Gs → os.all Opd.isEx = true → ∃ G, Reps K H ds vs G ∧ NoOwn s σ G ∧ ∀ a, a ∈ G → B a
  | _, _, _, _, .nil, _ => ⟨[], .nil, .nil, fun _ m => nomatch m⟩
  | _, _, _, _, .cons h1 h2 _ h4, e => by
    rw [List.all_cons, Bool.and_eq_true] at e
    obtain ⟨G, g1, g2, g3⟩ := h4.reps e.2
    exact ⟨_, .cons h1.rep g1, (h2 e.1).app g2, fun a m => (List.mem_append.mp m).elim (h1.inB a) (g3 a)⟩
theorem OVs.length {s : S} {H : Hp} : ∀ {os : List Opd} {ds : List D} {vs : List V} {Gs : List (List Addr)}, OVs K B s σ H os ds vs Gs → ds.length = vs.length ∧ ds.length = os.length
  | _, _, _, _, .nil => ⟨rfl, rfl⟩
  | _, _, _, _, .cons h1 h2 _ h4 => ⟨by simp [h4.length.1], by simp [h4.length.2]⟩
end

/-! ### names, constants -/
def constM (d : D) : M (Bool × D) := fun s => .ok (false, d) s
/-- a name read: what was one's own is shared from then on -/
def varM (i : Nat) : M (Bool × D) := fun s => match s[i]? with
  | some (some (.sh, d)) => .ok (false, d) s
  | some (some (.ow, d)) => .ok (false, d) (s.set i (some (.sh, d)))
  | _ => .stuck
/-- a name read for the last time -/
def moveM (i : Nat) : M (Bool × D) := fun s => match s[i]? with
  | some (some (.sh, d)) => .ok (false, d) s
  | some (some (.ow, d)) => .ok (true, d) (s.set i none)
  | _ => .stuck
section
variable {K : PySem.W.Frag} {P B : Addr → Prop} {ia : Nat → Addr} {s : S} {σ : St} {H H' H1 : Hp} {Fs : Nat → List Addr} {E : WX} {d : D} {v : V} {F : List Addr}
theorem get_set_eq {s : S} {i : Nat} {x y : Slot} (h : s[i]? = some x) : (s.set i y)[i]? = some y := List.getElem?_set_self (List.getElem?_eq_some_iff.mp h).1
theorem get_set_ne {s : S} {i j : Nat} {y : Slot} (h : j ≠ i) : (s.set i y)[j]? = s[j]? := List.getElem?_set_ne fun e => h e.symm
/-- what was one's own is shared -/
theorem SR.share (r : SR K P B ia s σ H Fs) {i : Nat} {o : Own} (e : s[i]? = some (some (o, d))) : SR K P B ia (s.set i (some (.sh, d))) σ H Fs := by
  refine ⟨by simp [r.len], fun j o' d' q => ?_, fun j o' d' q n => ?_, fun j d' q => ?_, fun j q => ?_, r.inB, r.tr, r.nb⟩
  · by_cases h : j = i
    · subst h
      rw [get_set_eq e] at q; cases q
      exact r.rep j _ d e
    · rw [get_set_ne h] at q; exact r.rep j o' d' q
  · by_cases h : j = i
    · subst h
      rw [get_set_eq e] at q; cases q
      exact absurd rfl n
    · rw [get_set_ne h] at q; exact r.own j o' d' q n
  · by_cases h : j = i
    · subst h
      rw [get_set_eq e] at q; cases q
    · rw [get_set_ne h] at q; exact r.iov j d' q
  · by_cases h : j = i
    · subst h
      exact absurd (get_set_eq e) (q .sh d)
    · exact r.dead j fun o' d' z => q o' d' (by rw [get_set_ne h]; exact z)
/-- a slot falls -/
theorem SR.kill (r : SR K P B ia s σ H Fs) {i : Nat} {x : Slot} (e : s[i]? = some x) : SR K P B ia (s.set i none) σ H (fun j => if j = i then [] else Fs j) := by
  refine ⟨by simp [r.len], fun j o' d' q => ?_, fun j o' d' q n => ?_, fun j d' q => ?_, fun j q => ?_, fun j a m => ?_, r.tr, r.nb⟩
  · by_cases h : j = i
    · subst h
      rw [get_set_eq e] at q; cases q
    · rw [get_set_ne h] at q; rw [if_neg h]; exact r.rep j o' d' q
  · by_cases h : j = i
    · subst h
      rw [get_set_eq e] at q; cases q
    · rw [get_set_ne h] at q; rw [if_neg h]
      obtain ⟨a, F, h1, h2, h3, h4, h5, h6⟩ := r.own j o' d' q n
      refine ⟨a, F, h1, h2, h3, h4, h5, fun k hk => ?_⟩
      by_cases hk2 : k = i
      · rw [if_pos hk2]; simp
      · rw [if_neg hk2]; exact h6 k hk
  · by_cases h : j = i
    · subst h
      rw [get_set_eq e] at q; cases q
    · rw [get_set_ne h] at q; exact r.iov j d' q
  · by_cases h : j = i
    · rw [if_pos h]
    · rw [if_neg h]
      exact r.dead j fun o' d' z => q o' d' (by rw [get_set_ne h]; exact z)
  · by_cases h : j = i
    · rw [if_pos h] at m; cases m
    · rw [if_neg h] at m; exact r.inB j a m
theorem tD_const {E : WX} {d : D} {v : V} (h : ∀ H, Rep K H d v []) (σ : St) (H : Hp) (Q : VK) (w : tD K E (constM d) σ H Q) : tC v σ H Q := by
  obtain ⟨P, B, ia, s, Fs, r, w⟩ := w
  exact w v H (.flat (h H) Fr.refl r)
theorem tD_var {E : WX} {i : Nat} (σ : St) (H : Hp) (Q : VK) (w : tD K E (varM i) σ H Q) : tVar i σ H Q := by
  obtain ⟨P, B, ia, s, Fs, r, w⟩ := w
  unfold varM at w
  match e : s[i]? with
  | some (some (.sh, d)) =>
    simp only [e] at w
    obtain ⟨v, h1, h2⟩ := r.rep i _ d e
    exact ⟨v, h1, w v H (.part h2 (r.noOwnF e) (fun a m => r.inB i a m) Fr.refl r)⟩
  | some (some (.ow, d)) =>
    simp only [e] at w
    obtain ⟨v, h1, h2⟩ := r.rep i _ d e
    have r2 := r.share e
    exact ⟨v, h1, w v H (.part h2 (r2.noOwnF (j := i) (get_set_eq e)) (fun a m => r.inB i a m) Fr.refl r2)⟩
  | some (some (.io, d)) => simp only [e] at w; exact w.elim
  | some none => simp only [e] at w; exact w.elim
  | none => simp only [e] at w; exact w.elim
theorem tD_move {E : WX} {i : Nat} (σ : St) (H : Hp) (Q : VK) (w : tD K E (moveM i) σ H Q) : tVar i σ H Q := by
  obtain ⟨P, B, ia, s, Fs, r, w⟩ := w
  unfold moveM at w
  match e : s[i]? with
  | some (some (.sh, d)) =>
    simp only [e] at w
    obtain ⟨v, h1, h2⟩ := r.rep i _ d e
    exact ⟨v, h1, w v H (.part h2 (r.noOwnF e) (fun a m => r.inB i a m) Fr.refl r)⟩
  | some (some (.ow, d)) =>
    simp only [e] at w
    obtain ⟨a, F, h1, h2, h3, h4, h5, h6⟩ := r.own i _ d e (by decide)
    have r2 := r.kill e
    have no : NoOwn (s.set i none) σ (a :: F) := by
      have no1 := r.noOwnT e (by decide) h2
      intro j o' d' b q n x m
      by_cases h : j = i
      · subst h
        rw [get_set_eq e] at q; cases q
      · rw [get_set_ne h] at q
        rcases List.mem_cons.mp m with rfl | m
        · obtain ⟨a', F', g1, g2, g3, g4, g5, g6⟩ := r.own j o' d' q n
          rw [x] at g1; cases g1
          exact g6 i (Ne.symm h) (by rw [h2]; exact List.mem_cons_self)
        · exact no1 j o' d' b q n x m
    refine ⟨.ref a, h1, w (.ref a) H ⟨a :: F, _, h3.rep, Fr.refl, fun b m => r.inB i b (by rw [h2]; exact m), r2.prot h3.rep.tr no, fun _ => ⟨a, F, rfl, rfl, h3, h4, h5, fun j => ?_⟩⟩⟩
    by_cases hj : j = i
    · rw [if_pos hj]; simp
    · rw [if_neg hj]; exact h6 j hj
  | some (some (.io, d)) => simp only [e] at w; exact w.elim
  | some none => simp only [e] at w; exact w.elim
  | none => simp only [e] at w; exact w.elim
end
section
variable {X : Cx} {E : WX}
theorem de_const {e : Expr} {d : D} {v : V} (he : PE X e (tC v)) (h : ∀ H, Rep X.K H d v []) : PE X e (tD X.K E (constM d)) := he.imp (tD_const h)
theorem de_var {e : Expr} {i : Nat} (he : PE X e (tVar i)) : PE X e (tD X.K E (varM i)) := he.imp tD_var
theorem de_move {e : Expr} {i : Nat} (he : PE X e (tVar i)) : PE X e (tD X.K E (moveM i)) := he.imp tD_move
theorem de_int {i j pos} : PE X (.Constant (.int i) j pos) (tD X.K E (constM (.int i))) := de_const pe_int fun _ => .int
theorem de_bl {b j pos} : PE X (.Constant (.bool b) j pos) (tD X.K E (constM (.bl b))) := de_const pe_bl fun _ => .bl
theorem de_non {j pos} : PE X (.Constant .none j pos) (tD X.K E (constM .non)) := de_const pe_non fun _ => .non
theorem de_str {x j pos} : PE X (.Constant (.str x) j pos) (tD X.K E (constM (.str x))) := de_const pe_str fun _ => .str
end

/-! ### subscripts -/
def ixD : D → D → Option (Bool × D)
  | .lst ds, .int i => (atI ds i).map fun d => (false, d)
  | .tup ds, .int i => (atI ds i).map fun d => (false, d)
  | .fro ds, .int i => (atI ds i).map fun d => (false, d)
  | .str x, .int i => if x.length ≤ sizeLine then (atI x.cps.toList i).map fun c => (false, .str ⟨#[c]⟩) else none
  | .dct kds, y => y.key.bind fun k => (kget kds k).map fun d => (false, d)
  | _, _ => none
def rIxK : R2 := fun x y H Q => ∃ a kvs k v, x = .ref a ∧ Rd H a (.dK kvs) ∧ y = kV k ∧ valV kvs k = some v ∧ Q v H
def rIxA (K : PySem.W.Frag) : R2 := fun x y H Q => rIxK x y H Q ∨ rIx K x y H Q
theorem ix_dk {X : Cx} (hu : X.A.units + 1 < cLine) : IxR X rIxK := by
  intro value slice pins s σ H x y v u Q I rx ry h hs
  obtain ⟨a, kvs, k, w, rfl, h1, rfl, h2, q⟩ := h
  cases rx
  have g : DGet H a (kV k) (some w) := .inl ⟨kvs, k, h1, rfl, h2.symm⟩
  exact PyProof.Rows.tail_any (dict_typeIs I g) PySem.F.slot_dict_getitem.lookup (d_getItem hu I g ry fun w' s' I' rw' => ⟨w, H, I', rw', q⟩) hs
theorem or_ix {X : Cx} (hu : X.A.units + 1 < cLine) : IxR X (rIxA X.K) := (ix_dk hu).or ix_seq
theorem Reps.at {K : PySem.W.Frag} {H : Hp} {ds : List D} {vs : List V} {F : List Addr} {i : Int} {d : D} (h : Reps K H ds vs F) (e : atI ds i = some d) : ∃ v G, atI vs i = some v ∧ Rep K H d v G ∧ ∀ a, a ∈ G → a ∈ F := by
  unfold atI at e ⊢
  rw [h.length] at e
  cases q : ixN vs.length i with
  | none => rw [q] at e; cases e
  | some j => rw [q] at e; exact h.get e
theorem opd_ix {K : PySem.W.Frag} : OpD K ixD (rIxA K) := by
  intro P B ia s σ H H0 Fs dx dy q x y F G Q R o1 o2 fr e k
  unfold ixD at e
  split at e
  · obtain ⟨d, e1, e2⟩ := Option.map_eq_some_iff.mp e
    cases e2
    obtain ⟨a, vs, F', ea, h1, h2, no, ib⟩ := o1.lst_inv
    obtain ⟨v, G', g1, g2, g3⟩ := h2.at e1
    exact .inr (.inl ⟨a, vs, _, v, ea, o2.int_inv, SqL.of h1, g1, k _ _ (.part g2 (no.sub g3) (fun b m => ib b (g3 b m)) fr R)⟩)
  · obtain ⟨d, e1, e2⟩ := Option.map_eq_some_iff.mp e
    cases e2
    obtain ⟨a, vs, ea, h1, h2, no⟩ := o1.tup_inv
    obtain ⟨v, G', g1, g2, g3⟩ := h2.at e1
    exact .inr (.inr (.inl ⟨a, vs, _, v, ea, o2.int_inv, h1, g1, k _ _ (.part g2 (no.sub g3) (fun b m => o1.inB b (g3 b m)) fr R)⟩))
  · obtain ⟨d, e1, e2⟩ := Option.map_eq_some_iff.mp e
    cases e2
    obtain ⟨a, vs, ea, h1, h2, no⟩ := o1.fro_inv
    obtain ⟨v, G', g1, g2, g3⟩ := h2.at e1
    exact .inr (.inl ⟨a, vs, _, v, ea, o2.int_inv, fz_sq h1, g1, k _ _ (.part g2 (no.sub g3) (fun b m => o1.inB b (g3 b m)) fr R)⟩)
  · split at e
    · rename_i hz
      obtain ⟨d, e1, e2⟩ := Option.map_eq_some_iff.mp e
      cases e2
      exact .inr (.inr (.inr ⟨_, _, d, o1.str_inv, o2.int_inv, hz, e1, k _ _ (.flat .str fr R)⟩))
    · cases e
  · obtain ⟨kk, e1, e2⟩ := Option.bind_eq_some_iff.mp e
    obtain ⟨d, e3, e4⟩ := Option.map_eq_some_iff.mp e2
    cases e4
    obtain ⟨a, kvs, G', ea, h1, h2, no, ib⟩ := o1.dct_inv
    rcases h2.get kk with ⟨q1, q2⟩ | ⟨d', v, G'', q1, q2, q3, q4⟩
    · rw [e3] at q1; cases q1
    · rw [e3] at q1; cases q1
      exact .inl ⟨a, kvs, kk, v, ea, .inl h1, o2.rep.key e1, q2, k _ _ (.part q3 (no.sub q4) (fun b m => ib b (q4 b m)) fr R)⟩
  · cases e

/-! ### slices -/
def cutL {α : Type} (xs : List α) (lo hi : Option Int) : List α := (xs.drop (HT.sIx xs.length 0 lo)).take (HT.sIx xs.length xs.length hi - HT.sIx xs.length 0 lo)
theorem Reps.cut {K : PySem.W.Frag} {H : Hp} {ds : List D} {vs : List V} {F : List Addr} (lo hi : Option Int) (h : Reps K H ds vs F) : ∃ G, Reps K H (cutL ds lo hi) (cutV vs lo hi) G ∧ ∀ b, b ∈ G → b ∈ F := by
  unfold cutL cutV
  rw [h.length]
  exact Reps.sub _ _ h
theorem cut_whole {vs : List V} {lo hi : Option Int} (h : HT.sIx vs.length 0 lo = 0 ∧ HT.sIx vs.length vs.length hi = vs.length) : cutV vs lo hi = vs := by
  unfold cutV
  rw [h.1, h.2]
  simp
def sliceD (lo hi : Option Int) : D → Option (Bool × D)
  | .lst ds => some (true, .lst (cutL ds lo hi))
  | .fro ds => some (true, .lst (cutL ds lo hi))
  | .tup ds => some (false, .tup (cutL ds lo hi))
  | .str x => if x.length ≤ sizeLine then some (false, .str (cutS x lo hi)) else none
  | _ => none
def rSlAll (K : PySem.W.Frag) : V → Option Int → Option Int → Hp → VK → Prop := fun x lo hi H Q => rSlL K x lo hi H Q ∨ rSlA K x lo hi H Q ∨ rSlS x lo hi H Q
theorem or_sl {X : Cx} : SlR X (rSlAll X.K) := SlR.or sl_list (SlR.or sl_tupA sl_str)
theorem opd_sl {K : PySem.W.Frag} {P B : Addr → Prop} {ia : Nat → Addr} {s : S} {σ : St} {H H0 : Hp} {Fs : Nat → List Addr} {dx : D} {q : Bool × D} {x : V} {F : List Addr} {Q : VK} {lo hi : Option Int} (R : SR K P B ia s σ H Fs) (o1 : OV K B s σ H dx x F)
    (fr : Fr P H0 H) (e : sliceD lo hi dx = some q) (k : ∀ v H', RV K P B ia s σ H0 H' q.1 q.2 v → Q v H') : rSlAll K x lo hi H Q := by
  unfold sliceD at e
  split at e
  · cases e
    obtain ⟨a, vs, F', ea, h1, h2, no, ib⟩ := o1.lst_inv
    obtain ⟨G, g1, g2⟩ := h2.cut lo hi
    exact .inl ⟨a, vs, ea, SqL.of h1, fun p np => k _ _ (.lst g1 (no.sub g2) (fun b m => ib b (g2 b m)) fr R np)⟩
  · cases e
    obtain ⟨a, vs, ea, h1, h2, no⟩ := o1.fro_inv
    obtain ⟨G, g1, g2⟩ := h2.cut lo hi
    exact .inl ⟨a, vs, ea, fz_sq h1, fun p np => k _ _ (.lst g1 (no.sub g2) (fun b m => o1.inB b (g2 b m)) fr R np)⟩
  · cases e
    obtain ⟨a, vs, ea, h1, h2, no⟩ := o1.tup_inv
    obtain ⟨G, g1, g2⟩ := h2.cut lo hi
    refine .inr (.inl ⟨a, vs, ea, h1, fun hw => ?_, fun _ p np => k _ _ (.tup g1 (no.sub g2) (fun b m => o1.inB b (g2 b m)) fr R np)⟩)
    rw [cut_whole hw] at g1
    exact k _ _ (.part (.tup h1 g1) (no.sub g2) (fun b m => o1.inB b (g2 b m)) fr R)
  · split at e
    · rename_i hz
      cases e
      exact .inr (.inr ⟨_, o1.str_inv, hz, k _ _ (.flat .str fr R)⟩)
    · cases e
  · cases e
/-- an int, at once -/
def intM (a : Opd) : M (Bool × D) := op1 a fun x s => match x with
  | .int i => .ok (false, .int i) s
  | _ => .stuck
theorem tD_mono {K : PySem.W.Frag} {E : WX} {f : M (Bool × D)} {σ : St} {H : Hp} {Q Q' : VK} (h : tD K E f σ H Q) (q : ∀ v H, Q v H → Q' v H) : tD K E f σ H Q' := by
  obtain ⟨P, B, ia, s, Fs, r, w⟩ := h
  exact ⟨P, B, ia, s, Fs, r, w.mono (fun _ _ z => z) fun a s z v H' rv => q v H' (z v H' rv)⟩
theorem rdO_mono {K : PySem.W.Frag} {E : WX} {o : Opd} {σ : St} {H : Hp} {Q Q' : VK} (h : rdO K E o σ H Q) (q : ∀ v H, Q v H → Q' v H) : rdO K E o σ H Q' := by
  cases o with
  | ex f => exact tD_mono h q
  | sl i => obtain ⟨v, e, h⟩ := h; exact ⟨v, e, q v H h⟩
theorem tD_int {K : PySem.W.Frag} {E : WX} {a : Opd} {σ : St} {H : Hp} {Q : VK} (h : tD K E (intM a) σ H Q) : rdO K E a σ H fun x H1 => ∃ i, x = .int i ∧ Q (.int i) H1 := by
  obtain ⟨P, B, ia, s, Fs, r, w⟩ := h
  refine rd1 r ((op1_post w).mono (fun _ _ q => q) fun d s' q x H' F Fs' ov fr r' => ?_)
  split at q
  · exact ⟨_, ov.int_inv, q _ _ (.flat .int fr r')⟩
  · exact q.elim
/-- a[lo:hi] -/
def sliceM (a : Opd) (lo hi : Option Opd) : M (Bool × D) := match lo, hi with
  | none, none => opsM [a] fun ds s => match ds with
    | [x] => (match sliceD none none x with | some r => .ok r s | none => .stuck)
    | _ => .stuck
  | some l, none => opsM [a, .ex (intM l)] fun ds s => match ds with
    | [x, .int i] => (match sliceD (some i) none x with | some r => .ok r s | none => .stuck)
    | _ => .stuck
  | none, some h => opsM [a, .ex (intM h)] fun ds s => match ds with
    | [x, .int j] => (match sliceD none (some j) x with | some r => .ok r s | none => .stuck)
    | _ => .stuck
  | some l, some h => opsM [a, .ex (intM l), .ex (intM h)] fun ds s => match ds with
    | [x, .int i, .int j] => (match sliceD (some i) (some j) x with | some r => .ok r s | none => .stuck)
    | _ => .stuck
def rdP (K : PySem.W.Frag) (E : WX) : Option Opd → TO
  | none => tNoPart
  | some o => tPart (rdO K E o)
theorem tD_slice {K : PySem.W.Frag} {E : WX} {a : Opd} {lo hi : Option Opd} (σ : St) (H : Hp) (Q : VK) (w : tD K E (sliceM a lo hi) σ H Q) : tSl (rSlAll K) (rdO K E a) (rdP K E lo) (rdP K E hi) σ H Q := by
  obtain ⟨P, B, ia, s, Fs, r, w⟩ := w
  cases lo with
  | none =>
    cases hi with
    | none =>
      refine (rdOps (R := fun vs H' => match vs with | [x] => rSlAll K x none none H' Q | _ => False) r w (fun _ _ q => q) fun ds s' vs H' Gs Fs' q ov fr r' => ?_)
      cases ov with
      | cons o1 _ _ t =>
        cases t
        show rSlAll K _ _ _ H' Q
        dsimp only at q
        split at q
        · rename_i e; exact opd_sl r' o1 fr e q
        · exact q.elim
    | some h =>
      refine rdO_mono (Q := fun x H1 => tD K E (intM h) σ H1 fun y H2 => ∀ i, y = .int i → rSlAll K x none (some i) H2 Q)
        (rdOps (R := fun vs H' => match vs with | [x, y] => ∀ i, y = .int i → rSlAll K x none (some i) H' Q | _ => False) r w (fun _ _ q => q) fun ds s' vs H' Gs Fs' q ov fr r' => ?_)
        fun x H1 z => rdO_mono (tD_int z) fun y H2 ⟨i, e, z⟩ => ⟨i, e, z i rfl⟩
      cases ov with
      | cons o1 _ _ t =>
        cases t with
        | cons o2 _ _ t =>
          cases t
          show ∀ i, _ → _
          intro i ei
          split at q
          · rename_i h; cases h
            rw [o2.int_inv] at ei; cases ei
            split at q
            · rename_i e; exact opd_sl r' o1 fr e q
            · exact q.elim
          · exact q.elim
  | some l =>
    cases hi with
    | none =>
      refine rdO_mono (Q := fun x H1 => tD K E (intM l) σ H1 fun y H2 => ∀ i, y = .int i → rSlAll K x (some i) none H2 Q)
        (rdOps (R := fun vs H' => match vs with | [x, y] => ∀ i, y = .int i → rSlAll K x (some i) none H' Q | _ => False) r w (fun _ _ q => q) fun ds s' vs H' Gs Fs' q ov fr r' => ?_)
        fun x H1 z => rdO_mono (tD_int z) fun y H2 ⟨i, e, z⟩ => ⟨i, e, z i rfl⟩
      cases ov with
      | cons o1 _ _ t =>
        cases t with
        | cons o2 _ _ t =>
          cases t
          show ∀ i, _ → _
          intro i ei
          split at q
          · rename_i h; cases h
            rw [o2.int_inv] at ei; cases ei
            split at q
            · rename_i e; exact opd_sl r' o1 fr e q
            · exact q.elim
          · exact q.elim
    | some h =>
      refine rdO_mono (Q := fun x H1 => tD K E (intM l) σ H1 fun y H2 => tD K E (intM h) σ H2 fun z H3 => ∀ i j, y = .int i → z = .int j → rSlAll K x (some i) (some j) H3 Q)
        (rdOps (R := fun vs H' => match vs with | [x, y, z] => ∀ i j, y = .int i → z = .int j → rSlAll K x (some i) (some j) H' Q | _ => False) r w (fun _ _ q => q) fun ds s' vs H' Gs Fs' q ov fr r' => ?_)
        fun x H1 z => rdO_mono (tD_int z) fun y H2 ⟨i, e, z⟩ => ⟨i, e, rdO_mono (tD_int z) fun y H2 ⟨j, e, z⟩ => ⟨j, e, z i j rfl rfl⟩⟩
      cases ov with
      | cons o1 _ _ t =>
        cases t with
        | cons o2 _ _ t =>
          cases t with
          | cons o3 _ _ t =>
            cases t
            show ∀ i j, _ → _ → _
            intro i j ei ej
            split at q
            · rename_i h; cases h
              rw [o2.int_inv] at ei; cases ei
              rw [o3.int_inv] at ej; cases ej
              split at q
              · rename_i e; exact opd_sl r' o1 fr e q
              · exact q.elim
            · exact q.elim
section
variable {X : Cx} {E : WX}
/-- a slice's part -/
def POd (X : Cx) (E : WX) (e : Option Expr) (o : Option Opd) : Prop := PO X e (rdP X.K E o)
theorem pod_none : POd X E none none := po_none
theorem pod_some {e : Expr} {o : Opd} (h : PE X e (rdO X.K E o)) : POd X E (some e) (some o) := po_some h
theorem de_slice {e : Expr} {lo hi : Option Expr} {a : Opd} {l h : Option Opd} {pos p2 : Pos} (he : PE X e (rdO X.K E a)) (hl : POd X E lo l) (hh : POd X E hi h) : PE X (.Subscript e (.Slice lo hi none p2) pos) (tD X.K E (sliceM a l h)) :=
  (pe_slice or_sl he hl hh).imp tD_slice
end

/-! ### truth, tests -/
def truD : D → Option Bool
  | .non => some false
  | .bl b => some b
  | .int i => some (i != 0)
  | .str x => if x.length ≤ sizeLine then some ((x.length : Int) != 0) else none
  | .tup ds => some (!ds.isEmpty)
  | .lst ds => some (!ds.isEmpty)
  | .fro ds => some (!ds.isEmpty)
  | .dct kds => some (!kds.isEmpty)
  | .ty _ => none
theorem Reps.emp {K : PySem.W.Frag} {H : Hp} {ds : List D} {vs : List V} {F : List Addr} (h : Reps K H ds vs F) : ds.isEmpty = vs.isEmpty := by
  have := h.length
  cases ds <;> cases vs <;> first | rfl | simp at this
theorem RepK.length {K : PySem.W.Frag} {H : Hp} : ∀ {ds : List (Key × D)} {vs : List (Key × V)} {F : List Addr}, RepK K H ds vs F → ds.length = vs.length
  | [], _, _, h => by cases h; rfl
  | d :: ds, _, _, h => by
    cases h with
    | cons h1 h2 => simp [RepK.length h2]
theorem RepK.emp {K : PySem.W.Frag} {H : Hp} {ds : List (Key × D)} {vs : List (Key × V)} {F : List Addr} (h : RepK K H ds vs F) : ds.isEmpty = vs.isEmpty := by
  cases h <;> rfl
theorem OV.tru {K : PySem.W.Frag} {B : Addr → Prop} {s : S} {σ : St} {H : Hp} {d : D} {x : V} {F : List Addr} {k : Bool} (o : OV K B s σ H d x F) (e : truD d = some k) : TruV K x H k := by
  unfold truD at e
  split at e
  · cases e; rw [o.non_inv]; rfl
  · cases e; rw [o.bl_inv]; rfl
  · cases e; rw [o.int_inv]; rfl
  · split at e
    · rename_i hz; cases e; rw [o.str_inv]; exact ⟨hz, rfl⟩
    · cases e
  · cases e
    obtain ⟨a, vs, rfl, h1, h2, _⟩ := o.tup_inv
    exact .inr (.inl ⟨vs, h1, by rw [h2.emp]⟩)
  · cases e
    obtain ⟨a, vs, _, rfl, h1, h2, _⟩ := o.lst_inv
    exact .inl ⟨vs, SqL.of h1, by rw [h2.emp]⟩
  · cases e
    obtain ⟨a, vs, rfl, h1, h2, _⟩ := o.fro_inv
    exact .inl ⟨vs, fz_sq h1, by rw [h2.emp]⟩
  · cases e
    obtain ⟨a, vs, _, rfl, h1, h2, _⟩ := o.dct_inv
    refine .inr (.inr ⟨vs, h1, ?_⟩)
    have := h2.emp
    rw [this]
  · cases e
/-- the reading of a test by its function -/
def tT (K : PySem.W.Frag) (E : WX) (f : M Bool) : TT := fun σ H Q => ∃ P B ia s Fs, SR K P B ia s σ H Fs ∧
  Post (fun x s' => ∀ cls dx H', RX K P B ia s' σ H H' x cls dx → E cls dx σ H') (fun b s' => ∀ H' Fs', Fr P H H' → SR K P B ia s' σ H' Fs' → Q b H') (f s)
def truM (a : Opd) : M Bool := op1 a fun x s => match truD x with
  | some b => .ok b s
  | none => .stuck
def notM (a : M Bool) : M Bool := fun s => (a s).bind fun b s' => .ok (!b) s'
def andM (a b : M Bool) : M Bool := fun s => (a s).bind fun x s' => if x = true then b s' else .ok false s'
def orM (a b : M Bool) : M Bool := fun s => (a s).bind fun x s' => if x = true then .ok true s' else b s'
/-- a if t else b -/
def iteM {α : Type} (t : M Bool) (a b : M α) : M α := fun s => (t s).bind fun x s' => if x = true then a s' else b s'
/-- x and y, x or y, not x as values -/
def andV (a b : M (Bool × D)) : M (Bool × D) := fun s => (a s).bind fun x s' => match truD x.2 with
  | some true => b s'
  | some false => .ok x s'
  | none => .stuck
def orV (a b : M (Bool × D)) : M (Bool × D) := fun s => (a s).bind fun x s' => match truD x.2 with
  | some true => .ok x s'
  | some false => b s'
  | none => .stuck
def notV (a : Opd) : M (Bool × D) := op1 a fun x s => match truD x with
  | some b => .ok (false, .bl (!b)) s
  | none => .stuck
section
variable {K : PySem.W.Frag} {P B : Addr → Prop} {ia : Nat → Addr} {s : S} {σ : St} {H H' H1 : Hp} {Fs : Nat → List Addr} {E : WX} {d : D} {v : V} {F : List Addr}
theorem RV.ov {fr : Bool} (h : RV K P B ia s σ H H' fr d v) : ∃ F Fs, OV K B s σ H' d v F ∧ Fr P H H' ∧ SR K P B ia s σ H' Fs := by
  obtain ⟨F, Fs, h1, h2, h3, h4, h5⟩ := h
  exact ⟨F, Fs, ⟨h1, h3, .inl (h4.noOwn fun a m => .inr m)⟩, h2, h4.weak fun b m => .inl m⟩
theorem RV.step {fr : Bool} {P' : Addr → Prop} {s' : S} {H2 : Hp} (h : Fr P H H1) (q : RV K P B ia s' σ H1 H2 fr d v) : RV K P B ia s' σ H H2 fr d v := by
  obtain ⟨F, Fs, h1, h2, h3, h4, h5⟩ := q
  exact ⟨F, Fs, h1, h.trans h2, h3, h4, h5⟩
theorem RX.step {s' : S} {x : Exn} {cls : Value} {dx : Option Addr} (h : Fr P H H1) (q : RX K P B ia s' σ H1 H' x cls dx) : RX K P B ia s' σ H H' x cls dx := by
  obtain ⟨Fs, h1, h2, h3⟩ := q
  exact ⟨Fs, h.trans h1, h2, h3⟩
end
section
variable {X : Cx} {E : WX} {a b : Expr} {pos : Pos}
theorem dt_tru {oa : Opd} (ha : PE X a (rdO X.K E oa)) (he : ∀ whole, isTrue a X.env whole = (do let v ← whole; standAt a.pos; holding [v] (truthy v)) := by intro _; rfl) : PT X a (tT X.K E (truM oa)) :=
  (pt_truth ha he).imp fun σ H Q h => by
    obtain ⟨P, B, ia, s, Fs, r, w⟩ := h
    refine rd1 r ((op1_post w).mono (fun _ _ q => q) fun d s' q x H' F Fs' ov fr r' => ?_)
    split at q
    · rename_i e; exact ⟨_, ov.tru e, q H' Fs' fr r'⟩
    · exact q.elim
theorem dt_not {f : M Bool} (ha : PT X a (tT X.K E f)) : PT X (.UnaryOp .Not a pos) (tT X.K E (notM f)) := (pt_not ha).imp fun σ H Q h => by
  obtain ⟨P, B, ia, s, Fs, r, w⟩ := h
  exact ⟨P, B, ia, s, Fs, r, (Post.bind w).mono (fun _ _ q => q) fun b s' q H' Fs' fr r' => q H' Fs' fr r'⟩
theorem tT_and {K : PySem.W.Frag} {f g : M Bool} (σ : St) (H : Hp) (Q : Bool → Hp → Prop) (h : tT K E (andM f g) σ H Q) : tAnd (tT K E f) (tT K E g) σ H Q := by
  obtain ⟨P, B, ia, s, Fs, r, w⟩ := h
  refine ⟨P, B, ia, s, Fs, r, (Post.bind w).mono (fun _ _ q => q) fun b s' q H' Fs' fr r' => ?_⟩
  cases b with
  | true =>
    rw [if_pos rfl] at q
    refine iteT ⟨P, B, ia, s', Fs', r', q.mono (fun x s2 q cls dx H2 rx => q cls dx H2 (rx.step fr)) fun b2 s2 q H2 Fs2 fr2 r2 => q H2 Fs2 (fr.trans fr2) r2⟩
  | false =>
    rw [if_neg (by decide)] at q
    exact iteF (q H' Fs' fr r')
theorem tT_or {K : PySem.W.Frag} {f g : M Bool} (σ : St) (H : Hp) (Q : Bool → Hp → Prop) (h : tT K E (orM f g) σ H Q) : tOr (tT K E f) (tT K E g) σ H Q := by
  obtain ⟨P, B, ia, s, Fs, r, w⟩ := h
  refine ⟨P, B, ia, s, Fs, r, (Post.bind w).mono (fun _ _ q => q) fun b s' q H' Fs' fr r' => ?_⟩
  cases b with
  | true =>
    rw [if_pos rfl] at q
    exact iteT (q H' Fs' fr r')
  | false =>
    rw [if_neg (by decide)] at q
    refine iteF ⟨P, B, ia, s', Fs', r', q.mono (fun x s2 q cls dx H2 rx => q cls dx H2 (rx.step fr)) fun b2 s2 q H2 Fs2 fr2 r2 => q H2 Fs2 (fr.trans fr2) r2⟩
variable {rest : List Expr}
theorem dw_and1 {f : M Bool} (ha : PT X a (tT X.K E f)) : PW X (.BoolOp .And [a] pos) (tT X.K E f) := pw_and1 ha
theorem dw_or1 {f : M Bool} (ha : PT X a (tT X.K E f)) : PW X (.BoolOp .Or [a] pos) (tT X.K E f) := pw_or1 ha
theorem dw_and {f g : M Bool} (ha : PT X a (tT X.K E f)) (hb : PW X (.BoolOp .And (b :: rest) pos) (tT X.K E g)) : PW X (.BoolOp .And (a :: b :: rest) pos) (tT X.K E (andM f g)) := (pw_and ha hb).imp tT_and
theorem dw_or {f g : M Bool} (ha : PT X a (tT X.K E f)) (hb : PW X (.BoolOp .Or (b :: rest) pos) (tT X.K E g)) : PW X (.BoolOp .Or (a :: b :: rest) pos) (tT X.K E (orM f g)) := (pw_or ha hb).imp tT_or
theorem dt_w {f : M Bool} (h : PW X a (tT X.K E f)) : PT X a (tT X.K E f) := h.pt
theorem de_ite {c : Expr} {t : M Bool} {f g : M (Bool × D)} (hc : PT X c (tT X.K E t)) (ha : PE X a (tD X.K E f)) (hb : PE X b (tD X.K E g)) : PE X (.IfExp c a b pos) (tD X.K E (iteM t f g)) := (pe_ifExp hc ha hb).imp fun σ H Q h => by
  obtain ⟨P, B, ia, s, Fs, r, w⟩ := h
  refine ⟨P, B, ia, s, Fs, r, (Post.bind w).mono (fun _ _ q => q) fun b s' q H' Fs' fr r' => ?_⟩
  cases b with
  | true =>
    rw [if_pos rfl] at q
    exact iteT ⟨P, B, ia, s', Fs', r', q.mono (fun x s2 q cls dx H2 rx => q cls dx H2 (rx.step fr)) fun b2 s2 q v H2 rv => q v H2 (RV.step (P' := P) fr rv)⟩
  | false =>
    rw [if_neg (by decide)] at q
    exact iteF ⟨P, B, ia, s', Fs', r', q.mono (fun x s2 q cls dx H2 rx => q cls dx H2 (rx.step fr)) fun b2 s2 q v H2 rv => q v H2 (RV.step (P' := P) fr rv)⟩
theorem de_one {op} {f : M (Bool × D)} (ha : PE X a (tD X.K E f)) : PE X (.BoolOp op [a] pos) (tD X.K E f) := pe_one ha
theorem de_and {f g : M (Bool × D)} (ha : PE X a (tD X.K E f)) (hb : PE X (.BoolOp .And (b :: rest) pos) (tD X.K E g)) : PE X (.BoolOp .And (a :: b :: rest) pos) (tD X.K E (andV f g)) := (pe_andT ha hb).imp fun σ H Q h => by
  obtain ⟨P, B, ia, s, Fs, r, w⟩ := h
  refine ⟨P, B, ia, s, Fs, r, (Post.bind w).mono (fun _ _ q => q) fun x s' q v H' rv => ?_⟩
  obtain ⟨F, Fs', ov, fr, r'⟩ := rv.ov
  split at q
  · rename_i e
    exact ⟨true, ov.tru e, iteT ⟨P, B, ia, s', Fs', r', q.mono (fun x s2 q cls dx H2 rx => q cls dx H2 (rx.step fr)) fun b2 s2 q v H2 rv => q v H2 (RV.step (P' := P) fr rv)⟩⟩
  · rename_i e
    exact ⟨false, ov.tru e, iteF (q v H' rv)⟩
  · exact q.elim
theorem de_or {f g : M (Bool × D)} (ha : PE X a (tD X.K E f)) (hb : PE X (.BoolOp .Or (b :: rest) pos) (tD X.K E g)) : PE X (.BoolOp .Or (a :: b :: rest) pos) (tD X.K E (orV f g)) := (pe_orT ha hb).imp fun σ H Q h => by
  obtain ⟨P, B, ia, s, Fs, r, w⟩ := h
  refine ⟨P, B, ia, s, Fs, r, (Post.bind w).mono (fun _ _ q => q) fun x s' q v H' rv => ?_⟩
  obtain ⟨F, Fs', ov, fr, r'⟩ := rv.ov
  split at q
  · rename_i e
    exact ⟨true, ov.tru e, iteT (q v H' rv)⟩
  · rename_i e
    exact ⟨false, ov.tru e, iteF ⟨P, B, ia, s', Fs', r', q.mono (fun x s2 q cls dx H2 rx => q cls dx H2 (rx.step fr)) fun b2 s2 q v H2 rv => q v H2 (RV.step (P' := P) fr rv)⟩⟩
  · exact q.elim
theorem de_not {oa : Opd} (ha : PE X a (rdO X.K E oa)) : PE X (.UnaryOp .Not a pos) (tD X.K E (notV oa)) := (pe_notT ha).imp fun σ H Q h => by
  obtain ⟨P, B, ia, s, Fs, r, w⟩ := h
  refine rd1 r ((op1_post w).mono (fun _ _ q => q) fun d s' q x H' F Fs' ov fr r' => ?_)
  split at q
  · rename_i e; exact ⟨_, ov.tru e, q _ _ (.flat .bl fr r')⟩
  · exact q.elim
/-- -x of an int -/
def negM (a : Opd) : M (Bool × D) := op1 a fun x s => match x with
  | .int i => .ok (false, .int (-i)) s
  | _ => .stuck
theorem de_neg {oa : Opd} (ha : PE X a (rdO X.K E oa)) : PE X (.UnaryOp .USub a pos) (tD X.K E (negM oa)) := (pe_un un_neg ha).imp fun σ H Q h => by
  obtain ⟨P, B, ia, s, Fs, r, w⟩ := h
  refine rd1 r ((op1_post w).mono (fun _ _ q => q) fun d s' q x H' F Fs' ov fr r' => ?_)
  split at q
  · exact ⟨_, ov.int_inv, q _ _ (.flat .int fr r')⟩
  · exact q.elim
/-- a < b < c -/
def chainM (g g' : D → D → Option (Bool × D)) (a b c : M (Bool × D)) : M (Bool × D) := fun s => (a s).bind fun x s1 => (b s1).bind fun y s2 => match g x.2 y.2 with
  | some (_, .bl true) => (c s2).bind fun z s3 => (match g' y.2 z.2 with | some r => .ok r s3 | none => .stuck)
  | some (_, .bl false) => .ok (false, .bl false) s2
  | _ => .stuck
end

/-! ### displays -/
def tupM (fs : List (M (Bool × D))) : M (Bool × D) := opsM (fs.map .ex) fun ds s => if ds.length ≤ sizeLine then .ok (false, .tup ds) s else .stuck
def lstM (fs : List (M (Bool × D))) : M (Bool × D) := opsM (fs.map .ex) fun ds s => if ds.length ≤ sizeLine then .ok (true, .lst ds) s else .stuck
theorem allEx : ∀ fs : List (M (Bool × D)), (fs.map Opd.ex).all Opd.isEx = true
  | [] => rfl
  | _ :: fs => by simp [Opd.isEx, allEx fs]
section
variable {X : Cx} {E : WX} {es : List Expr} {pos : Pos}
/-- arguments -/
abbrev PAd (X : Cx) (E : WX) (es : List Expr) (os : List Opd) : Prop := PA X es (rdOs X.K E os)
theorem da_nil : PAd X E [] [] := pa_nil
theorem da_cons {e : Expr} {o : Opd} {os : List Opd} (h : PE X e (rdO X.K E o)) (hs : PAd X E es os) (hst : starEach (e :: es) X.env = (false, eval e X.env) :: starEach es X.env := by rfl) : PAd X E (e :: es) (o :: os) := pa_cons h hs hst
theorem de_tup {x1} {fs : List (M (Bool × D))} (h : PAd X E es (fs.map .ex)) : PE X (.Tuple es x1 pos) (tD X.K E (tupM fs)) := (pe_tup h).imp fun σ H Q h => by
  obtain ⟨P, B, ia, s, Fs, r, w⟩ := h
  refine rdOps r w (fun _ _ q => q) fun ds s' vs H' Gs Fs' q ov fr r' => ?_
  split at q
  · rename_i hz
    obtain ⟨G, g1, g2, g3⟩ := ov.reps (allEx fs)
    exact ⟨by rw [← ov.length.1]; exact hz, fun p np => q _ _ (.tup g1 g2 g3 fr r' np)⟩
  · exact q.elim
theorem de_lst {fs : List (M (Bool × D))} (h : PAd X E es (fs.map .ex)) : PE X (.List es pos) (tD X.K E (lstM fs)) := (pe_lst h).imp fun σ H Q h => by
  obtain ⟨P, B, ia, s, Fs, r, w⟩ := h
  refine rdOps r w (fun _ _ q => q) fun ds s' vs H' Gs Fs' q ov fr r' => ?_
  split at q
  · rename_i hz
    obtain ⟨G, g1, g2, g3⟩ := ov.reps (allEx fs)
    exact ⟨by rw [← ov.length.1]; exact hz, fun p np => q _ _ (.lst g1 g2 g3 fr r' np)⟩
  · exact q.elim
end
end PV

/-! PV: statements by values. -/
namespace PV
open PySem PySem.Spec L2

inductive Fl where
  | nx | rt (fr : Bool) (d : D) | bk | ct
section
variable {K : PySem.W.Frag} {P B : Addr → Prop} {ia : Nat → Addr} {s : S} {σ : St} {H H' H1 : Hp} {Fs : Nat → List Addr} {E : WX} {d : D} {v : V} {F : List Addr}
/-- a slot is stored -/
theorem SR.set (r : SR K P B ia s σ H Fs) (h : Rep K H d v F) (hp : NoOwn s σ F) (hb : ∀ a, a ∈ F → B a) {i : Nat} {x : Slot} (e : s[i]? = some x) (nio : ∀ d, x ≠ some (.io, d)) {o : Own} (hio : o ≠ .io)
    (ho : o ≠ .sh → ∃ a G, v = .ref a ∧ F = a :: G ∧ RepM K H d a G ∧ a ∉ G ∧ ¬ P a ∧ ∀ j, a ∉ Fs j) :
    SR K P B ia (s.set i (some (o, d))) (σ.set i (some v)) H (fun j => if j = i then F else Fs j) := by
  have hi : i < s.length := (List.getElem?_eq_some_iff.mp e).1
  have hiσ : i < σ.length := by rw [← r.len]; exact hi
  have σe : (σ.set i (some v))[i]? = some (some v) := List.getElem?_set_self hiσ
  have σn : ∀ {j : Nat}, j ≠ i → (σ.set i (some v))[j]? = σ[j]? := fun h => List.getElem?_set_ne fun e => h e.symm
  refine ⟨by simp [r.len], fun j o' d' q => ?_, fun j o' d' q n => ?_, fun j d' q => ?_, fun j q => ?_, fun j a m => ?_, r.tr, r.nb⟩
  · by_cases hj : j = i
    · subst hj
      rw [get_set_eq e] at q; cases q
      exact ⟨v, σe, by rw [if_pos rfl]; exact h⟩
    · rw [get_set_ne hj] at q; rw [σn hj, if_neg hj]; exact r.rep j o' d' q
  · by_cases hj : j = i
    · subst hj
      rw [get_set_eq e] at q; cases q
      obtain ⟨a, G, h1, h2, h3, h4, h5, h6⟩ := ho n
      subst h1
      exact ⟨a, G, σe, by rw [if_pos rfl]; exact h2, h3, h4, h5, fun k hk => by rw [if_neg hk]; exact h6 k⟩
    · rw [get_set_ne hj] at q; rw [σn hj, if_neg hj]
      obtain ⟨a, G, h1, h2, h3, h4, h5, h6⟩ := r.own j o' d' q n
      refine ⟨a, G, h1, h2, h3, h4, h5, fun k hk => ?_⟩
      by_cases hk2 : k = i
      · rw [if_pos hk2]; exact hp j o' d' a q n h1
      · rw [if_neg hk2]; exact h6 k hk
  · by_cases hj : j = i
    · subst hj
      rw [get_set_eq e] at q; cases q
      exact absurd rfl hio
    · rw [get_set_ne hj] at q; rw [σn hj]; exact r.iov j d' q
  · by_cases hj : j = i
    · subst hj
      exact absurd (get_set_eq e) (q o d)
    · rw [if_neg hj]
      exact r.dead j fun o' d' z => q o' d' (by rw [get_set_ne hj]; exact z)
  · by_cases hj : j = i
    · rw [if_pos hj] at m; exact hb a m
    · rw [if_neg hj] at m; exact r.inB j a m
/-- what stands in a slot of one's own is changed -/
theorem SR.write {F2 : List Addr} (r : SR K (fun b => P b ∨ b ∈ F2) B ia s σ H Fs) {i : Nat} {o : Own} (e : s[i]? = some (some (o, d))) (n : o ≠ .sh) {a : Addr} {G G' : List Addr} (ha : σ[i]? = some (some (V.ref a))) (hF : Fs i = a :: G) {ob : HO} {d' : D}
    (h : RepM K (upd H a ob) d' a G') (hG : ∀ b, b ∈ G' → b ∈ G ∨ b ∈ F2) (hb : ∀ b, b ∈ F2 → B b) :
    SR K P B ia (s.set i (some (o, d'))) σ (upd H a ob) (fun j => if j = i then a :: G' else Fs j) ∧ Fr P H (upd H a ob) := by
  obtain ⟨a', G0, h1, h2, h3, h4, h5, h6⟩ := r.own i o d e n
  rw [ha] at h1; cases h1
  rw [hF] at h2; cases h2
  obtain ⟨ob0, hm, nim⟩ := h3.mut
  have fr : Fr P H (upd H a ob) := Fr.put hm nim fun q => h5 (.inl q)
  have keepF : ∀ j, j ≠ i → ∀ b, b ∈ Fs j → upd H a ob b = H b := fun j hj b m => upd_ne fun e => h6 j hj (e ▸ m)
  have nG' : a ∉ G' := fun m => (hG a m).elim h4 fun m => h5 (.inr m)
  refine ⟨⟨by simp [r.len], fun j o' d2 q => ?_, fun j o' d2 q n' => ?_, fun j d2 q => ?_, fun j q => ?_, fun j b m => ?_, fun b q => ?_, fun b q => ?_⟩, fr⟩
  · by_cases hj : j = i
    · subst hj
      rw [get_set_eq e] at q; cases q
      exact ⟨.ref a, ha, by rw [if_pos rfl]; exact h.rep⟩
    · rw [get_set_ne hj] at q; rw [if_neg hj]
      obtain ⟨v, g1, g2⟩ := r.rep j o' d2 q
      exact ⟨v, g1, g2.keep fr.i fun b m => keepF j hj b m⟩
  · by_cases hj : j = i
    · subst hj
      rw [get_set_eq e] at q; cases q
      exact ⟨a, G', ha, by rw [if_pos rfl], h, nG', fun q => h5 (.inl q), fun k hk => by rw [if_neg hk]; exact h6 k hk⟩
    · rw [get_set_ne hj] at q; rw [if_neg hj]
      obtain ⟨b, G2, g1, g2, g3, g4, g5, g6⟩ := r.own j o' d2 q n'
      refine ⟨b, G2, g1, g2, g3.keep fr.i fun c m => keepF j hj c (by rw [g2]; exact m), g4, fun q => g5 (.inl q), fun k hk => ?_⟩
      by_cases hk2 : k = i
      · rw [if_pos hk2]
        intro m
        have nb : b ∉ a :: G := by rw [← hF]; exact g6 i (Ne.symm hj)
        rcases List.mem_cons.mp m with rfl | m
        · exact nb List.mem_cons_self
        · exact (hG b m).elim (fun m => nb (List.mem_cons_of_mem _ m)) fun m => g5 (.inr m)
      · rw [if_neg hk2]; exact g6 k hk
  · by_cases hj : j = i
    · subst hj
      rw [get_set_eq e] at q; cases q
      exact r.iov j d e
    · rw [get_set_ne hj] at q; exact r.iov j d2 q
  · by_cases hj : j = i
    · subst hj
      exact absurd (get_set_eq e) (q o d')
    · rw [if_neg hj]
      exact r.dead j fun o' d2 z => q o' d2 (by rw [get_set_ne hj]; exact z)
  · by_cases hj : j = i
    · rw [if_pos hj] at m
      have hin : ∀ c, c ∈ a :: G → B c := fun c mc => r.inB i c (by rw [hF]; exact mc)
      rcases List.mem_cons.mp m with rfl | m
      · exact hin _ List.mem_cons_self
      · exact (hG b m).elim (fun m => hin b (List.mem_cons_of_mem _ m)) (hb b)
    · rw [if_neg hj] at m; exact r.inB j b m
  · by_cases hba : b = a
    · subst hba; rw [upd_same]; simp
    · rw [upd_ne hba]; exact r.tr b (.inl q)
  · by_cases hba : b = a
    · subst hba; rw [upd_same] at q; cases q
    · rw [upd_ne hba] at q; exact r.nb b q
end

/-- a statement's ways -/
def SPd (K : PySem.W.Frag) (P B : Addr → Prop) (ia : Nat → Addr) (H : Hp) (Dn : Ends) (fl : Fl) (s' : S) : Prop := match fl with
  | .nx => ∀ σ' H' Fs', Fr P H H' → SR K P B ia s' σ' H' Fs' → Dn.nx σ' H'
  | .bk => ∀ σ' H' Fs', Fr P H H' → SR K P B ia s' σ' H' Fs' → Dn.bk σ' H'
  | .ct => ∀ σ' H' Fs', Fr P H H' → SR K P B ia s' σ' H' Fs' → Dn.ct σ' H'
  | .rt fr d => ∀ v σ' H', RV K P B ia s' σ' H H' fr d v → Dn.rt v H'
/-- an exception's way, whatever the slots are -/
def XPd (K : PySem.W.Frag) (P B : Addr → Prop) (ia : Nat → Addr) (H : Hp) (E : WX) (x : Exn) (s' : S) : Prop := ∀ σ' cls dx H', RX K P B ia s' σ' H H' x cls dx → E cls dx σ' H'
def tS (K : PySem.W.Frag) (E : WX) (f : M Fl) : TS := fun Dn σ H => ∃ P B ia s Fs, SR K P B ia s σ H Fs ∧ Post (XPd K P B ia H E) (SPd K P B ia H Dn) (f s)
section
variable {K : PySem.W.Frag} {P B : Addr → Prop} {ia : Nat → Addr} {s s' : S} {σ : St} {H H' H1 : Hp} {Fs : Nat → List Addr} {E : WX} {x : Exn} {Dn : Ends} {fl : Fl}
theorem XPd.to (h : XPd K P B ia H E x s') : ∀ cls dx H', RX K P B ia s' σ H H' x cls dx → E cls dx σ H' := fun cls dx H' r => h σ cls dx H' r
theorem XPd.step (h : XPd K P B ia H E x s') (f : Fr P H H1) : XPd K P B ia H1 E x s' := fun σ' cls dx H' r => h σ' cls dx H' (r.step f)
theorem SPd.step (h : SPd K P B ia H Dn fl s') (f : Fr P H H1) : SPd K P B ia H1 Dn fl s' := by
  cases fl with
  | nx => exact fun σ' H' Fs' fr r => h σ' H' Fs' (f.trans fr) r
  | bk => exact fun σ' H' Fs' fr r => h σ' H' Fs' (f.trans fr) r
  | ct => exact fun σ' H' Fs' fr r => h σ' H' Fs' (f.trans fr) r
  | rt fr d => exact fun v σ' H' rv => h v σ' H' (RV.step (P' := P) f rv)
end

/-! ### the statements -/
def nxM : M Fl := fun s => .ok .nx s
def bkM : M Fl := fun s => .ok .bk s
def ctM : M Fl := fun s => .ok .ct s
def seqM (a b : M Fl) : M Fl := fun s => (a s).bind fun fl s' => match fl with
  | .nx => b s'
  | fl => .ok fl s'
def dropM (f : M (Bool × D)) : M Fl := fun s => (f s).bind fun _ s' => .ok .nx s'
def retM (f : M (Bool × D)) : M Fl := fun s => (f s).bind fun r s' => .ok (.rt r.1 r.2) s'
def retN : M Fl := fun s => .ok (.rt false .non) s
/-- the slots behind a store -/
def putS (s : S) (i : Nat) (o : Own) (d : D) : Option S := match s[i]? with
  | some (some (.io, _)) => none
  | some _ => some (s.set i (some (o, d)))
  | none => none
def setM (i : Nat) (f : M (Bool × D)) : M Fl := fun s => (f s).bind fun r s' => match putS s' i (if r.1 = true then .ow else .sh) r.2 with
  | some s2 => .ok .nx s2
  | none => .stuck
theorem putS_inv {s s' : S} {i : Nat} {o : Own} {d : D} (h : putS s i o d = some s') : ∃ x, s[i]? = some x ∧ (∀ d, x ≠ some (.io, d)) ∧ s' = s.set i (some (o, d)) := by
  unfold putS at h
  split at h
  · cases h
  · rename_i x hx e
    cases h
    exact ⟨x, e, fun d' q => hx d' q, rfl⟩
  · cases h
section
variable {X : Cx} {E : WX} {st : Stmt} {rest : List Stmt} {pos : Pos}
theorem ds_nil : PSs X [] (tS X.K E nxM) := pss_nil.imp fun Dn σ H h => by
  obtain ⟨P, B, ia, s, Fs, r, w⟩ := h
  exact w σ H Fs Fr.refl r
theorem tS_seq {K : PySem.W.Frag} {f g : M Fl} (Dn : Ends) (σ : St) (H : Hp) (h : tS K E (seqM f g) Dn σ H) : tSeq (tS K E f) (tS K E g) Dn σ H := by
  obtain ⟨P, B, ia, s, Fs, r, w⟩ := h
  refine ⟨P, B, ia, s, Fs, r, (Post.bind w).mono (fun _ _ q => q) fun fl s' q => ?_⟩
  cases fl with
  | nx => exact fun σ' H' Fs' fr r' => ⟨P, B, ia, s', Fs', r', q.mono (fun x s2 q => q.step fr) fun fl s2 q => q.step fr⟩
  | bk => exact q
  | ct => exact q
  | rt fr d => exact q
theorem ds_cons {f g : M Fl} (h1 : PS X st (tS X.K E f)) (h2 : PSs X rest (tS X.K E g)) : PSs X (st :: rest) (tS X.K E (seqM f g)) := (pss_cons h1 h2).imp tS_seq
theorem ds_one {f : M Fl} (h1 : PS X st (tS X.K E f)) : PSs X [st] (tS X.K E f) := pss_one h1
theorem ds_pass : PS X (.Pass pos) (tS X.K E nxM) := ps_pass.imp fun Dn σ H h => by
  obtain ⟨P, B, ia, s, Fs, r, w⟩ := h
  exact w σ H Fs Fr.refl r
theorem ds_break : PS X (.Break pos) (tS X.K E bkM) := ps_break.imp fun Dn σ H h => by
  obtain ⟨P, B, ia, s, Fs, r, w⟩ := h
  exact w σ H Fs Fr.refl r
theorem ds_continue : PS X (.Continue pos) (tS X.K E ctM) := ps_continue.imp fun Dn σ H h => by
  obtain ⟨P, B, ia, s, Fs, r, w⟩ := h
  exact w σ H Fs Fr.refl r
theorem ds_expr {e : Expr} {f : M (Bool × D)} (he : PE X e (tD X.K E f)) (hs : swapsWith e none pos.line X.env = pure false := by rfl) : PS X (.Expr e pos) (tS X.K E (dropM f)) := (ps_expr he hs).imp fun Dn σ H h => by
  obtain ⟨P, B, ia, s, Fs, r, w⟩ := h
  refine ⟨P, B, ia, s, Fs, r, (Post.bind w).mono (fun _ _ q => q.to) fun a s' q v H' rv => ?_⟩
  obtain ⟨F, Fs', ov, fr, r'⟩ := rv.ov
  exact q σ H' Fs' fr r'
theorem ds_ret {e : Expr} {f : M (Bool × D)} (he : PE X e (tD X.K E f)) : PS X (.Return (some e) pos) (tS X.K E (retM f)) := (ps_ret he).imp fun Dn σ H h => by
  obtain ⟨P, B, ia, s, Fs, r, w⟩ := h
  exact ⟨P, B, ia, s, Fs, r, (Post.bind w).mono (fun _ _ q => q.to) fun a s' q v H' rv => q v σ H' rv⟩
theorem ds_retN : PS X (.Return none pos) (tS X.K E retN) := ps_retN.imp fun Dn σ H h => by
  obtain ⟨P, B, ia, s, Fs, r, w⟩ := h
  exact w .non σ H (.flat .non Fr.refl r)
theorem ds_if {c : Expr} {a b : List Stmt} {t : M Bool} {f g : M Fl} (hc : PT X c (tT X.K E t)) (ha : PSs X a (tS X.K E f)) (hb : PSs X b (tS X.K E g)) : PS X (.If c a b pos) (tS X.K E (iteM t f g)) := (ps_if hc ha hb).imp fun Dn σ H h => by
  obtain ⟨P, B, ia, s, Fs, r, w⟩ := h
  refine ⟨P, B, ia, s, Fs, r, (Post.bind w).mono (fun _ _ q => q.to) fun b s' q H' Fs' fr r' => ?_⟩
  cases b with
  | true =>
    rw [if_pos rfl] at q
    exact iteT ⟨P, B, ia, s', Fs', r', q.mono (fun x s2 q => q.step fr) fun fl s2 q => q.step fr⟩
  | false =>
    rw [if_neg (by decide)] at q
    exact iteF ⟨P, B, ia, s', Fs', r', q.mono (fun x s2 q => q.step fr) fun fl s2 q => q.step fr⟩
theorem tS_set {K : PySem.W.Frag} {i : Nat} {f : M (Bool × D)} (Dn : Ends) (σ : St) (H : Hp) (h : tS K E (setM i f) Dn σ H) : tAsg (tD K E f) (gName i) Dn σ H := by
  obtain ⟨P, B, ia, s, Fs, r, w⟩ := h
  refine ⟨P, B, ia, s, Fs, r, (Post.bind w).mono (fun _ _ q => q.to) fun a s' q v H' rv => ?_⟩
  obtain ⟨F, Fs', h1, h2, h3, h4, h5⟩ := rv
  split at q
  · rename_i s2 e
    obtain ⟨x, e1, e2, e3⟩ := putS_inv e
    subst e3
    refine q _ H' _ h2 ((h4.weak fun b m => .inl m).set h1 (h4.noOwn fun a m => .inr m) h3 e1 e2 (by split <;> decide) fun ho => ?_)
    split at ho
    · rename_i hfr
      obtain ⟨a, G, g1, g2, g3, g4, g5, g6⟩ := h5 hfr
      exact ⟨a, G, g1, g2, g3, g4, g5, g6⟩
    · exact absurd rfl ho
  · exact q.elim
theorem ds_set {i : Nat} {x : Str} {e : Expr} {pos' : Pos} {f : M (Bool × D)} (he : PE X e (tD X.K E f)) (hN : X.N.Nodup) (hi : X.N[i]? = some x := by rfl) (hx : Loc X.env.scope x := by first | exact .inl rfl | exact .inr rfl) (hs : swapsWith e (some (.Name x pos')) pos.line X.env = pure false := by rfl)
    (hf : X.fn x = true ∨ X.env.scope.names.lookup x = some .local := by first | exact .inl rfl | exact .inr rfl | assumption) : PS X (.Assign [.Name x pos'] e pos) (tS X.K E (setM i f)) := (ps_set hN hi hx he hs hf).imp tS_set
end

/-! ### x op= e at a name -/
def augM (g : D → D → Option (Bool × D)) (i : Nat) (f : M (Bool × D)) : M Fl := fun s => match s[i]? with
  | some (some (.io, _)) => .stuck
  | some (some (_, _)) => (f s).bind fun y s' => (match s'[i]? with
    | some (some (_, dx)) => (match g dx y.2 with
      | some (false, z) => (match putS s' i .sh z with | some s2 => .ok .nx s2 | none => .stuck)
      | _ => .stuck)
    | _ => .stuck)
  | _ => .stuck
def addI : D → D → Option (Bool × D)
  | .int i, .int j => some (false, .int (i + j))
  | .str x, .str y => if x.length + y.length ≤ sizeLine then some (false, .str (x ++ y)) else none
  | _, _ => none
def rAddI : TIp := fun x y H Q => rI0 (fun i j => .int (i + j)) x y H Q ∨ ∃ i j, x = .str i ∧ y = .str j ∧ i.length + j.length ≤ sizeLine ∧ Q (.str (i ++ j)) H
section
variable {X : Cx} {E : WX} {pos : Pos}
theorem ip_addI : PIp X .Add rAddI := fun pins s σ H x y v u Q I rx ry h => h.elim (iop_add pins s σ H x y v u Q I rx ry) (iop_add_str pins s σ H x y v u Q I rx ry)
theorem ip_subI : PIp X .Sub (rI0 fun i j => .int (i - j)) := fun pins s σ H x y v u Q I rx ry h => iop_sub pins s σ H x y v u Q I rx ry h
theorem opd_addI {K : PySem.W.Frag} : OpD K addI rAddI := by
  intro P B ia s σ H H0 Fs dx dy q x y F G Q R o1 o2 fr e k
  unfold addI at e
  split at e
  · cases e; exact .inl ⟨_, _, o1.int_inv, o2.int_inv, k _ _ (.flat .int fr R)⟩
  · split at e
    · rename_i hz
      cases e; exact .inr ⟨_, _, o1.str_inv, o2.str_inv, hz, k _ _ (.flat .str fr R)⟩
    · cases e
  · cases e
theorem tS_aug {K : PySem.W.Frag} {g : D → D → Option (Bool × D)} {ti : TIp} (ho : OpD K g ti) {i : Nat} {f : M (Bool × D)} (Dn : Ends) (σ : St) (H : Hp) (h : tS K E (augM g i f) Dn σ H) : tAug i (tD K E f) ti Dn σ H := by
  obtain ⟨P, B, ia, s, Fs, r, w⟩ := h
  unfold augM at w
  have go : ∀ (o : Own) (d : D), s[i]? = some (some (o, d)) → Post (XPd K P B ia H E) (SPd K P B ia H Dn) ((f s).bind fun y s' => match s'[i]? with
      | some (some (_, dx)) => (match g dx y.2 with
        | some (false, z) => (match putS s' i .sh z with | some s2 => .ok .nx s2 | none => .stuck)
        | _ => .stuck)
      | _ => .stuck) → tAug i (tD K E f) ti Dn σ H := by
    intro o d e w
    obtain ⟨v, F0, hv, _⟩ := r.opd e
    refine ⟨v, hv, P, B, ia, s, Fs, r, (Post.bind w).mono (fun _ _ q => q.to) fun y s' q u H' rv => ?_⟩
    obtain ⟨F, Fs', h1, h2, h3, h4, h5⟩ := rv
    match e2 : s'[i]? with
    | none => rw [e2] at q; exact q.elim
    | some none => rw [e2] at q; exact q.elim
    | some (some (o', dx)) =>
      simp only [e2] at q
      obtain ⟨v', G, hv', ov⟩ := h4.opd e2
      rw [hv] at hv'; cases hv'
      match e3 : g dx y.2 with
      | none => rw [e3] at q; exact q.elim
      | some (true, z) => rw [e3] at q; exact q.elim
      | some (false, z) =>
        simp only [e3] at q
        refine ho (h4.weak fun b m => .inl m) ov ⟨h1, h3, .inl (h4.noOwn fun a m => .inr m)⟩ h2 e3 fun w H2 rv2 => ?_
        obtain ⟨F2, Fs2, g1, g2, g3, g4, _⟩ := rv2
        match e4 : putS s' i .sh z with
        | none => rw [e4] at q; exact q.elim
        | some s2 =>
          simp only [e4] at q
          obtain ⟨x, e5, e6, e7⟩ := putS_inv e4
          subst e7
          exact q _ H2 _ g2 ((g4.weak fun b m => .inl m).set g1 (g4.noOwn fun a m => .inr m) g3 e5 e6 (by decide) fun n => absurd rfl n)
  match e : s[i]? with
  | some (some (.io, _)) => simp only [e] at w; exact w.elim
  | some (some (.sh, d)) => simp only [e] at w; exact go _ _ e w
  | some (some (.ow, d)) => simp only [e] at w; exact go _ _ e w
  | some none => simp only [e] at w; exact w.elim
  | none => simp only [e] at w; exact w.elim
theorem ds_aug {op : Operator} {g : D → D → Option (Bool × D)} {ti : TIp} {i : Nat} {x : Str} {e : Expr} {pos' : Pos} {f : M (Bool × D)} (hop : PIp X op ti) (ho : OpD X.K g ti) (he : PE X e (tD X.K E f)) (hN : X.N.Nodup) (hi : X.N[i]? = some x := by rfl)
    (hx : Loc X.env.scope x := by first | exact .inl rfl | exact .inr rfl) (hf : X.fn x = true ∨ X.env.scope.names.lookup x = some .local := by first | exact .inl rfl | exact .inr rfl | assumption) : PS X (.AugAssign (.Name x pos') op e pos) (tS X.K E (augM g i f)) := (ps_aug hN hi hx he hop hf).imp (tS_aug ho)
end

/-! ### targets -/
inductive Tg where
  | nm (i : Nat)
  | tp (ts : List Tg)
mutual
def Tg.put : Tg → D → S → Option S
  | .nm i, d, s => putS s i .sh d
  | .tp ts, d, s => match d with
    | .tup ds => Tg.puts ts ds s
    | _ => none
def Tg.puts : List Tg → List D → S → Option S
  | [], [], s => some s
  | t :: ts, d :: ds, s => (t.put d s).bind fun s' => Tg.puts ts ds s'
  | _, _, _ => none
end
mutual
def gT (K : PySem.W.Frag) : Tg → TG
  | .nm i => gName i
  | .tp ts => gTup K ts.length (gTs K ts)
def gTs (K : PySem.W.Frag) : List Tg → TGs
  | [] => gNil
  | t :: ts => gCons (gT K t) (gTs K ts)
end
theorem puts_len : ∀ {ts : List Tg} {ds : List D} {s s' : S}, Tg.puts ts ds s = some s' → ds.length = ts.length
  | [], [], _, _, _ => rfl
  | [], _ :: _, _, _, h => by simp [Tg.puts] at h
  | _ :: _, [], _, _, h => by simp [Tg.puts] at h
  | t :: ts, d :: ds, s, s', h => by
    rw [Tg.puts] at h
    obtain ⟨s1, e1, e2⟩ := Option.bind_eq_some_iff.mp h
    simp [puts_len e2]
mutual
theorem put_ok {K : PySem.W.Frag} {P B : Addr → Prop} {ia : Nat → Addr} {H : Hp} : ∀ {t : Tg} {d : D} {s s' : S} {σ : St} {Fs : Nat → List Addr} {x : V} {F : List Addr} {Q : St → Hp → Prop}, t.put d s = some s' → SR K P B ia s σ H Fs → Rep K H d x F → (∀ a, a ∈ F → P a) → (∀ a, a ∈ F → B a) →
    (∀ σ' Fs', SR K P B ia s' σ' H Fs' → Q σ' H) → gT K t x σ H Q
  | .nm i, d, s, s', σ, Fs, x, F, Q, h, r, hr, hp, hb, k => by
    rw [Tg.put] at h
    obtain ⟨y, e1, e2, e3⟩ := putS_inv h
    subst e3
    rw [gT]
    exact k _ _ (r.set hr (r.noOwn hp) hb e1 e2 (by decide) fun n => absurd rfl n)
  | .tp ts, d, s, s', σ, Fs, x, F, Q, h, r, hr, hp, hb, k => by
    cases d with
    | tup ds =>
      rw [Tg.put] at h
      cases hr with
      | @tup a _ vs F h1 h2 =>
        rw [gT]
        exact ⟨a, vs, rfl, h1, by rw [← h2.length]; exact puts_len h, puts_ok h r h2 hp hb k⟩
    | _ => simp [Tg.put] at h
theorem puts_ok {K : PySem.W.Frag} {P B : Addr → Prop} {ia : Nat → Addr} {H : Hp} : ∀ {ts : List Tg} {ds : List D} {s s' : S} {σ : St} {Fs : Nat → List Addr} {xs : List V} {F : List Addr} {Q : St → Hp → Prop}, Tg.puts ts ds s = some s' → SR K P B ia s σ H Fs → Reps K H ds xs F → (∀ a, a ∈ F → P a) → (∀ a, a ∈ F → B a) →
    (∀ σ' Fs', SR K P B ia s' σ' H Fs' → Q σ' H) → gTs K ts xs σ H Q
  | [], [], s, s', σ, Fs, xs, F, Q, h, r, hr, hp, hb, k => by
    cases hr
    rw [Tg.puts] at h; cases h
    rw [gTs]
    exact ⟨rfl, k σ Fs r⟩
  | [], _ :: _, _, _, _, _, _, _, _, h, _, _, _, _, _ => by simp [Tg.puts] at h
  | _ :: _, [], _, _, _, _, _, _, _, h, _, _, _, _, _ => by simp [Tg.puts] at h
  | t :: ts, d :: ds, s, s', σ, Fs, xs, F, Q, h, r, hr, hp, hb, k => by
    rw [Tg.puts] at h
    obtain ⟨s1, e1, e2⟩ := Option.bind_eq_some_iff.mp h
    cases hr with
    | @cons _ v F1 _ vs G h1 h2 =>
      rw [gTs]
      refine ⟨v, vs, rfl, put_ok e1 r h1 (fun a m => hp a (List.mem_append_left _ m)) (fun a m => hb a (List.mem_append_left _ m)) fun σ1 Fs1 r1 => ?_⟩
      exact puts_ok e2 r1 h2 (fun a m => hp a (List.mem_append_right _ m)) (fun a m => hb a (List.mem_append_right _ m)) k
end
/-- targets = e -/
def asgM (t : Tg) (f : M (Bool × D)) : M Fl := fun s => (f s).bind fun r s' => match t.put r.2 s' with
  | some s2 => .ok .nx s2
  | none => .stuck
section
variable {X : Cx} {E : WX} {pos : Pos}
theorem tS_asg {K : PySem.W.Frag} {t : Tg} {f : M (Bool × D)} (Dn : Ends) (σ : St) (H : Hp) (h : tS K E (asgM t f) Dn σ H) : tAsg (tD K E f) (gT K t) Dn σ H := by
  obtain ⟨P, B, ia, s, Fs, r, w⟩ := h
  refine ⟨P, B, ia, s, Fs, r, (Post.bind w).mono (fun _ _ q => q.to) fun a s' q v H' rv => ?_⟩
  obtain ⟨F, Fs', h1, h2, h3, h4, h5⟩ := rv
  split at q
  · rename_i s2 e
    exact put_ok e h4 h1 (fun a m => .inr m) h3 fun σ' Fs2 r2 => q σ' H' Fs2 h2 (r2.weak fun b m => .inl m)
  · exact q.elim
theorem ds_asg {tg e : Expr} {t : Tg} {f : M (Bool × D)} (he : PE X e (tD X.K E f)) (hg : PG X tg (gT X.K t)) (hs : swapsWithSole [tg] e pos.line X.env = pure false := by rfl) (hw : swappedStores [tg] e X.env = pure none := by rfl)
    (h1 : (assignEach [tg] X.env).map (·.2) = [assign tg X.env] := by rfl) : PS X (.Assign [tg] e pos) (tS X.K E (asgM t f)) := (ps_asg he hg hs hw h1).imp tS_asg
theorem dg_name {i : Nat} {x : Str} (hN : X.N.Nodup) (hi : X.N[i]? = some x := by rfl) (hx : Loc X.env.scope x := by first | exact .inl rfl | exact .inr rfl) (hf : X.fn x = true ∨ X.env.scope.names.lookup x = some .local := by first | exact .inl rfl | exact .inr rfl | assumption) : PG X (.Name x pos) (gT X.K (.nm i)) := by
  rw [gT]; exact pg_name hN hi hx hf
theorem dgs_nil : PGs X [] (gTs X.K []) := by rw [gTs]; exact pgs_nil
theorem dgs_cons {e : Expr} {es : List Expr} {t : Tg} {ts : List Tg} (h1 : PG X e (gT X.K t)) (h2 : PGs X es (gTs X.K ts)) (hs : (assignEach (e :: es) X.env).map (·.2) = assign e X.env :: (assignEach es X.env).map (·.2) := by rfl) : PGs X (e :: es) (gTs X.K (t :: ts)) := by
  rw [gTs]; exact pgs_cons h1 h2 hs
theorem dg_tup {es : List Expr} {k : Nat} {ts : List Tg} (hc : X.calm = true) (h : PGs X es (gTs X.K ts)) (hn : (assignEach es X.env).length = ts.length := by rfl) (hst : (assignEach es X.env).findIdx? (·.1) = none := by rfl) : PG X (.Tuple es k pos) (gT X.K (.tp ts)) := by
  rw [gT]; exact pg_tup hc h hn hst
end
end PV

/-! PV: loops and comprehensions by values. -/
namespace PV
open PySem PySem.Spec L2

/-! ### while -/
/-- one turn of a while, k behind it -/
def wstep (c : M Bool) (b : M Fl) (k : M Fl) : M Fl := fun s => (c s).bind fun t s1 => if t = true then (b s1).bind fun fl s2 => (match fl with
      | .bk => .ok .nx s2
      | .rt fr d => .ok (.rt fr d) s2
      | _ => k s2) else .ok .nx s1
def whileN (c : M Bool) (b : M Fl) : Nat → M Fl
  | 0 => fun _ => .stuck
  | n + 1 => wstep c b (whileN c b n)
def Res.isStuck {α : Type} : Res α → Prop
  | .stuck => True
  | _ => False
open Classical in
noncomputable def whileM (c : M Bool) (b : M Fl) : M Fl := fun s => if h : ∃ n, ¬ (whileN c b n s).isStuck then whileN c b h.choose s else .stuck
section
variable {c : M Bool} {b : M Fl}
theorem wstep_cases (c : M Bool) (b : M Fl) (s : S) : (∃ r, ∀ k, wstep c b k s = r) ∨ ∃ s2, ∀ k, wstep c b k s = k s2 := by
  unfold wstep
  cases c s with
  | stuck => exact .inl ⟨_, fun _ => rfl⟩
  | exc x s1 => exact .inl ⟨_, fun _ => rfl⟩
  | ok t s1 =>
    cases t with
    | false => exact .inl ⟨_, fun _ => rfl⟩
    | true =>
      simp only [Res.bind_ok, if_pos]
      cases b s1 with
      | stuck => exact .inl ⟨_, fun _ => rfl⟩
      | exc x s1 => exact .inl ⟨_, fun _ => rfl⟩
      | ok fl s2 =>
        cases fl with
        | bk => exact .inl ⟨_, fun _ => rfl⟩
        | rt fr d => exact .inl ⟨_, fun _ => rfl⟩
        | nx => exact .inr ⟨s2, fun _ => rfl⟩
        | ct => exact .inr ⟨s2, fun _ => rfl⟩
theorem whileN_succ : ∀ (n : Nat) (s : S), ¬ (whileN c b n s).isStuck → whileN c b (n + 1) s = whileN c b n s
  | 0, s, h => absurd trivial h
  | n + 1, s, h => by
    show wstep c b (whileN c b (n + 1)) s = wstep c b (whileN c b n) s
    rcases wstep_cases c b s with ⟨r, hr⟩ | ⟨s2, hr⟩
    · rw [hr, hr]
    · have h' : ¬ (wstep c b (whileN c b n) s).isStuck := h
      rw [hr] at h'
      rw [hr, hr, whileN_succ n s2 h']
theorem whileN_le {n m : Nat} (hm : n ≤ m) {s : S} (h : ¬ (whileN c b n s).isStuck) : whileN c b m s = whileN c b n s := by
  induction hm with
  | refl => rfl
  | step hm ih => rw [whileN_succ _ _ (by rw [ih]; exact h), ih]
theorem whileM_of {n : Nat} {s : S} (h : ¬ (whileN c b n s).isStuck) : whileM c b s = whileN c b n s := by
  unfold whileM
  have hx : ∃ n, ¬ (whileN c b n s).isStuck := ⟨n, h⟩
  rw [dif_pos hx]
  rcases Nat.le_total n hx.choose with q | q
  · exact whileN_le q h
  · exact (whileN_le q hx.choose_spec).symm
theorem whileM_no {s : S} (h : ∀ n, (whileN c b n s).isStuck) : whileM c b s = .stuck := by
  unfold whileM
  rw [dif_neg fun ⟨n, q⟩ => q (h n)]
theorem whileM_ex (s : S) (h : ¬ (whileM c b s).isStuck) : ∃ n, whileM c b s = whileN c b n s := by
  by_cases q : ∃ n, ¬ (whileN c b n s).isStuck
  · obtain ⟨n, q⟩ := q
    exact ⟨n, whileM_of q⟩
  · rw [whileM_no fun n => Classical.byContradiction fun z => q ⟨n, z⟩] at h
    exact absurd trivial h
theorem isStuck_eq {α : Type} {r : Res α} (h : r.isStuck) : r = .stuck := by
  cases r with
  | stuck => rfl
  | ok a s => exact h.elim
  | exc x s => exact h.elim
/-- one turn of a while -/
theorem whileM_eq (s : S) : whileM c b s = wstep c b (whileM c b) s := by
  by_cases q : ∃ n, ¬ (whileN c b n s).isStuck
  · obtain ⟨n, q⟩ := q
    rw [whileM_of q]
    cases n with
    | zero => exact absurd trivial q
    | succ n =>
      have q' : ¬ (wstep c b (whileN c b n) s).isStuck := q
      show wstep c b (whileN c b n) s = _
      rcases wstep_cases c b s with ⟨r, hr⟩ | ⟨s2, hr⟩
      · rw [hr, hr]
      · rw [hr] at q'
        rw [hr, hr, whileM_of q']
  · have h : ∀ n, (whileN c b n s).isStuck := fun n => Classical.byContradiction fun z => q ⟨n, z⟩
    rw [whileM_no h]
    rcases wstep_cases c b s with ⟨r, hr⟩ | ⟨s2, hr⟩
    · have := isStuck_eq (h 1)
      rw [hr]
      exact this.symm.trans (hr _)
    · rw [hr, whileM_no fun n => ?_]
      have := h (n + 1)
      have e : whileN c b (n + 1) s = whileN c b n s2 := hr _
      rw [e] at this
      exact this
theorem Post.notStuck {α : Type} {E : Exn → S → Prop} {Q : α → S → Prop} {r : Res α} (h : Post E Q r) : ¬ r.isStuck := by
  cases r with
  | stuck => exact fun _ => h
  | ok a s => exact fun q => q
  | exc x s => exact fun q => q
end
section
variable {X : Cx} {E : WX} {pos : Pos}
theorem tS_while {K : PySem.W.Frag} {c : M Bool} {b : M Fl} (Dn : Ends) (σ : St) (H : Hp) (h : tS K E (whileM c b) Dn σ H) : tWhile (tT K E c) (tS K E b) Dn σ H := by
  obtain ⟨P, B, ia, s, Fs, r, w⟩ := h
  obtain ⟨n, en⟩ := whileM_ex s w.notStuck
  rw [en] at w
  refine ⟨fun m σ' H' => ∃ s' Fs', Fr P H H' ∧ SR K P B ia s' σ' H' Fs' ∧ Post (XPd K P B ia H E) (SPd K P B ia H Dn) (whileN c b m s'), ⟨n, s, Fs, Fr.refl, r, w⟩, ?_⟩
  rintro m σ1 H1 ⟨s1, Fs1, fr1, r1, w1⟩
  cases m with
  | zero => exact w1.elim
  | succ m =>
    have w1 : Post _ _ ((c s1).bind _) := w1
    refine ⟨P, B, ia, s1, Fs1, r1, (Post.bind w1).mono (fun x s2 q => (q.step fr1).to) fun t s2 q H2 Fs2 fr2 r2 => ?_⟩
    cases t with
    | false =>
      rw [if_neg (by decide)] at q
      exact iteF (q σ1 H2 Fs2 (fr1.trans fr2) r2)
    | true =>
      rw [if_pos rfl] at q
      refine iteT ⟨fun σ' H' => ∃ s' Fs', Fr P H H' ∧ SR K P B ia s' σ' H' Fs' ∧ Post (XPd K P B ia H E) (SPd K P B ia H Dn) (whileN c b m s'), fun σ' H' hN => ⟨m, Nat.lt_succ_self m, hN⟩, P, B, ia, s2, Fs2, r2, ?_⟩
      refine (Post.bind q).mono (fun x s3 q => q.step (fr1.trans fr2)) fun fl s3 q => ?_
      cases fl with
      | nx => exact fun σ' H' Fs' fr r' => ⟨s3, Fs', (fr1.trans fr2).trans fr, r', q⟩
      | ct => exact fun σ' H' Fs' fr r' => ⟨s3, Fs', (fr1.trans fr2).trans fr, r', q⟩
      | bk => exact fun σ' H' Fs' fr r' => q σ' H' Fs' ((fr1.trans fr2).trans fr) r'
      | rt f d => exact fun v σ' H' rv => q v σ' H' (RV.step (P' := P) (fr1.trans fr2) rv)
theorem ds_while {t : Expr} {body : List Stmt} {c : M Bool} {b : M Fl} (hp : PassesOwn (model X.prog X.w) X.A X.env X.xe) (hc : PT X t (tT X.K E c)) (hb : PSs X body (tS X.K E b)) : PS X (.While t body [] pos) (tS X.K E (whileM c b)) := (ps_while hp hc hb).imp tS_while
end

/-! ### for -/
def forL (t : Tg) (b : M Fl) : List D → M Fl
  | [] => fun s => .ok .nx s
  | d :: ds => fun s => match t.put d s with
    | none => .stuck
    | some s1 => (b s1).bind fun fl s2 => (match fl with
      | .bk => .ok .nx s2
      | .rt fr d => .ok (.rt fr d) s2
      | _ => forL t b ds s2)
def forM (it : M (List D)) (t : Tg) (b : M Fl) : M Fl := fun s => (it s).bind fun ds s1 => forL t b ds s1
/-- what a walk hands out, turn by turn -/
def ItOK (K : PySem.W.Frag) (P B : Addr → Prop) (J : It) (ds : List D) (H : Hp) : Prop :=
  ∃ inv : Hp → Prop, inv H ∧ (∀ H1 H2, inv H1 → Fr P H1 H2 → inv H2) ∧ ∀ i H1, inv H1 →
    (∀ d, ds[i]? = some d → J.go i H1 ∧ ∀ x H2, J.yld i H1 x H2 → (H2 = H1 ∨ ∃ p o, H1 p = none ∧ H2 = upd H1 p o) ∧ ∃ F, Rep K H2 d x F ∧ (∀ a, a ∈ F → P a) ∧ ∀ a, a ∈ F → B a) ∧ (i = ds.length → J.stop i H1)
def tI (K : PySem.W.Frag) (E : WX) (it : M (List D)) : TI := fun σ H R => ∃ P B ia s Fs, SR K P B ia s σ H Fs ∧
  Post (fun x s' => ∀ cls dx H', RX K P B ia s' σ H H' x cls dx → E cls dx σ H') (fun ds s' => ∀ J H' P' Fs', (∀ b, P b → P' b) → Fr P H H' → SR K P' B ia s' σ H' Fs' → ItOK K P' B J ds H' → R J H') (it s)
section
variable {X : Cx} {E : WX} {pos : Pos}
theorem tS_for {K : PySem.W.Frag} {it : M (List D)} {t : Tg} {b : M Fl} (Dn : Ends) (σ : St) (H : Hp) (h : tS K E (forM it t b) Dn σ H) : tFor (tI K E it) (gT K t) (tS K E b) Dn σ H := by
  obtain ⟨P, B, ia, s, Fs, r, w⟩ := h
  refine ⟨P, B, ia, s, Fs, r, (Post.bind w).mono (fun _ _ q => q.to) fun ds s1 q J H1 P' Fs1 hP fr1 r1 ok => ?_⟩
  obtain ⟨inv, i0, keep, turn⟩ := ok
  refine ⟨fun i m σ' H' => m + i = ds.length ∧ ∃ s' Fs', Fr P H H' ∧ inv H' ∧ SR K P' B ia s' σ' H' Fs' ∧ Post (XPd K P B ia H E) (SPd K P B ia H Dn) (forL t b (ds.drop i) s'), ⟨ds.length, by simp, s1, Fs1, fr1, i0, r1, by simpa using q⟩, ?_⟩
  rintro i m σ2 H2 ⟨em, s2, Fs2, fr2, i2, r2, w2⟩
  obtain ⟨go, stop⟩ := turn i H2 i2
  cases e : ds[i]? with
  | none =>
    have hl : ds.length ≤ i := List.getElem?_eq_none_iff.mp e
    rw [List.drop_eq_nil_of_le hl, forL] at w2
    exact .inl ⟨stop (by omega), w2 σ2 H2 Fs2 fr2 (r2.weak hP)⟩
  | some d =>
    obtain ⟨g1, g2⟩ := go d e
    have hi : i < ds.length := (List.getElem?_eq_some_iff.mp e).1
    have ed : ds.drop i = d :: ds.drop (i + 1) := by
      rw [List.drop_eq_getElem_cons hi, (List.getElem?_eq_some_iff.mp e).2]
    rw [ed, forL] at w2
    refine .inr ⟨g1, fun σ' H' => ∃ s' Fs', Fr P H H' ∧ inv H' ∧ SR K P' B ia s' σ' H' Fs' ∧ Post (XPd K P B ia H E) (SPd K P B ia H Dn) (forL t b (ds.drop (i + 1)) s'), fun σ' H' hN => ⟨m - 1, by omega, by omega, hN⟩, fun x H3 y => ?_⟩
    obtain ⟨hH, F, rep, hp, hb⟩ := g2 x H3 y
    have fr3 : Fr P' H2 H3 := by
      rcases hH with e | ⟨p, o, np, e⟩
      · subst e; exact Fr.refl
      · subst e; exact Fr.new np r2.tr
    have r3 : SR K P' B ia s2 σ2 H3 Fs2 := by
      rcases hH with e | ⟨p, o, np, e⟩
      · subst e; exact r2
      · subst e; exact r2.new np
    dsimp only at w2
    split at w2
    · exact w2.elim
    · rename_i s3 e3
      refine put_ok e3 r3 rep hp hb fun σ4 Fs4 r4 => ⟨P', B, ia, s3, Fs4, r4, (Post.bind w2).mono (fun x s5 q => fun σ' cls dx H' rx => q σ' cls dx H' (rx.weak (fr2.trans (fr3.mono hP)) hP)) fun fl s5 q => ?_⟩
      have fr23 := fr2.trans (fr3.mono hP)
      cases fl with
      | nx => exact fun σ' H' Fs' fr r' => ⟨s5, Fs', fr23.trans (fr.mono hP), keep _ _ (keep _ _ i2 fr3) fr, r', q⟩
      | ct => exact fun σ' H' Fs' fr r' => ⟨s5, Fs', fr23.trans (fr.mono hP), keep _ _ (keep _ _ i2 fr3) fr, r', q⟩
      | bk => exact fun σ' H' Fs' fr r' => q σ' H' Fs' (fr23.trans (fr.mono hP)) (r'.weak hP)
      | rt f d =>
        refine fun v σ' H' rv => q v σ' H' ?_
        obtain ⟨F, Fs', h1, h2, h3, h4, h5⟩ := rv
        refine ⟨F, Fs', h1, fr23.trans (h2.mono hP), h3, h4.weak fun b m => m.elim (fun m => .inl (hP b m)) .inr, fun hf => ?_⟩
        obtain ⟨a, G, k1, k2, k3, k4, k5, k6⟩ := h5 hf
        exact ⟨a, G, k1, k2, k3, k4, fun m => k5 (hP a m), k6⟩
theorem ds_for {tg iter : Expr} {body : List Stmt} {it : M (List D)} {t : Tg} {b : M Fl} (hp : PassesOwn (model X.prog X.w) X.A X.env X.xe) (hc : X.calm = true) (hi : PI X tg iter (tI X.K E it)) (hg : PG X tg (gT X.K t)) (hb : PSs X body (tS X.K E b))
    (hs : ∀ x, foldedSetIterable iter X.env x = pure x := by intro _; rfl) : PS X (.For tg iter body [] pos) (tS X.K E (forM it t b)) := (ps_for hp hc hi hg hb hs).imp tS_for
theorem _root_.L2.PI.imp {tg e : Expr} {t t' : TI} (h : PI X tg e t) (q : ∀ σ H R, t' σ H R → t σ H R) : PI X tg e t' := ⟨fun pins s σ H R I w => h.run pins s σ H R I (q σ H R w)⟩
end

/-! ### what is walked -/
section
variable {K : PySem.W.Frag} {P B : Addr → Prop} {H : Hp} {ds : List D} {vs : List V} {F : List Addr} {a : Addr}
theorem it_list (h : H a = some (.lst vs)) (hr : Reps K H ds vs F) (pa : P a) (hp : ∀ a, a ∈ F → P a) (hb : ∀ a, a ∈ F → B a) : ItOK K P B (Itl K a) ds H := by
  refine ⟨fun H' => H' a = some (.lst vs) ∧ Reps K H' ds vs F, ⟨h, hr⟩, fun H1 H2 q fr => ⟨(fr.p a pa).trans q.1, Reps.keep fr.i q.2 fun b m => fr.p b (hp b m)⟩, fun i H1 q => ⟨fun d e => ?_, fun hl => ⟨vs, SqL.of q.1, by rw [← q.2.length]; exact Nat.le_of_eq hl.symm⟩⟩⟩
  obtain ⟨v, G, e1, e2, e3⟩ := q.2.get e
  refine ⟨⟨vs, v, SqL.of q.1, e1⟩, fun x H2 y => ?_⟩
  obtain ⟨rfl, y⟩ := y
  have := y vs (SqL.of q.1)
  rw [e1] at this; cases this
  exact ⟨.inl rfl, G, e2, fun b m => hp b (e3 b m), fun b m => hb b (e3 b m)⟩
theorem it_fro (h : Fz K H a vs) (hr : Reps K H ds vs F) (hp : ∀ a, a ∈ F → P a) (hb : ∀ a, a ∈ F → B a) : ItOK K P B (Itl K a) ds H := by
  refine ⟨fun H' => Fz K H' a vs ∧ Reps K H' ds vs F, ⟨h, hr⟩, fun H1 H2 q fr => ⟨fz_keep q.1 fr.i, Reps.keep fr.i q.2 fun b m => fr.p b (hp b m)⟩, fun i H1 q => ⟨fun d e => ?_, fun hl => ⟨vs, fz_sq q.1, by rw [← q.2.length]; exact Nat.le_of_eq hl.symm⟩⟩⟩
  obtain ⟨v, G, e1, e2, e3⟩ := q.2.get e
  refine ⟨⟨vs, v, fz_sq q.1, e1⟩, fun x H2 y => ?_⟩
  obtain ⟨rfl, y⟩ := y
  have := y vs (fz_sq q.1)
  rw [e1] at this; cases this
  exact ⟨.inl rfl, G, e2, fun b m => hp b (e3 b m), fun b m => hb b (e3 b m)⟩
theorem it_tup (h : SqT K H a vs) (hr : Reps K H ds vs F) (hp : ∀ a, a ∈ F → P a) (hb : ∀ a, a ∈ F → B a) : ItOK K P B (Itt K a) ds H := by
  refine ⟨fun H' => SqT K H' a vs ∧ Reps K H' ds vs F, ⟨h, hr⟩, fun H1 H2 q fr => ⟨sqT_keep q.1 fr.i, Reps.keep fr.i q.2 fun b m => fr.p b (hp b m)⟩, fun i H1 q => ⟨fun d e => ?_, fun hl => ⟨vs, q.1, by rw [← q.2.length]; exact Nat.le_of_eq hl.symm⟩⟩⟩
  obtain ⟨v, G, e1, e2, e3⟩ := q.2.get e
  refine ⟨⟨vs, v, q.1, e1⟩, fun x H2 y => ?_⟩
  obtain ⟨rfl, y⟩ := y
  have := y vs q.1
  rw [e1] at this; cases this
  exact ⟨.inl rfl, G, e2, fun b m => hp b (e3 b m), fun b m => hb b (e3 b m)⟩
/-- the signs of a text -/
def signs (x : Str) : List D := x.cps.toList.map fun c => .str ⟨#[c]⟩
theorem it_str {x : Str} : ItOK K P B (Its x) (signs x) H := by
  refine ⟨fun _ => True, trivial, fun _ _ _ _ => trivial, fun i H1 _ => ⟨fun d e => ?_, fun hl => ?_⟩⟩
  · unfold signs at e
    rw [List.getElem?_map] at e
    obtain ⟨c, e1, e2⟩ := Option.map_eq_some_iff.mp e
    have e3 : x.cps[i]? = some c := by simpa using e1
    refine ⟨(Array.getElem?_eq_some_iff.mp e3).1, fun v H2 y => ?_⟩
    obtain ⟨rfl, c', e4, rfl⟩ := y
    rw [e3] at e4; cases e4
    subst e2
    exact ⟨.inl rfl, [], .str, nofun, nofun⟩
  · show x.cps.size ≤ i
    simp [signs] at hl; omega
def intsD (lo : Int) (n : Nat) : List D := (List.range n).map fun i => .int (lo + (i : Nat))
theorem intsD_get {lo : Int} {n i : Nat} {d : D} (e : (intsD lo n)[i]? = some d) : i < n ∧ d = .int (lo + (i : Nat)) := by
  unfold intsD at e
  rw [List.getElem?_map] at e
  obtain ⟨c, e1, e2⟩ := Option.map_eq_some_iff.mp e
  obtain ⟨h1, h2⟩ := List.getElem?_eq_some_iff.mp e1
  simp at h1 h2
  subst h2
  exact ⟨h1, e2.symm⟩
theorem it_range {lo : Int} {n : Nat} : ItOK K P B (Itr lo n) (intsD lo n) H := by
  refine ⟨fun _ => True, trivial, fun _ _ _ _ => trivial, fun i H1 _ => ⟨fun d e => ?_, fun hl => ?_⟩⟩
  · obtain ⟨h1, rfl⟩ := intsD_get e
    refine ⟨h1, fun v H2 y => ?_⟩
    obtain ⟨rfl, rfl⟩ := y
    exact ⟨.inl rfl, [], .int, nofun, nofun⟩
  · show n ≤ i
    simp [intsD] at hl; omega
end
/-- for .. in e: a list, a tuple, a text -/
def itM (f : M (Bool × D)) : M (List D) := fun s => (f s).bind fun r s' => match r.2 with
  | .lst ds => .ok ds s'
  | .tup ds => .ok ds s'
  | .fro ds => .ok ds s'
  | .str x => .ok (signs x) s'
  | _ => .stuck
/-- range(n) -/
noncomputable def rng1M (f : M (Bool × D)) : M (List D) := fun s => (f s).bind fun r s' => match r.2 with
  | .int j => if gd (-(2 ^ 62) ≤ j ∧ j < 2 ^ 62) = true then .ok (intsD 0 j.toNat) s' else .stuck
  | _ => .stuck
section
variable {X : Cx} {E : WX} {pos : Pos} {tg : Expr}
theorem _root_.L2.PI.or {e : Expr} {t t' : TI} (h : PI X tg e t) (h' : PI X tg e t') : PI X tg e (fun σ H R => t σ H R ∨ t' σ H R) := ⟨fun pins s σ H R I w => w.elim (h.run pins s σ H R I) (h'.run pins s σ H R I)⟩
theorem di_it {e : Expr} {f : M (Bool × D)} (he : PE X e (tD X.K E f)) : PI X tg e (tI X.K E (itM f)) := ((pi_list he).or ((pi_tup he).or (pi_str he))).imp fun σ H R h => by
  obtain ⟨P, B, ia, s, Fs, r, w⟩ := h
  unfold itM at w
  have w' := Post.bind w
  cases e : f s with
  | stuck => rw [e] at w'; exact w'.elim
  | exc x s1 =>
    rw [e] at w'
    exact .inl ⟨P, B, ia, s, Fs, r, by rw [e]; exact w'⟩
  | ok a s1 =>
    rw [e] at w'
    obtain ⟨fr0, d⟩ := a
    simp only [Post.ok] at w'
    split at w'
    · rename_i ds
      refine .inl ⟨P, B, ia, s, Fs, r, ?_⟩
      rw [e]
      intro v H' rv
      obtain ⟨F, Fs', h1, h2, h3, h4, h5⟩ := rv
      cases h1 with
      | @lst a _ vs G g1 g2 => exact ⟨a, rfl, ⟨vs, SqL.of g1⟩, w' _ H' _ Fs' (fun b m => .inl m) h2 h4 (it_list g1 g2 (.inr List.mem_cons_self) (fun b m => .inr (List.mem_cons_of_mem _ m)) fun b m => h3 b (List.mem_cons_of_mem _ m))⟩
    · rename_i ds
      refine .inr (.inl ⟨P, B, ia, s, Fs, r, ?_⟩)
      rw [e]
      intro v H' rv
      obtain ⟨F, Fs', h1, h2, h3, h4, h5⟩ := rv
      cases h1 with
      | @tup a _ vs G g1 g2 => exact ⟨a, rfl, ⟨vs, g1⟩, w' _ H' _ Fs' (fun b m => .inl m) h2 h4 (it_tup g1 g2 (fun b m => .inr m) h3)⟩
    · rename_i ds
      refine .inl ⟨P, B, ia, s, Fs, r, ?_⟩
      rw [e]
      intro v H' rv
      obtain ⟨F, Fs', h1, h2, h3, h4, h5⟩ := rv
      cases h1 with
      | @lsz a _ vs G g1 g2 => exact ⟨a, rfl, ⟨vs, fz_sq g1⟩, w' _ H' _ Fs' (fun b m => .inl m) h2 h4 (it_fro g1 g2 (fun b m => .inr m) h3)⟩
    · rename_i x
      refine .inr (.inr ⟨P, B, ia, s, Fs, r, ?_⟩)
      rw [e]
      intro v H' rv
      obtain ⟨F, Fs', h1, h2, h3, h4, h5⟩ := rv
      cases h1
      exact ⟨x, rfl, w' _ H' P Fs' (fun b m => m) h2 (h4.weak fun b m => .inl m) it_str⟩
    · exact w'.elim
theorem di_rng1 {a : Expr} {f : M (Bool × D)} {p : Pos} (hg : Gl X "range") (hm : X.mg "range" = none) (ha : PE X a (tD X.K E f)) (hs : starEach [a] X.env = [(false, eval a X.env)] := by rfl) : PI X tg (.Call (.Name "range" p) [a] [] pos) (tI X.K E (rng1M f)) :=
  (pi_range1 hg hm (pa_cons ha pa_nil hs) hs).imp fun σ H R h => by
    obtain ⟨P, B, ia, s, Fs, r, w⟩ := h
    refine ⟨P, B, ia, s, Fs, r, (Post.bind w).mono (fun _ _ q => q) fun a s' q v H' rv => ?_⟩
    obtain ⟨F, Fs', h1, h2, h3, h4, h5⟩ := rv
    split at q
    · rename_i j ej
      rw [ej] at h1
      cases h1
      split at q
      · rename_i hj
        have hj := gd_iff.mp hj
        exact ⟨j, rfl, hj.1, hj.2, q _ H' P Fs' (fun b m => m) h2 (h4.weak fun b m => .inl m) it_range⟩
      · exact q.elim
    · exact q.elim
end
end PV

/-! PV: defs by values. -/
namespace PV
open PySem PySem.Spec L2

/-- what a def gives: a value (fr: its object is new) and what stands in the arguments that it changes; or an exception -/
inductive FRes where
  | ret (fr : Bool) (d : D) (outs : List D)
  | exc (x : Exn) (outs : List D)
  | stuck
abbrev FS := List D → FRes

/-- behind a call: H the heap ahead of it, vs the arguments, Fa their footprints, G, Go those of what came -/
structure FV0 (K : PySem.W.Frag) (ios : List Nat) (vs : List V) (Fa : Nat → List Addr) (H H' : Hp) (outs : List D) (Go : Nat → List Addr) : Prop where
  keep : ∀ b, H b ≠ none → (∀ j, j ∈ ios → vs[j]? ≠ some (.ref b)) → H' b = H b
  len : outs.length = ios.length
  out : ∀ (n j : Nat), ios[n]? = some j → ∃ (a : Addr) (d' : D) (T : List Addr), vs[j]? = some (.ref a) ∧ outs[n]? = some d' ∧ Go n = a :: T ∧ RepM K H' d' a T ∧ a ∉ T ∧ (∀ b, b ∈ T → (∃ i, b ∈ Fa i) ∨ H b = none) ∧ ∀ m, m ≠ n → m < ios.length → a ∉ Go m
structure FV (K : PySem.W.Frag) (ios : List Nat) (vs : List V) (Fa : Nat → List Addr) (H H' : Hp) (fr : Bool) (d : D) (outs : List D) (v : V) (G : List Addr) (Go : Nat → List Addr) : Prop extends FV0 K ios vs Fa H H' outs Go where
  rep : Rep K H' d v G
  gin : ∀ b, b ∈ G → (∃ i, b ∈ Fa i) ∨ H b = none
  gio : ∀ (n j : Nat) (a : Addr), ios[n]? = some j → vs[j]? = some (.ref a) → a ∉ G
  own : fr = true → ∃ a T, v = .ref a ∧ G = a :: T ∧ RepM K H' d a T ∧ a ∉ T ∧ H a = none ∧ ∀ n, n < ios.length → a ∉ Go n
/-- a def's promise by its function F; ios: the parameters whose objects it may change -/
def spF (K : PySem.W.Frag) (ios : List Nat) (n : Nat) (F : FS) : Sp := fun vs H Q E => vs.length = n ∧ ∃ (ds : List D) (Fa : Nat → List Addr), ds.length = n ∧ (∀ i d, ds[i]? = some d → ∃ v, vs[i]? = some v ∧ Rep K H d v (Fa i)) ∧ (∀ i, n ≤ i → Fa i = []) ∧
  (∀ j, j ∈ ios → ∃ a T d, ds[j]? = some d ∧ vs[j]? = some (.ref a) ∧ Fa j = a :: T ∧ RepM K H d a T ∧ a ∉ T ∧ ∀ i, i ≠ j → a ∉ Fa i) ∧
  match F ds with
  | .ret fr d outs => ∀ v H' G Go, FV K ios vs Fa H H' fr d outs v G Go → Q v H'
  | .exc x outs => ∀ cls dx H' Go, FV0 K ios vs Fa H H' outs Go → XRep K H' x cls dx → E cls dx H'
  | .stuck => False

/-! ### the body -/
def initS (ios : List Nat) (m : Nat) (ds : List D) : S := ds.mapIdx (fun i d => some (if i ∈ ios then Own.io else Own.sh, d)) ++ List.replicate (m - ds.length) none
def outsOf (s : S) : List Nat → Option (List D)
  | [] => some []
  | i :: is => match s[i]? with
    | some (some (.io, d)) => (outsOf s is).map fun ds => d :: ds
    | _ => none
/-- a def's function from its body's: n parameters, m slots in all -/
def runF (ios : List Nat) (n m : Nat) (f : M Fl) : FS := fun ds => if ds.length = n then (match f (initS ios m ds) with
  | .ok (.rt fr d) s => (match outsOf s ios with
    | some outs => .ret fr d outs
    | none => .stuck)
  | .ok .nx s => (match outsOf s ios with
    | some outs => .ret false .non outs
    | none => .stuck)
  | .exc x s => (match outsOf s ios with
    | some outs => .exc x outs
    | none => .stuck)
  | _ => .stuck) else .stuck
theorem outsOf_get {s : S} : ∀ {ios : List Nat} {outs : List D}, outsOf s ios = some outs → outs.length = ios.length ∧ ∀ (n i : Nat), ios[n]? = some i → ∃ d : D, outs[n]? = some d ∧ s[i]? = some (some (Own.io, d))
  | [], outs, h => by cases h; exact ⟨rfl, fun n i e => by simp at e⟩
  | i :: is, outs, h => by
    rw [outsOf] at h
    split at h
    · rename_i d e
      obtain ⟨ds, e1, e2⟩ := Option.map_eq_some_iff.mp h
      subst e2
      obtain ⟨l, g⟩ := outsOf_get e1
      refine ⟨by simp [l], fun n j q => ?_⟩
      cases n with
      | zero =>
        simp at q; subst q
        exact ⟨d, rfl, e⟩
      | succ n =>
        obtain ⟨d', g1, g2⟩ := g n j (by simpa using q)
        exact ⟨d', by simpa using g1, g2⟩
    · cases h
section
variable {K : PySem.W.Frag} {ios : List Nat} {vs : List V} {Fa : Nat → List Addr} {H : Hp} {ds : List D} {N : List Str} {n : Nat}
theorem initS_get {m i : Nat} {x : Slot} (h : (initS ios m ds)[i]? = some x) : (∃ d, ds[i]? = some d ∧ x = some (if i ∈ ios then Own.io else Own.sh, d)) ∨ (ds.length ≤ i ∧ x = none) := by
  unfold initS at h
  by_cases hi : i < ds.length
  · left
    rw [List.getElem?_append_left (by simpa using hi)] at h
    rw [List.getElem?_mapIdx] at h
    obtain ⟨d, e1, e2⟩ := Option.map_eq_some_iff.mp h
    exact ⟨d, e1, e2.symm⟩
  · right
    rw [List.getElem?_append_right (by simpa using hi)] at h
    rw [List.getElem?_replicate] at h
    split at h
    · cases h; exact ⟨Nat.le_of_not_lt hi, rfl⟩
    · cases h
/-- the state at a body's start -/
theorem SR.start (hv : vs.length = n) (hd : ds.length = n) (hN : n ≤ N.length) (rep : ∀ i d, ds[i]? = some d → ∃ v, vs[i]? = some v ∧ Rep K H d v (Fa i)) (out : ∀ i, n ≤ i → Fa i = [])
    (io : ∀ j, j ∈ ios → ∃ a T d, ds[j]? = some d ∧ vs[j]? = some (.ref a) ∧ Fa j = a :: T ∧ RepM K H d a T ∧ a ∉ T ∧ ∀ i, i ≠ j → a ∉ Fa i) :
    SR K (fun b => H b ≠ none ∧ ∀ j, j ∈ ios → vs[j]? ≠ some (.ref b)) (fun b => (∃ i, b ∈ Fa i) ∨ H b = none) (fun i => match vs[i]? with | some (.ref a) => a | _ => 0) (initS ios N.length ds) (L2.start N vs) H Fa := by
  have st : ∀ {i : Nat} {v : V}, vs[i]? = some v → (L2.start N vs)[i]? = some (some v) := fun {i v} h => by
    unfold L2.start
    have hi : i < vs.length := (List.getElem?_eq_some_iff.mp h).1
    rw [List.getElem?_append_left (by simpa using hi), List.getElem?_map, h]; rfl
  refine ⟨?_, fun i o d e => ?_, fun i o d e ne => ?_, fun i d e => ?_, fun i q => ?_, fun j a m => .inl ⟨j, m⟩, fun b q => q.1, fun b q => .inr q⟩
  · unfold initS L2.start
    simp [hv, hd]
  · rcases initS_get e with ⟨d', e1, e2⟩ | ⟨_, e2⟩
    · cases e2
      obtain ⟨v, h1, h2⟩ := rep i d e1
      exact ⟨v, st h1, h2⟩
    · cases e2
  · rcases initS_get e with ⟨d', e1, e2⟩ | ⟨_, e2⟩
    · have hm : i ∈ ios := by
        by_cases hm : i ∈ ios
        · exact hm
        · rw [if_neg hm] at e2; cases e2; exact absurd rfl ne
      rw [if_pos hm] at e2; cases e2
      obtain ⟨a, T, d2, h1, h2, h3, h4, h5, h6⟩ := io i hm
      rw [e1] at h1; cases h1
      exact ⟨a, T, st h2, h3, h4, h5, fun q => q.2 i hm h2, h6⟩
    · cases e2
  · rcases initS_get e with ⟨d', e1, e2⟩ | ⟨_, e2⟩
    · have hm : i ∈ ios := by
        by_cases hm : i ∈ ios
        · exact hm
        · rw [if_neg hm] at e2; cases e2
      obtain ⟨a, T, d2, h1, h2, h3, h4, h5, h6⟩ := io i hm
      rw [st h2, h2]
    · cases e2
  · refine out i (Nat.le_of_not_lt fun hi => ?_)
    have e0 : ds[i]? = some ds[i] := List.getElem?_eq_getElem (by rw [hd]; exact hi)
    refine q (if i ∈ ios then Own.io else Own.sh) ds[i] ?_
    unfold initS
    rw [List.getElem?_append_left (by simpa [hd] using hi), List.getElem?_mapIdx, e0]; rfl
end
/-- what a body's end gives its caller -/
theorem fv0_of {K : PySem.W.Frag} {ios : List Nat} {vs : List V} {Fa : Nat → List Addr} {H H' : Hp} {s : S} {σ : St} {Fs : Nat → List Addr} {P : Addr → Prop} {outs : List D} (nd : ios.Nodup)
    (fr : Fr (fun b => H b ≠ none ∧ ∀ j, j ∈ ios → vs[j]? ≠ some (.ref b)) H H') (r : SR K P (fun b => (∃ i, b ∈ Fa i) ∨ H b = none) (fun i => match vs[i]? with | some (.ref a) => a | _ => 0) s σ H' Fs) (ho : outsOf s ios = some outs)
    (hio : ∀ j, j ∈ ios → ∃ a, vs[j]? = some (.ref a)) : FV0 K ios vs Fa H H' outs (fun n => match ios[n]? with | some j => Fs j | none => []) := by
  obtain ⟨l, g⟩ := outsOf_get ho
  refine ⟨fun b h1 h2 => fr.p b ⟨h1, h2⟩, l, fun n j e => ?_⟩
  obtain ⟨d, g1, g2⟩ := g n j e
  obtain ⟨a, T, h1, h2, h3, h4, h5, h6⟩ := r.own j _ d g2 (by decide)
  have ev := r.iov j d g2
  obtain ⟨a', ea⟩ := hio j (List.mem_of_getElem? e)
  rw [ea] at ev
  rw [h1] at ev
  cases ev
  refine ⟨_, d, T, ea, g1, by rw [e]; exact h2, h3, h4, fun b m => r.inB j b (by rw [h2]; exact List.mem_cons_of_mem _ m), fun m hm hl => ?_⟩
  rw [List.getElem?_eq_getElem hl]
  refine h6 _ fun q => hm ?_
  have e' : ios[m]? = some j := by rw [List.getElem?_eq_getElem hl, q]
  obtain ⟨hn, en⟩ := List.getElem?_eq_some_iff.mp e
  exact (List.getElem_inj nd).mp ((show ios[m] = ios[n] from q.trans en.symm))
section
variable {P : Program} {w : World} {K : PySem.W.Frag} {mg : Str → Option Value} {base : Heap} {x qual : Str} {params : Arguments} {body : List Stmt} {scope : Scope} {f : Addr} {fd : FuncData}
/-- THE RULE for a def: its body by a function keeps the promise by this function -/
theorem fn_okD {N ps : List Str} {k : Nat} {ios : List Nat} {g : M Fl} (F : FunD K x qual params body scope [] [] f fd) (S : FnScope N ps scope) (nd : ios.Nodup) (hN : ps.length ≤ N.length)
    (hbody : ∀ (cdv : Value) (A : Around) (outer : List Env) (s : Shared) (H : Hp) (E : XK), Room k (A.deeper (PyProof.Rows.envOfC qual scope s.heap.objs.size f cdv)) → PSs (cxOf (L2.CX P w) P w K mg base N qual scope f cdv A outer s H E) body (tS K (fun cls d _ H => E cls d H) g)) :
    FnOk P w K mg base (L2.CX P w) (k + 1) f fd ps (spF K ios ps.length (runF ios ps.length N.length g)) := by
  refine F.ok S (fun vs H Q E h => h.1) fun cdv A outer s H vs Q E hr h => ?_
  obtain ⟨hv, ds, Fa, hd, rep, out, io, h⟩ := h
  refine ⟨_, hbody cdv A outer s H E hr, ?_⟩
  have r := SR.start (N := N) hv hd hN rep out io
  have hio : ∀ j, j ∈ ios → ∃ a, vs[j]? = some (.ref a) := fun j hj => let ⟨a, _, _, _, e, _⟩ := io j hj; ⟨a, e⟩
  refine ⟨_, _, _, _, Fa, r, ?_⟩
  unfold runF at h
  rw [if_pos hd] at h
  cases e : g (initS ios N.length ds) with
  | stuck => rw [e] at h; exact h.elim
  | exc y s' =>
    rw [e] at h
    dsimp only at h
    cases eo : outsOf s' ios with
    | none => rw [eo] at h; exact h.elim
    | some outs =>
      rw [eo] at h
      intro σ' cls dx H' rx
      obtain ⟨Fs', h1, h2, h3⟩ := rx
      exact h cls dx H' _ (fv0_of nd h1 h2 eo hio) h3
  | ok fl s' =>
    rw [e] at h
    cases fl with
    | bk => exact h.elim
    | ct => exact h.elim
    | nx =>
      dsimp only at h
      cases eo : outsOf s' ios with
      | none => rw [eo] at h; exact h.elim
      | some outs =>
        rw [eo] at h
        intro σ' H' Fs' fr r'
        exact h .non H' [] _ ⟨fv0_of nd fr r' eo hio, .non, nofun, fun _ _ _ _ _ => List.not_mem_nil, nofun⟩
    | rt fr d =>
      dsimp only at h
      cases eo : outsOf s' ios with
      | none => rw [eo] at h; exact h.elim
      | some outs =>
        rw [eo] at h
        intro v σ' H' rv
        obtain ⟨G, Fs', h1, h2, h3, h4, h5⟩ := rv
        refine h v H' G _ ⟨fv0_of nd h2 h4 eo hio, h1, h3, fun n j a e1 e2 => ?_, fun hf => ?_⟩
        · obtain ⟨_, g⟩ := outsOf_get eo
          obtain ⟨d', g1, g2⟩ := g n j e1
          obtain ⟨a', T, k1, k2, k3, k4, k5, k6⟩ := h4.own j _ d' g2 (by decide)
          have ev := h4.iov j d' g2
          rw [e2, k1] at ev
          cases ev
          exact fun m => k5 (.inr m)
        · obtain ⟨a, T, k1, k2, k3, k4, k5, k6⟩ := h5 hf
          refine ⟨a, T, k1, k2, k3, k4, ?_, fun n hn => ?_⟩
          · refine Classical.byContradiction fun q => k5 ⟨q, fun j hj e => ?_⟩
            obtain ⟨n, hn⟩ := List.getElem?_of_mem hj
            obtain ⟨_, g⟩ := outsOf_get eo
            obtain ⟨d', g1, g2⟩ := g n j hn
            obtain ⟨a', T', m1, m2, m3, m4, m5, m6⟩ := h4.own j _ d' g2 (by decide)
            have ev := h4.iov j d' g2
            rw [e, m1] at ev
            cases ev
            exact k6 j (by rw [m2]; exact List.mem_cons_self)
          · rw [List.getElem?_eq_getElem hn]
            exact k6 _
end

/-! ### the call -/
def ioSlots : List Opd → List Nat
  | [] => []
  | .ex _ :: os => ioSlots os
  | .sl i :: os => i :: ioSlots os
def ioPos : List Opd → Nat → List Nat
  | [], _ => []
  | .ex _ :: os, n => ioPos os (n + 1)
  | .sl _ :: os, n => n :: ioPos os (n + 1)
def isMut (s : S) (i : Nat) : Bool := match s[i]? with
  | some (some (o, _)) => decide (o ≠ .sh)
  | _ => false
def wb (s : S) : List Nat → List D → Option S
  | [], [] => some s
  | i :: is, d :: ds => (match s[i]? with
    | some (some (o, _)) => wb (s.set i (some (o, d))) is ds
    | _ => none)
  | _, _ => none
def callM (F : FS) (os : List Opd) : M (Bool × D) := opsM os fun ds s => if decide (ioSlots os).Nodup && (ioSlots os).all (isMut s) then (match F ds with
  | .ret fr d outs => (match wb s (ioSlots os) outs with
    | some s' => .ok (fr, d) s'
    | none => .stuck)
  | .exc x outs => (match wb s (ioSlots os) outs with
    | some s' => .exc x s'
    | none => .stuck)
  | .stuck => .stuck) else .stuck
theorem ioPos_get : ∀ {os : List Opd} {c n j : Nat}, (ioPos os c)[n]? = some j → ∃ i k, j = c + k ∧ os[k]? = some (.sl i) ∧ (ioSlots os)[n]? = some i
  | [], c, n, j, h => by simp [ioPos] at h
  | .ex f :: os, c, n, j, h => by
    obtain ⟨i, k, e1, e2, e3⟩ := ioPos_get (os := os) (c := c + 1) h
    exact ⟨i, k + 1, by omega, by simpa using e2, e3⟩
  | .sl i :: os, c, 0, j, h => by
    simp [ioPos] at h
    exact ⟨i, 0, by omega, rfl, rfl⟩
  | .sl i :: os, c, n + 1, j, h => by
    obtain ⟨i', k, e1, e2, e3⟩ := ioPos_get (os := os) (c := c + 1) (n := n) (j := j) (by simpa [ioPos] using h)
    exact ⟨i', k + 1, by omega, by simpa using e2, by simpa [ioSlots] using e3⟩
theorem ioPos_len : ∀ {os : List Opd} {c : Nat}, (ioPos os c).length = (ioSlots os).length
  | [], _ => rfl
  | .ex f :: os, c => ioPos_len (os := os)
  | .sl i :: os, c => by simp [ioPos, ioSlots, ioPos_len (os := os)]
theorem ioPos_of : ∀ {os : List Opd} {c k i : Nat}, os[k]? = some (.sl i) → ∃ n : Nat, (ioPos os c)[n]? = some (c + k) ∧ (ioSlots os)[n]? = some i
  | [], c, k, i, h => by simp at h
  | .ex f :: os, c, 0, i, h => by simp at h
  | .ex f :: os, c, k + 1, i, h => by
    obtain ⟨n, e1, e2⟩ := ioPos_of (os := os) (c := c + 1) (k := k) (by simpa using h)
    exact ⟨n, by rw [ioPos, e1]; congr 1; omega, e2⟩
  | .sl j :: os, c, 0, i, h => by
    simp at h; subst h
    exact ⟨0, rfl, rfl⟩
  | .sl j :: os, c, k + 1, i, h => by
    obtain ⟨n, e1, e2⟩ := ioPos_of (os := os) (c := c + 1) (k := k) (by simpa using h)
    exact ⟨n + 1, by simp [ioPos, e1]; omega, by simpa [ioSlots] using e2⟩
theorem ioPos_nd : ∀ {os : List Opd} {c : Nat}, (ioPos os c).Nodup ∧ ∀ j, j ∈ ioPos os c → c ≤ j
  | [], _ => ⟨List.nodup_nil, fun _ h => by cases h⟩
  | .ex f :: os, c => ⟨(ioPos_nd (os := os)).1, fun j h => Nat.le_of_succ_le ((ioPos_nd (os := os)).2 j h)⟩
  | .sl i :: os, c => by
    obtain ⟨h1, h2⟩ := ioPos_nd (os := os) (c := c + 1)
    refine ⟨List.nodup_cons.mpr ⟨fun m => ?_, h1⟩, fun j h => ?_⟩
    · have := h2 c m; omega
    · rcases List.mem_cons.mp h with rfl | h
      · exact Nat.le_refl _
      · exact Nat.le_of_succ_le (h2 j h)
theorem wb_get : ∀ {is : List Nat} {ds : List D} {s s' : S}, wb s is ds = some s' → is.Nodup → s'.length = s.length ∧ ds.length = is.length ∧
    (∀ (n i : Nat), is[n]? = some i → ∃ o d d', s[i]? = some (some (o, d)) ∧ ds[n]? = some d' ∧ s'[i]? = some (some (o, d'))) ∧ ∀ j, j ∉ is → s'[j]? = s[j]?
  | [], [], s, s', h, _ => by
    cases h
    exact ⟨rfl, rfl, fun n i e => by simp at e, fun _ _ => rfl⟩
  | [], _ :: _, _, _, h, _ => by simp [wb] at h
  | _ :: _, [], _, _, h, _ => by simp [wb] at h
  | i :: is, d :: ds, s, s', h, nd => by
    rw [wb] at h
    split at h
    · rename_i o d0 e
      obtain ⟨n1, n2⟩ := List.nodup_cons.mp nd
      obtain ⟨h1, h2, h3, h4⟩ := wb_get h n2
      refine ⟨by rw [h1]; simp, by simp [h2], fun n j q => ?_, fun j hj => ?_⟩
      · cases n with
        | zero =>
          simp at q; subst q
          exact ⟨o, d0, d, e, rfl, by rw [h4 i n1]; exact get_set_eq e⟩
        | succ n =>
          obtain ⟨o', d1, d2, g1, g2, g3⟩ := h3 n j (by simpa using q)
          have hne : j ≠ i := fun z => n1 (by subst z; exact List.mem_of_getElem? (by simpa using q))
          exact ⟨o', d1, d2, by rw [get_set_ne hne] at g1; exact g1, by simpa using g2, g3⟩
      · have h5 : j ≠ i := fun z => hj (by subst z; exact List.mem_cons_self)
        rw [h4 j fun m => hj (List.mem_cons_of_mem _ m), get_set_ne h5]
    · cases h
/-- the arguments' footprints -/
def argF (Fs : Nat → List Addr) : List Opd → List (List Addr) → Nat → List Addr
  | .ex _ :: _, G :: _, 0 => G
  | .sl i :: _, _ :: _, 0 => Fs i
  | _ :: os, _ :: Gs, j + 1 => argF Fs os Gs j
  | _, _, _ => []
section
variable {K : PySem.W.Frag} {P B : Addr → Prop} {ia : Nat → Addr} {s s' : S} {σ : St} {H H' : Hp} {Fs : Nat → List Addr}
theorem OVs.arg (r : SR K P B ia s σ H Fs) : ∀ {os : List Opd} {ds : List D} {vs : List V} {Gs : List (List Addr)}, OVs K B s σ H os ds vs Gs →
    (∀ (i : Nat) (d : D), ds[i]? = some d → ∃ v, vs[i]? = some v ∧ Rep K H d v (argF Fs os Gs i)) ∧ (∀ i, os.length ≤ i → argF Fs os Gs i = []) ∧
    (∀ (j i : Nat), os[j]? = some (.sl i) → argF Fs os Gs j = Fs i ∧ ∃ (w : Own) (d : D) (v : V), s[i]? = some (some (w, d)) ∧ ds[j]? = some d ∧ vs[j]? = some v ∧ σ[i]? = some (some v)) ∧
    (∀ (j : Nat), (∀ i, os[j]? ≠ some (.sl i)) → NoOwn s σ (argF Fs os Gs j)) ∧ (∀ (j : Nat) (a : Addr), a ∈ argF Fs os Gs j → B a)
  | _, _, _, _, .nil => ⟨fun i d e => by simp at e, fun i _ => by simp [argF], fun j i e => by simp at e, fun j _ => by simp [argF]; exact .nil, fun j a m => by simp [argF] at m⟩
  | o :: os, d :: ds, v :: vs, F :: Gs, .cons h1 h2 h3 h4 => by
    obtain ⟨g1, g2, g3, g4, g5⟩ := OVs.arg r h4
    refine ⟨fun i d' e => ?_, fun i hi => ?_, fun j i e => ?_, fun j e => ?_, fun j a m => ?_⟩
    · cases i with
      | zero =>
        simp at e; subst e
        refine ⟨v, rfl, ?_⟩
        cases o with
        | ex f => exact h1.rep
        | sl i =>
          obtain ⟨w, e1, e2⟩ := h3 i rfl
          obtain ⟨v', k1, k2⟩ := r.rep i w d e1
          rw [e2] at k1; cases k1
          exact k2
      | succ i =>
        obtain ⟨v', k1, k2⟩ := g1 i d' (by simpa using e)
        exact ⟨v', by simpa using k1, by cases o <;> exact k2⟩
    · cases i with
      | zero => simp at hi
      | succ i =>
        have := g2 i (by simpa using hi)
        cases o <;> exact this
    · cases j with
      | zero =>
        simp at e; subst e
        obtain ⟨w, e1, e2⟩ := h3 i rfl
        exact ⟨rfl, w, d, v, e1, rfl, rfl, e2⟩
      | succ j =>
        obtain ⟨k1, k2⟩ := g3 j i (by simpa using e)
        exact ⟨by cases o <;> exact k1, by simpa using k2⟩
    · cases j with
      | zero =>
        cases o with
        | ex f => exact h2 rfl
        | sl i => exact absurd rfl (e i)
      | succ j =>
        have := g4 j fun i z => e i (by simpa using z)
        cases o <;> exact this
    · cases j with
      | zero =>
        cases o with
        | ex f => exact h1.inB a m
        | sl i => exact r.inB i a m
      | succ j => exact g5 j a (by cases o <;> exact m)
theorem isMut_inv {i : Nat} (h : isMut s i = true) : ∃ o d, s[i]? = some (some (o, d)) ∧ o ≠ Own.sh := by
  unfold isMut at h
  split at h
  · rename_i o d e; exact ⟨o, d, e, of_decide_eq_true h⟩
  · cases h
open Classical in
/-- behind the call -/
theorem SR.call {os : List Opd} {ds : List D} {vs : List V} {Gs : List (List Addr)} {outs : List D} {Go : Nat → List Addr} (r : SR K P B ia s σ H Fs) (ov : OVs K B s σ H os ds vs Gs) (nd : (ioSlots os).Nodup) (mu : ∀ i, i ∈ ioSlots os → isMut s i = true)
    (fv : FV0 K (ioPos os 0) vs (argF Fs os Gs) H H' outs Go) (w : wb s (ioSlots os) outs = some s') :
    ∃ Fs', SR K P B ia s' σ H' Fs' ∧ Fr P H H' ∧ (∀ j, j ∉ ioSlots os → Fs' j = Fs j) ∧ ∀ n i, (ioSlots os)[n]? = some i → Fs' i = Go n := by
  obtain ⟨w1, w2, w3, w4⟩ := wb_get w nd
  obtain ⟨a1, a2, a3, a4, a5⟩ := ov.arg r
  have uq : ∀ {n m i : Nat}, (ioSlots os)[n]? = some i → (ioSlots os)[m]? = some i → n = m := fun {n m i} h h' => nd_ix nd h h'
  -- what an io slot holds
  have io : ∀ {n i : Nat}, (ioSlots os)[n]? = some i → ∃ j a d o, (ioPos os 0)[n]? = some j ∧ vs[j]? = some (.ref a) ∧ σ[i]? = some (some (.ref a)) ∧ s[i]? = some (some (o, d)) ∧ o ≠ Own.sh ∧ os[j]? = some (.sl i) := by
    intro n i h
    have hl : n < (ioPos os 0).length := by rw [ioPos_len]; exact (List.getElem?_eq_some_iff.mp h).1
    have e0 : (ioPos os 0)[n]? = some (ioPos os 0)[n] := List.getElem?_eq_getElem hl
    obtain ⟨i', k, e1, e2, e3⟩ := ioPos_get e0
    rw [h] at e3; cases e3
    rw [Nat.zero_add] at e1
    obtain ⟨_, w', d, v, b1, b2, b3, b4⟩ := a3 k i e2
    obtain ⟨o, d', c1, c2⟩ := isMut_inv (mu i (List.mem_of_getElem? h))
    obtain ⟨a, F, q1, _⟩ := r.own i o d' c1 c2
    rw [b4] at q1; cases q1
    exact ⟨k, a, d', o, by rw [e0, e1], b3, b4, c1, c2, e2⟩
  -- the io objects' addresses
  have isTop : ∀ {b : Addr}, (∀ (n i : Nat), (ioSlots os)[n]? = some i → σ[i]? ≠ some (some (V.ref b))) → ∀ (j : Nat), j ∈ ioPos os 0 → vs[j]? ≠ some (.ref b) := by
    intro b hb j hj e
    obtain ⟨n, hn⟩ := List.getElem?_of_mem hj
    have hl : n < (ioSlots os).length := by rw [← ioPos_len (c := 0)]; exact (List.getElem?_eq_some_iff.mp hn).1
    have e1 : (ioSlots os)[n]? = some (ioSlots os)[n] := List.getElem?_eq_getElem hl
    obtain ⟨j', a, d, o, q1, q2, q3, q4, q5, _⟩ := io e1
    rw [hn] at q1; cases q1
    rw [e] at q2; cases q2
    exact hb n _ e1 q3
  have keepF : ∀ j, j ∉ ioSlots os → ∀ b, b ∈ Fs j → H' b = H b := by
    intro j hj b m
    refine fv.keep b (r.trF m) (isTop fun n i h e => ?_)
    obtain ⟨j', a, d, o, q1, q2, q3, q4, q5, _⟩ := io h
    rw [e] at q3; cases q3
    obtain ⟨a', F, g1, g2, g3, g4, g5, g6⟩ := r.own i o d q4 q5
    rw [e] at g1; cases g1
    exact g6 j (fun z => hj (by rw [z]; exact List.mem_of_getElem? h)) m
  have fr : Fr P H H' := by
    refine ⟨fun b hb => fv.keep b (r.tr b hb) (isTop fun n i h e => ?_), fun b o hb hi => ?_⟩
    · obtain ⟨j', a, d, o, q1, q2, q3, q4, q5, _⟩ := io h
      rw [e] at q3; cases q3
      exact r.noOwn (F := [b]) (fun a m => by rw [List.mem_singleton.mp m]; exact hb) i o d b q4 q5 e List.mem_cons_self
    · rw [fv.keep b (by rw [hb]; simp) (isTop fun n i h e => ?_)]
      · exact hb
      · obtain ⟨j', a, d, o', q1, q2, q3, q4, q5, _⟩ := io h
        obtain ⟨a', F, g1, g2, g3, _⟩ := r.own i o' d q4 q5
        rw [e] at g1; cases g1
        obtain ⟨ob, m1, m2⟩ := g3.mut
        rw [hb] at m1; cases m1
        exact m2 hi
  let Fs' : Nat → List Addr := fun i => if h : ∃ n : Nat, (ioSlots os)[n]? = some i then Go h.choose else Fs i
  have F1 : ∀ {n i : Nat}, (ioSlots os)[n]? = some i → Fs' i = Go n := by
    intro n i h
    have hx : ∃ n : Nat, (ioSlots os)[n]? = some i := ⟨n, h⟩
    show (if h : ∃ n : Nat, (ioSlots os)[n]? = some i then Go h.choose else Fs i) = Go n
    rw [dif_pos hx, uq hx.choose_spec h]
  have F2 : ∀ {j : Nat}, j ∉ ioSlots os → Fs' j = Fs j := by
    intro j h
    show (if h : ∃ n : Nat, (ioSlots os)[n]? = some j then Go h.choose else Fs j) = Fs j
    rw [dif_neg fun ⟨n, q⟩ => h (List.mem_of_getElem? q)]
  -- an io slot behind the call
  have ioN : ∀ {n i : Nat}, (ioSlots os)[n]? = some i → ∃ o d d' a T, s[i]? = some (some (o, d)) ∧ o ≠ Own.sh ∧ s'[i]? = some (some (o, d')) ∧ σ[i]? = some (some (.ref a)) ∧ Go n = a :: T ∧ RepM K H' d' a T ∧ a ∉ T ∧
      (∀ b, b ∈ T → (∃ i, b ∈ argF Fs os Gs i) ∨ H b = none) ∧ ∀ m, m ≠ n → m < (ioSlots os).length → a ∉ Go m := by
    intro n i h
    obtain ⟨j, a, d, o, q1, q2, q3, q4, q5, _⟩ := io h
    obtain ⟨o', d1, d2, g1, g2, g3⟩ := w3 n i h
    rw [q4] at g1; cases g1
    obtain ⟨a', d', T, k1, k2, k3, k4, k5, k6, k7⟩ := fv.out n j q1
    rw [q2] at k1; cases k1
    rw [g2] at k2; cases k2
    exact ⟨o, d, d2, a, T, q4, q5, g3, q3, k3, k4, k5, k6, fun m h1 h2 => k7 m h1 (by rw [ioPos_len]; exact h2)⟩
  -- a slot of one's own that isn't io has its object in nothing that came
  have sep : ∀ {j : Nat} {o : Own} {d : D} {a : Addr}, j ∉ ioSlots os → s[j]? = some (some (o, d)) → o ≠ Own.sh → σ[j]? = some (some (.ref a)) → ∀ b, ((∃ i, b ∈ argF Fs os Gs i) ∨ H b = none) → a ≠ b := by
    intro j o d a hj e n ha b hb eq
    subst eq
    rcases hb with ⟨k, hk⟩ | hb
    · by_cases hs : ∃ i, os[k]? = some (.sl i)
      · obtain ⟨i, hs⟩ := hs
        rw [(a3 k i hs).1] at hk
        obtain ⟨a', F, g1, g2, g3, g4, g5, g6⟩ := r.own j o d e n
        rw [ha] at g1; cases g1
        obtain ⟨nn, _, hn⟩ := ioPos_of (c := 0) hs
        exact g6 i (fun z => hj (by rw [← z]; exact List.mem_of_getElem? hn)) hk
      · exact a4 k (fun i z => hs ⟨i, z⟩) j o d a e n ha hk
    · exact r.ownTr e n ha hb
  have nbk : ∀ b, H' b = none → H b = none := by
    intro b hb
    refine Classical.byContradiction fun hn => ?_
    by_cases ht : ∃ (n i : Nat), (ioSlots os)[n]? = some i ∧ σ[i]? = some (some (V.ref b))
    · obtain ⟨n, i, h1, h2⟩ := ht
      obtain ⟨o, d, d', a, T, q1, q2, q3, q4, q5, q6, _⟩ := ioN h1
      rw [h2] at q4; cases q4
      obtain ⟨ob, m1, _⟩ := q6.mut
      rw [hb] at m1; cases m1
    · rw [fv.keep b hn (isTop fun n i h e => ht ⟨n, i, h, e⟩)] at hb
      exact hn hb
  refine ⟨Fs', ⟨by rw [w1]; exact r.len, fun j o d e => ?_, fun j o d e n => ?_, fun j d e => ?_, fun j q => ?_, fun j a m => ?_, fun b q => by rw [fr.p b q]; exact r.tr b q, fun b q => r.nb b (nbk b q)⟩, fr, fun j h => F2 h, fun n i h => F1 h⟩
  · by_cases hj : j ∈ ioSlots os
    · obtain ⟨n, hn⟩ := List.getElem?_of_mem hj
      obtain ⟨o', d1, d', a, T, q1, q2, q3, q4, q5, q6, _⟩ := ioN hn
      rw [e] at q3; cases q3
      exact ⟨.ref a, q4, by rw [F1 hn, q5]; exact q6.rep⟩
    · rw [w4 j hj] at e
      obtain ⟨v, g1, g2⟩ := r.rep j o d e
      exact ⟨v, g1, by rw [F2 hj]; exact g2.keep fr.i fun b m => keepF j hj b m⟩
  · by_cases hj : j ∈ ioSlots os
    · obtain ⟨m, hm⟩ := List.getElem?_of_mem hj
      obtain ⟨o', d1, d', a, T, q1, q2, q3, q4, q5, q6, q7, q8, q9⟩ := ioN hm
      rw [e] at q3; cases q3
      obtain ⟨a', F, g1, g2, g3, g4, g5, g6⟩ := r.own j _ d1 q1 q2
      rw [q4] at g1; cases g1
      refine ⟨a, T, q4, by rw [F1 hm]; exact q5, q6, q7, g5, fun k hk => ?_⟩
      by_cases hk2 : k ∈ ioSlots os
      · obtain ⟨m2, hm2⟩ := List.getElem?_of_mem hk2
        rw [F1 hm2]
        exact q9 m2 (fun z => hk (by rw [z, hm] at hm2; exact (Option.some.inj hm2).symm)) (List.getElem?_eq_some_iff.mp hm2).1
      · rw [F2 hk2]; exact g6 k hk
    · rw [w4 j hj] at e
      obtain ⟨a, F, g1, g2, g3, g4, g5, g6⟩ := r.own j o d e n
      refine ⟨a, F, g1, by rw [F2 hj]; exact g2, g3.keep fr.i fun b m => keepF j hj b (by rw [g2]; exact m), g4, g5, fun k hk => ?_⟩
      by_cases hk2 : k ∈ ioSlots os
      · obtain ⟨m2, hm2⟩ := List.getElem?_of_mem hk2
        obtain ⟨o', d1, d', a', T, q1, q2, q3, q4, q5, q6, q7, q8, q9⟩ := ioN hm2
        rw [F1 hm2, q5]
        intro m
        rcases List.mem_cons.mp m with rfl | m
        · obtain ⟨b, F', k1, k2, _⟩ := r.own k o' d1 q1 q2
          rw [q4] at k1; cases k1
          exact g6 k hk (by rw [k2]; exact List.mem_cons_self)
        · exact sep hj e n g1 a (q8 a m) rfl
      · rw [F2 hk2]; exact g6 k hk
  · by_cases hj : j ∈ ioSlots os
    · obtain ⟨m, hm⟩ := List.getElem?_of_mem hj
      obtain ⟨o', d1, d', a, T, q1, q2, q3, q4, _⟩ := ioN hm
      rw [e] at q3; cases q3
      exact r.iov j d1 q1
    · rw [w4 j hj] at e; exact r.iov j d e
  · have hj : j ∉ ioSlots os := fun hj => by
      obtain ⟨m, hm⟩ := List.getElem?_of_mem hj
      obtain ⟨o', d1, d', a, T, q1, q2, q3, _⟩ := ioN hm
      exact q _ _ q3
    rw [F2 hj]
    exact r.dead j fun o d z => q o d (by rw [w4 j hj]; exact z)
  · by_cases hj : j ∈ ioSlots os
    · obtain ⟨n, hn⟩ := List.getElem?_of_mem hj
      obtain ⟨o', d1, d', a', T, q1, q2, q3, q4, q5, q6, q7, q8, q9⟩ := ioN hn
      rw [F1 hn, q5] at m
      rcases List.mem_cons.mp m with rfl | m
      · obtain ⟨b, F', k1, k2, _⟩ := r.own j o' d1 q1 q2
        rw [q4] at k1; cases k1
        exact r.inB j a (by rw [k2]; exact List.mem_cons_self)
      · rcases q8 a m with ⟨i, mi⟩ | hn
        · exact a5 i a mi
        · exact r.nb a hn
    · rw [F2 hj] at m; exact r.inB j a m
end
end PV

/-! PV: calls of defs and of built-ins, what changes a list or a dict. -/
namespace PV
open PySem PySem.Spec L2

section
variable {X : Cx} {E : WX} {f : Addr} {fd : FuncData} {ps : List Str} {x : Str} {p pos : Pos} {e : Expr} {es : List Expr} {F : FS} {os : List Opd} {k : Nat}
theorem tD_call {K : PySem.W.Frag} {n : Nat} (hn : os.length = n) (σ : St) (H : Hp) (Q : VK) (h : tD K E (callM F os) σ H Q) : tCallS (spF K (ioPos os 0) n F) (WE E) (rdOs K E os) σ H Q := by
  obtain ⟨P, B, ia, s, Fs, r, w⟩ := h
  refine rdOps r w (fun _ _ q => q) fun ds s1 vs H1 Gs Fs1 q ov fr r1 => ?_
  cases hc : decide (ioSlots os).Nodup && (ioSlots os).all (isMut s1) with
  | false => rw [hc] at q; exact q.elim
  | true =>
    rw [hc] at q
    obtain ⟨hnd, hmu⟩ := Bool.and_eq_true_iff.mp hc
    have nd := of_decide_eq_true hnd
    have mu : ∀ i, i ∈ ioSlots os → isMut s1 i = true := List.all_eq_true.mp hmu
    obtain ⟨a1, a2, a3, a4, a5⟩ := ov.arg r1
    obtain ⟨l1, l2⟩ := ov.length
    rw [if_pos rfl] at q
    refine ⟨by rw [← l1, l2, hn], ds, argF Fs1 os Gs, by rw [l2, hn], a1, fun i hi => a2 i (by rw [hn]; exact hi), fun j hj => ?_, ?_⟩
    · obtain ⟨m, hm⟩ := List.getElem?_of_mem hj
      obtain ⟨i, kk, e1, e2, e3⟩ := ioPos_get hm
      rw [Nat.zero_add] at e1; subst e1
      obtain ⟨b1, w', d, v, b2, b3, b4, b5⟩ := a3 _ i e2
      obtain ⟨o, d', c1, c2⟩ := isMut_inv (mu i (List.mem_of_getElem? e3))
      rw [b2] at c1; cases c1
      obtain ⟨a, T, g1, g2, g3, g4, g5, g6⟩ := r1.own i _ d b2 c2
      rw [b5] at g1; cases g1
      refine ⟨a, T, d, b3, b4, by rw [b1, g2], g3, g4, fun m' hm' => ?_⟩
      by_cases hs : ∃ i', os[m']? = some (.sl i')
      · obtain ⟨i', hs⟩ := hs
        rw [(a3 m' i' hs).1]
        refine g6 i' fun z => hm' ?_
        subst z
        obtain ⟨n1, f1, f2⟩ := ioPos_of (c := 0) hs
        obtain ⟨n2, f3, f4⟩ := ioPos_of (c := 0) e2
        have : n1 = n2 := nd_ix nd f2 f4
        subst this
        rw [f1] at f3
        have := Option.some.inj f3
        omega
      · exact a4 m' (fun i z => hs ⟨i, z⟩) i _ d a b2 c2 b5
    · cases hF : F ds with
      | stuck => rw [hF] at q; exact q
      | exc y outs =>
        rw [hF] at q
        dsimp only at q
        split at q
        · rename_i s2 ew
          intro cls dx H2 Go fv xr
          obtain ⟨Fs2, r2, fr2, _⟩ := SR.call r1 ov nd mu fv ew
          exact q cls dx H2 ⟨Fs2, fr.trans fr2, r2, xr⟩
        · exact q.elim
      | ret f d outs =>
        rw [hF] at q
        dsimp only at q
        split at q
        · rename_i s2 ew
          intro v H2 G Go fv
          obtain ⟨Fs2, r2, fr2, F2, F1⟩ := SR.call r1 ov nd mu fv.toFV0 ew
          obtain ⟨w1, w2, w3, w4⟩ := wb_get ew nd
          have gB : ∀ a, a ∈ G → B a := fun a m => (fv.gin a m).elim (fun ⟨i, h⟩ => a5 i a h) fun h => r1.nb a h
          have no : NoOwn s2 σ G := by
            intro j o d' a ej n ea m
            by_cases hj : j ∈ ioSlots os
            · obtain ⟨m', hm'⟩ := List.getElem?_of_mem hj
              have hl : m' < (ioPos os 0).length := by rw [ioPos_len]; exact (List.getElem?_eq_some_iff.mp hm').1
              have e0 : (ioPos os 0)[m']? = some (ioPos os 0)[m'] := List.getElem?_eq_getElem hl
              obtain ⟨i', kk, e1, e2, e3⟩ := ioPos_get e0
              rw [hm'] at e3; cases e3
              rw [Nat.zero_add] at e1
              obtain ⟨_, w', d2, v2, b2, b3, b4, b5⟩ := a3 kk j e2
              rw [ea] at b5; cases b5
              exact fv.gio m' kk a (by rw [e0, e1]) b4 m
            · rw [w4 j hj] at ej
              rcases fv.gin a m with ⟨i, hi⟩ | hn
              · by_cases hs : ∃ i', os[i]? = some (.sl i')
                · obtain ⟨i', hs⟩ := hs
                  rw [(a3 i i' hs).1] at hi
                  obtain ⟨a', T, g1, g2, g3, g4, g5, g6⟩ := r1.own j o d' ej n
                  rw [ea] at g1; cases g1
                  obtain ⟨n1, f1, f2⟩ := ioPos_of (c := 0) hs
                  exact g6 i' (fun z => hj (by rw [← z]; exact List.mem_of_getElem? f2)) hi
                · exact a4 i (fun i' z => hs ⟨i', z⟩) j o d' a ej n ea hi
              · exact r1.ownTr ej n ea hn
          refine q v H2 ⟨G, Fs2, fv.rep, fr.trans fr2, gB, r2.prot fv.rep.tr no, fun hf => ?_⟩
          obtain ⟨a, T, k1, k2, k3, k4, k5, k6⟩ := fv.own hf
          refine ⟨a, T, k1, k2, k3, k4, fun q => r1.tr a q k5, fun j m => ?_⟩
          by_cases hj : j ∈ ioSlots os
          · obtain ⟨m', hm'⟩ := List.getElem?_of_mem hj
            rw [F1 m' j hm'] at m
            exact k6 m' (by rw [ioPos_len]; exact (List.getElem?_eq_some_iff.mp hm').1) m
          · rw [F2 j hj] at m
            exact r1.trF m k5
        · exact q.elim
/-- f(..) of a def -/
theorem de_call {ios : List Nat} (G : FnOk X.prog X.w X.K X.mg X.base (L2.CX X.prog X.w) k f fd ps (spF X.K ios ps.length F)) (hr : Room k X.A) (hg : Gl X x) (hm : X.mg x = some (.ref f)) (hk : PySem.W.keepIn X.K (.ref f) = true) (hb : Binds X.K fd ps []) (tk : Takes X E)
    (ha : PAd X E (e :: es) os) (hio : ioPos os 0 = ios := by rfl) (hn : os.length = ps.length := by rfl) (hdb : (x == ("__debug__" : Str)) = false := by decide) (he : starEach (e :: es) X.env = (false, eval e X.env) :: starEach es X.env := by rfl) (hpl : (backTo pos (starEach es X.env)).any (·.1) = false := by rfl) :
    PE X (.Call (.Name x p) (e :: es) [] pos) (tD X.K E (callM F os)) := by
  subst hio
  exact (pe_callS G hr hg hm hk hb (passAt tk) ha hdb he hpl).imp (tD_call hn)
end

/-! ### built-ins of one value -/
def OpD1 (K : PySem.W.Frag) (g : D → Option (Bool × D)) (r : V → Hp → VK → Prop) : Prop :=
  ∀ {P B : Addr → Prop} {ia : Nat → Addr} {s : S} {σ : St} {H H0 : Hp} {Fs : Nat → List Addr} {dx : D} {q : Bool × D} {x : V} {F : List Addr} {Q : VK}, SR K P B ia s σ H Fs → OV K B s σ H dx x F → Fr P H0 H → g dx = some q →
    (∀ v H', RV K P B ia s σ H0 H' q.1 q.2 v → Q v H') → r x H Q
def unM (g : D → Option (Bool × D)) (a : Opd) : M (Bool × D) := op1 a fun x s => match g x with
  | some r => .ok r s
  | none => .stuck
theorem tD_un {K : PySem.W.Frag} {E : WX} {g : D → Option (Bool × D)} {r : V → Hp → VK → Prop} (hd : OpD1 K g r) {a : Opd} (σ : St) (H : Hp) (Q : VK) (h : tD K E (unM g a) σ H Q) : rdO K E a σ H fun x H1 => r x H1 Q := by
  obtain ⟨P, B, ia, s, Fs, R, h⟩ := h
  refine rd1 R ((op1_post h).mono (fun _ _ q => q) fun d s' w x H' F Fs' ov fr R' => ?_)
  cases e : g d with
  | none => rw [e] at w; exact (show False from w).elim
  | some z =>
    rw [e] at w
    exact hd R' ov fr e w
section
variable {X : Cx} {E : WX} {x : Str} {p pos : Pos} {e e2 : Expr} {o o2 : Opd}
theorem CallR.or {f : Value} {r r' : List V → Hp → VK → Prop} (h : CallR X f r) (h' : CallR X f r') : CallR X f (fun xs H Q => r xs H Q ∨ r' xs H Q) := fun pins s σ H xs us Q I rs q => q.elim (h pins s σ H xs us Q I rs) (h' pins s σ H xs us Q I rs)
theorem de_b1 {id : String} {r : List V → Hp → VK → Prop} {g : D → Option (Bool × D)} (hc : CallR X (.builtin id) r) (hd : OpD1 X.K g fun x H Q => r [x] H Q) (hg : Gl X x) (hm : X.mg x = none) (hv : bootBuiltins x = some (.builtin id)) (ha : PE X e (rdO X.K E o)) (hn : x ≠ "__name__" := by decide)
    (hs : starEach [e] X.env = [(false, eval e X.env)] := by rfl) (hdb : (x == ("__debug__" : Str)) = false := by decide) (hpl : (backTo pos (starEach [] X.env)).any (·.1) = false := by rfl) : PE X (.Call (.Name x p) [e] [] pos) (tD X.K E (unM g o)) :=
  (pe_callB hc hg hm hv (pa_cons ha pa_nil hs) hn hdb hs hpl).imp (tD_un hd)
theorem de_t1 {T : String} {r : List V → Hp → VK → Prop} {g : D → Option (Bool × D)} (hc : CallR X (.type T) r) (hd : OpD1 X.K g fun x H Q => r [x] H Q) (hg : Gl X x) (hm : X.mg x = none) (hv : bootBuiltins x = some (.type T)) (ha : PE X e (rdO X.K E o)) (hn : x ≠ "__name__" := by decide)
    (hs : starEach [e] X.env = [(false, eval e X.env)] := by rfl) (hdb : (x == ("__debug__" : Str)) = false := by decide) (hpl : (backTo pos (starEach [] X.env)).any (·.1) = false := by rfl) : PE X (.Call (.Name x p) [e] [] pos) (tD X.K E (unM g o)) :=
  (pe_callTy hc hg hm hv (pa_cons ha pa_nil hs) hn hdb hs hpl).imp (tD_un hd)
theorem de_b2 {id : String} {r : List V → Hp → VK → Prop} {g : D → D → Option (Bool × D)} (hc : CallR X (.builtin id) r) (hd : OpD X.K g fun x y H Q => r [x, y] H Q) (hg : Gl X x) (hm : X.mg x = none) (hv : bootBuiltins x = some (.builtin id)) (ha : PE X e (rdO X.K E o)) (hb : PE X e2 (rdO X.K E o2))
    (hn : x ≠ "__name__" := by decide) (hs : starEach [e, e2] X.env = [(false, eval e X.env), (false, eval e2 X.env)] := by rfl) (hs2 : starEach [e2] X.env = [(false, eval e2 X.env)] := by rfl) (hdb : (x == ("__debug__" : Str)) = false := by decide) (hpl : (backTo pos (starEach [e2] X.env)).any (·.1) = false := by rfl) :
    PE X (.Call (.Name x p) [e, e2] [] pos) (tD X.K E (binM g o o2)) :=
  (pe_callB hc hg hm hv (pa_cons ha (pa_cons hb pa_nil hs2) (by rw [hs, hs2])) hn hdb (by rw [hs, hs2]) hpl).imp (tD_op hd)
end
section
variable {K : PySem.W.Frag}
/-- len -/
def lenD : D → Option (Bool × D)
  | .str x => if x.length ≤ sizeLine then some (false, .int x.length) else none
  | .lst ds => some (false, .int ds.length)
  | .tup ds => some (false, .int ds.length)
  | .fro ds => some (false, .int ds.length)
  | .dct kds => some (false, .int kds.length)
  | _ => none
def rLenD (K : PySem.W.Frag) : List V → Hp → VK → Prop := fun xs H Q => (∃ x n, xs = [x] ∧ LenV K x H n ∧ Q (.int n) H) ∨ ∃ a kvs, xs = [V.ref a] ∧ H a = some (.dK kvs) ∧ Q (.int kvs.length) H
theorem or_len {X : Cx} : CallR X (.builtin "len") (rLenD X.K) := CallR.or call_len call_lenD
theorem opd_len : OpD1 K lenD fun x H Q => rLenD K [x] H Q := by
  intro P B ia s σ H H0 Fs dx q x F Q R o fr e k
  unfold lenD at e
  split at e
  · split at e
    · rename_i hz
      cases e; exact .inl ⟨x, _, rfl, by rw [o.str_inv]; exact ⟨hz, rfl⟩, k _ _ (.flat .int fr R)⟩
    · cases e
  · cases e
    obtain ⟨a, vs, G, rfl, h1, h2, no, ib⟩ := o.lst_inv
    exact .inl ⟨_, _, rfl, .inl ⟨vs, SqL.of h1, h2.length⟩, k _ _ (.flat .int fr R)⟩
  · cases e
    obtain ⟨a, vs, rfl, h1, h2, no⟩ := o.tup_inv
    exact .inl ⟨_, _, rfl, .inr ⟨vs, h1, h2.length⟩, k _ _ (.flat .int fr R)⟩
  · cases e
    obtain ⟨a, vs, rfl, h1, h2, no⟩ := o.fro_inv
    exact .inl ⟨_, _, rfl, .inl ⟨vs, fz_sq h1, h2.length⟩, k _ _ (.flat .int fr R)⟩
  · cases e
    obtain ⟨a, vs, G, rfl, h1, h2, no, ib⟩ := o.dct_inv
    exact .inr ⟨_, _, rfl, h1, by rw [← h2.length]; exact k _ _ (.flat .int fr R)⟩
  · cases e
/-- int, abs, str -/
def toInt : D → Option (Bool × D)
  | .int i => some (false, .int i)
  | .bl b => some (false, .int (if b then 1 else 0))
  | _ => none
theorem opd_toInt : OpD1 K toInt fun x H Q => (∃ i, [x] = [V.int i] ∧ Q (.int i) H) ∨ ∃ k, [x] = [V.bl k] ∧ Q (.int (if k then 1 else 0)) H := by
  intro P B ia s σ H H0 Fs dx q x F Q R o fr e k
  unfold toInt at e
  split at e
  · cases e; exact .inl ⟨_, by rw [o.int_inv], k _ _ (.flat .int fr R)⟩
  · cases e; exact .inr ⟨_, by rw [o.bl_inv], k _ _ (.flat .int fr R)⟩
  · cases e
def absD : D → Option (Bool × D)
  | .int i => some (false, .int (if i < 0 then -i else i))
  | _ => none
theorem opd_abs : OpD1 K absD fun x H Q => ∃ i, [x] = [V.int i] ∧ Q (.int (if i < 0 then -i else i)) H := by
  intro P B ia s σ H H0 Fs dx q x F Q R o fr e k
  unfold absD at e
  split at e
  · cases e; exact ⟨_, by rw [o.int_inv], k _ _ (.flat .int fr R)⟩
  · cases e
def toStr : D → Option (Bool × D)
  | .int i => if i.natAbs.log2 < 1920 then some (false, .str (toString i)) else none
  | .str x => some (false, .str x)
  | _ => none
def rStrD : List V → Hp → VK → Prop := fun xs H Q => (∃ i, xs = [V.int i] ∧ i.natAbs.log2 < 1920 ∧ Q (.str (toString i)) H) ∨ ∃ a, xs = [V.str a] ∧ Q (.str a) H
theorem or_str {X : Cx} : CallR X (.type "str") rStrD := CallR.or call_str_int SkE.call_str_str
theorem opd_toStr : OpD1 K toStr fun x H Q => rStrD [x] H Q := by
  intro P B ia s σ H H0 Fs dx q x F Q R o fr e k
  unfold toStr at e
  split at e
  · split at e
    · rename_i hz
      cases e; exact .inl ⟨_, by rw [o.int_inv], hz, k _ _ (.flat .str fr R)⟩
    · cases e
  · cases e; exact .inr ⟨_, by rw [o.str_inv], k _ _ (.flat .str fr R)⟩
  · cases e
/-- tuple(xs), list(xs) -/
def toTup : D → Option (Bool × D)
  | .lst ds => some (false, .tup ds)
  | .tup ds => some (false, .tup ds)
  | .fro ds => some (false, .tup ds)
  | _ => none
theorem opd_toTup : OpD1 K toTup fun x H Q => ∃ p ys, [x] = [V.ref p] ∧ ((SqL K H p ys ∧ ∀ l, H l = none → Q (.ref l) (upd H l (.tup ys))) ∨ (SqT K H p ys ∧ Q (.ref p) H)) := by
  intro P B ia s σ H H0 Fs dx q x F Q R o fr e k
  unfold toTup at e
  split at e
  · cases e
    obtain ⟨a, vs, G, rfl, h1, h2, no, ib⟩ := o.lst_inv
    exact ⟨a, vs, rfl, .inl ⟨SqL.of h1, fun l hl => k _ _ (.tup h2 no ib fr R hl)⟩⟩
  · cases e
    obtain ⟨a, vs, rfl, h1, h2, no⟩ := o.tup_inv
    exact ⟨a, vs, rfl, .inr ⟨h1, k _ _ (.part (.tup h1 h2) no o.inB fr R)⟩⟩
  · cases e
    obtain ⟨a, vs, rfl, h1, h2, no⟩ := o.fro_inv
    exact ⟨a, vs, rfl, .inl ⟨fz_sq h1, fun l hl => k _ _ (.tup h2 no o.inB fr R hl)⟩⟩
  · cases e
def toLst : D → Option (Bool × D)
  | .lst ds => some (true, .lst ds)
  | .tup ds => some (true, .lst ds)
  | .fro ds => some (true, .lst ds)
  | _ => none
theorem opd_toLst : OpD1 K toLst fun x H Q => ∃ p ys, [x] = [V.ref p] ∧ (SqL K H p ys ∨ SqT K H p ys) ∧ ∀ l, H l = none → Q (.ref l) (upd H l (.lst ys)) := by
  intro P B ia s σ H H0 Fs dx q x F Q R o fr e k
  unfold toLst at e
  split at e
  · cases e
    obtain ⟨a, vs, G, rfl, h1, h2, no, ib⟩ := o.lst_inv
    exact ⟨a, vs, rfl, .inl (SqL.of h1), fun l hl => k _ _ (.lst h2 no ib fr R hl)⟩
  · cases e
    obtain ⟨a, vs, rfl, h1, h2, no⟩ := o.tup_inv
    exact ⟨a, vs, rfl, .inr h1, fun l hl => k _ _ (.lst h2 no o.inB fr R hl)⟩
  · cases e
    obtain ⟨a, vs, rfl, h1, h2, no⟩ := o.fro_inv
    exact ⟨a, vs, rfl, .inl (fz_sq h1), fun l hl => k _ _ (.lst h2 no o.inB fr R hl)⟩
  · cases e
/-- all, any of a list of truth values -/
def bls : List D → Option (List Bool)
  | [] => some []
  | .bl b :: ds => (bls ds).map fun bs => b :: bs
  | _ => none
theorem Reps.bls {H : Hp} : ∀ {ds : List D} {vs : List V} {F : List Addr} {bs : List Bool}, Reps K H ds vs F → PV.bls ds = some bs → vs = bs.map V.bl
  | [], _, _, _, h, e => by cases h; cases e; rfl
  | d :: ds, _, _, _, h, e => by
    cases h with
    | cons h1 h2 =>
      cases h1 with
      | bl =>
        rw [PV.bls] at e
        obtain ⟨bs', e1, e2⟩ := Option.map_eq_some_iff.mp e
        subst e2
        rw [h2.bls e1]; rfl
      | _ => cases e
def allD : D → Option (Bool × D)
  | .lst ds => (bls ds).map fun bs => (false, .bl (bs.all id))
  | _ => none
def anyD : D → Option (Bool × D)
  | .lst ds => (bls ds).map fun bs => (false, .bl (bs.any id))
  | _ => none
theorem opd_all : OpD1 K allD fun x H Q => rAll K [x] H Q := by
  intro P B ia s σ H H0 Fs dx q x F Q R o fr e k
  unfold allD at e
  split at e
  · obtain ⟨bs, e1, e2⟩ := Option.map_eq_some_iff.mp e
    cases e2
    obtain ⟨a, vs, G, rfl, h1, h2, no, ib⟩ := o.lst_inv
    exact ⟨a, bs, rfl, by rw [← h2.bls e1]; exact SqL.of h1, k _ _ (.flat .bl fr R)⟩
  · cases e
theorem opd_any : OpD1 K anyD fun x H Q => rAny K [x] H Q := by
  intro P B ia s σ H H0 Fs dx q x F Q R o fr e k
  unfold anyD at e
  split at e
  · obtain ⟨bs, e1, e2⟩ := Option.map_eq_some_iff.mp e
    cases e2
    obtain ⟨a, vs, G, rfl, h1, h2, no, ib⟩ := o.lst_inv
    exact ⟨a, bs, rfl, by rw [← h2.bls e1]; exact SqL.of h1, k _ _ (.flat .bl fr R)⟩
  · cases e
/-- isinstance -/
def tyName : D → String
  | .non => "NoneType"
  | .bl _ => "bool"
  | .int _ => "int"
  | .str _ => "str"
  | .tup _ => "tuple"
  | .lst _ => "list"
  | .fro _ => "list"
  | .dct _ => "dict"
  | .ty _ => "type"
def isiD : D → D → Option (Bool × D)
  | .ty _, _ => none
  | d, .ty n => (kitB (tyName d) n).map fun b => (false, .bl b)
  | _, _ => none
theorem opd_isi : OpD K isiD fun x y H Q => rIsi K [x, y] H Q := by
  intro P B ia s σ H H0 Fs dx dy q x y F G Q R o1 o2 fr e k
  unfold isiD at e
  split at e
  · cases e
  · rename_i n hn
    obtain ⟨b, e1, e2⟩ := Option.map_eq_some_iff.mp e
    cases e2
    have ey : y = .ty n := by have := o2.rep; cases this; rfl
    subst ey
    refine ⟨x, .ty n, .type (tyName dx), .type n, b, rfl, .ty n, ?_, kit_ty e1, k _ _ (.flat .bl fr R)⟩
    cases dx with
    | non => rw [o1.non_inv]; exact .base .non
    | bl b => rw [o1.bl_inv]; exact .base (.bl _)
    | int b => rw [o1.int_inv]; exact .base (.int _)
    | str b => rw [o1.str_inv]; exact .base (.str _)
    | ty m => exact absurd rfl (hn m)
    | tup ds =>
      obtain ⟨a, vs, rfl, h1, h2, no⟩ := o1.tup_inv
      rcases h1 with (h1 | ⟨o, h1⟩) | ⟨o, its, n, h1, h3, _⟩
      · exact .base (.tup h1)
      · exact .fTuple h1
      · exact .kTuple h1 h3
    | lst ds =>
      obtain ⟨a, vs, _, rfl, h1, h2, no⟩ := o1.lst_inv
      exact .base (.lst h1)
    | fro ds =>
      obtain ⟨a, vs, rfl, h1, h2, no⟩ := o1.fro_inv
      rcases h1 with ⟨o, h1⟩ | ⟨o, its, n, h1, h3, _⟩
      · exact .base (.frz h1)
      · exact .kList h1 h3
    | dct ds =>
      obtain ⟨a, vs, _, rfl, h1, h2, no⟩ := o1.dct_inv
      exact .base (.dK h1)
  · cases e
/-- max, min of two ints -/
abbrev maxD := intD (fun _ _ => true) fun i j => if j > i then j else i
abbrev minD := intD (fun _ _ => true) fun i j => if j < i then j else i
theorem opd_two {f : Int → Int → Int} : OpD K (intD (fun _ _ => true) f) fun x y H Q => ∃ i j, [x, y] = [V.int i, V.int j] ∧ Q (.int (f i j)) H := by
  intro P B ia s σ H H0 Fs dx dy q x y F G Q R o1 o2 fr e k
  unfold intD at e
  split at e
  · cases e; exact ⟨_, _, by rw [o1.int_inv, o2.int_inv], k _ _ (.flat .int fr R)⟩
  · cases e
end
end PV

/-! PV: what changes a list or a dict; dicts; methods of texts. -/
namespace PV
open PySem PySem.Spec L2

/-! ### xs.append(e), xs.extend(e) -/
def appD (ds : List D) (y : D) : Option (List D) := if ds.length < sizeLine then some (ds ++ [y]) else none
def extD (ds : List D) (y : D) : Option (List D) := match y with
  | .lst zs => if ds.length + zs.length ≤ sizeLine then some (ds ++ zs) else none
  | _ => none
def isLst (s : S) (i : Nat) : Bool := match s[i]? with
  | some (some (_, .lst _)) => true
  | _ => false
def growM (g : List D → D → Option (List D)) (i : Nat) (f : M (Bool × D)) : M (Bool × D) := fun s => if isLst s i = true then (f s).bind fun y s1 => (match s1[i]? with
  | some (some (o, .lst ds)) => if o = .sh then .stuck else (match g ds y.2 with
    | some ds' => .ok (false, .non) (s1.set i (some (o, .lst ds')))
    | none => .stuck)
  | _ => .stuck) else .stuck
/-- the rule r grows a list as g says -/
def GrowR (K : PySem.W.Frag) (g : List D → D → Option (List D)) (r : V → List V → Hp → VK → Prop) : Prop :=
  ∀ {H : Hp} {a : Addr} {vs : List V} {ds ds' : List D} {y : D} {v : V} {F G : List Addr} {Q : VK}, H a = some (.lst vs) → Reps K H ds vs F → Rep K H y v G → g ds y = some ds' →
    (∀ vs' F', (∀ H', (∀ b o, H b = some o → Im o → H' b = some o) → (∀ b, b ∈ F ++ G → b ≠ a → H' b = H b) → a ∉ F' → Reps K H' ds' vs' F') → (∀ b, b ∈ F' → b ∈ F ∨ b ∈ G) → Q .non (upd H a (.lst vs'))) → r (.ref a) [v] H Q
theorem grow_app {K : PySem.W.Frag} : GrowR K appD rAppend := by
  intro H a vs ds ds' y v F G Q h hr hy e k
  unfold appD at e
  split at e
  · rename_i hz
    cases e
    refine ⟨a, vs, v, rfl, rfl, h, by rw [← hr.length]; exact hz, k (vs ++ [v]) (F ++ G) (fun H' i f na => ?_) fun b m => List.mem_append.mp m⟩
    have f' : ∀ b, b ∈ F ++ G → H' b = H b := fun b m => f b m fun e => na (e ▸ m)
    exact (Reps.keep i hr fun b m => f' b (List.mem_append_left _ m)).append (Reps.one (hy.keep i fun b m => f' b (List.mem_append_right _ m)))
  · cases e
theorem grow_ext {K : PySem.W.Frag} : GrowR K extD rExtend := by
  intro H a vs ds ds' y v F G Q h hr hy e k
  unfold extD at e
  split at e
  · rename_i zs
    split at e
    · rename_i hz
      cases e
      cases hy with
      | @lst b _ ws G' h1 h2 =>
        refine ⟨a, b, vs, ws, rfl, rfl, h, h1, by rw [← hr.length, ← h2.length]; exact hz, k (vs ++ ws) (F ++ G') (fun H' i f na => ?_) fun c m => (List.mem_append.mp m).imp (fun m => m) fun m => List.mem_cons_of_mem _ m⟩
        have f' : ∀ c, c ∈ F ++ G' → H' c = H c := fun c m => f c ((List.mem_append.mp m).elim (fun m => List.mem_append_left _ m) fun m => List.mem_append_right _ (List.mem_cons_of_mem _ m)) fun e => na (e ▸ m)
        exact (Reps.keep i hr fun c m => f' c (List.mem_append_left _ m)).append (Reps.keep i h2 fun c m => f' c (List.mem_append_right _ m))
    · cases e
  · cases e
theorem isLst_inv {s : S} {i : Nat} (h : isLst s i = true) : ∃ o ds, s[i]? = some (some (o, .lst ds)) := by
  unfold isLst at h
  split at h
  · rename_i o ds e; exact ⟨o, ds, e⟩
  · cases h
theorem tD_grow {K : PySem.W.Frag} {E : WX} {g : List D → D → Option (List D)} {r : V → List V → Hp → VK → Prop} (hg : GrowR K g r) {i : Nat} {f : M (Bool × D)} (σ : St) (H : Hp) (Q : VK) (h : tD K E (growM g i f) σ H Q) : tBM K "list" r (tVar i) (tCons (tD K E f) tNil) σ H Q := by
  obtain ⟨P, B, ia, s, Fs, R, w⟩ := h
  unfold growM at w
  split at w
  · rename_i hl
    obtain ⟨o, ds, e⟩ := isLst_inv hl
    obtain ⟨v, F0, hv, ov⟩ := R.opd e
    obtain ⟨a, vs, G0, rfl, h1, h2, _, _⟩ := ov.lst_inv
    refine ⟨.ref a, hv, .inl ⟨rfl, vs, SqL.of h1⟩, P, B, ia, s, Fs, R, (Post.bind w).mono (fun _ _ q => q) fun y s1 q u H1 rv => ?_⟩
    obtain ⟨G, Fs1, g1, g2, g3, g4, g5⟩ := rv
    split at q
    · rename_i o1 ds1 e1
      split at q
      · exact q.elim
      · rename_i ho
        split at q
        · rename_i ds2 e2
          obtain ⟨a', F, k1, k2, k3, k4, k5, k6⟩ := g4.own i o1 _ e1 ho
          rw [hv] at k1; cases k1
          cases k3 with
          | @lst _ _ vs1 _ m1 m2 =>
            refine hg m1 m2 g1 e2 fun vs' F' hr hF => ?_
            have na : a ∉ F' := fun m => (hF a m).elim k4 fun m => k5 (.inr m)
            have rm : RepM K (upd H1 a (.lst vs')) (.lst ds2) a F' := .lst upd_same (hr _ (fun b o hb hi => by rw [upd_ne fun e => by subst e; rw [m1] at hb; cases hb; exact hi]; exact hb) (fun b m hb => upd_ne hb) na)
            obtain ⟨r2, fr2⟩ := g4.write e1 ho hv k2 rm hF (fun b m => g3 b m)
            exact q .non _ (.flat .non (g2.trans fr2) r2)
        · exact q.elim
    · exact q.elim
  · exact w.elim
/-- a method that grows a list: h is pe_bm .. -/
theorem dm_grow {X : Cx} {E : WX} {e : Expr} {g : List D → D → Option (List D)} {r : V → List V → Hp → VK → Prop} {i : Nat} {f : M (Bool × D)} (h : PE X e (tBM X.K "list" r (tVar i) (tCons (tD X.K E f) tNil))) (hg : GrowR X.K g r) : PE X e (tD X.K E (growM g i f)) := h.imp (tD_grow hg)

/-! ### xs.pop(), xs.pop(i) -/
def popM (i : Nat) : M (Bool × D) := fun s => match s[i]? with
  | some (some (o, .lst ds)) => if o = .sh then .stuck else (match ds[ds.length - 1]? with
    | some d => .ok (false, d) (s.set i (some (o, .lst ds.dropLast)))
    | none => .stuck)
  | _ => .stuck
theorem Reps.dropLast {K : PySem.W.Frag} {H : Hp} {ds : List D} {vs : List V} {F : List Addr} (h : Reps K H ds vs F) : ∃ G, Reps K H ds.dropLast vs.dropLast G ∧ ∀ b, b ∈ G → b ∈ F := by
  rw [List.dropLast_eq_take, List.dropLast_eq_take, h.length]
  have := h.sub 0 (vs.length - 1)
  simpa using this
theorem Reps.erase {K : PySem.W.Frag} {H : Hp} : ∀ {ds : List D} {vs : List V} {F : List Addr} (k : Nat), Reps K H ds vs F → ∃ G, Reps K H (ds.eraseIdx k) (vs.eraseIdx k) G ∧ ∀ b, b ∈ G → b ∈ F
  | [], _, _, k, h => by cases h; exact ⟨[], by simpa using Reps.nil, fun _ m => m⟩
  | d :: ds, _, _, 0, h => by
    cases h with
    | cons h1 h2 => exact ⟨_, h2, fun b m => List.mem_append_right _ m⟩
  | d :: ds, _, _, k + 1, h => by
    cases h with
    | @cons _ v F1 _ vs G h1 h2 =>
      obtain ⟨G', e1, e2⟩ := Reps.erase k h2
      refine ⟨F1 ++ G', .cons h1 e1, fun b m => ?_⟩
      rcases List.mem_append.mp m with m | m
      · exact List.mem_append_left _ m
      · exact List.mem_append_right _ (e2 b m)
/-- a list in a slot of one's own becomes a part of itself, a part is handed out -/
theorem SR.less {K : PySem.W.Frag} {P B : Addr → Prop} {ia : Nat → Addr} {s : S} {σ : St} {H H0 : Hp} {Fs : Nat → List Addr} {i : Nat} {o : Own} {d d' y : D} {a : Addr} {v : V} {F F' G : List Addr} {ob : HO} (r : SR K P B ia s σ H Fs) (fr : Fr P H0 H) (e : s[i]? = some (some (o, d))) (n : o ≠ .sh) (ha : σ[i]? = some (some (V.ref a)))
    (hF : Fs i = a :: F) (h : ∀ H', (∀ b o, H b = some o → Im o → H' b = some o) → (∀ b, b ≠ a → H' b = H b) → H' a = some ob → RepM K H' d' a F') (hF' : ∀ b, b ∈ F' → b ∈ F) (hy : Rep K H y v G) (hG : ∀ b, b ∈ G → b ∈ F) :
    RV K P B ia (s.set i (some (o, d'))) σ H0 (upd H a ob) false y v := by
  obtain ⟨a', F0, k1, k2, k3, k4, k5, k6⟩ := r.own i o d e n
  rw [ha] at k1; cases k1
  rw [hF] at k2; cases k2
  obtain ⟨ob0, m1, m2⟩ := k3.mut
  have im : ∀ b o, H b = some o → Im o → upd H a ob b = some o := fun b o hb hi => by
    rw [upd_ne fun e => by subst e; rw [m1] at hb; cases hb; exact m2 hi]; exact hb
  have rm := h (upd H a ob) im (fun b hb => upd_ne hb) upd_same
  obtain ⟨r2, fr2⟩ := SR.write (F2 := []) (r.weak fun b m => m.elim (fun m => m) fun m => by cases m) e n ha hF rm (fun b m => .inl (hF' b m)) (fun b m => by cases m)
  have naG : ∀ b, b ∈ G → b ≠ a := fun b m z => k4 (by rw [← z]; exact hG b m)
  have no : NoOwn (s.set i (some (o, d'))) σ G := by
    intro j o' d2 b q n' x m
    by_cases hj : j = i
    · subst hj
      rw [ha] at x; cases x
      exact naG _ m rfl
    · rw [get_set_ne hj] at q
      obtain ⟨c, F2, g1, g2, g3, g4, g5, g6⟩ := r.own j o' d2 q n'
      rw [x] at g1; cases g1
      exact g6 i (Ne.symm hj) (by rw [hF]; exact List.mem_cons_of_mem _ (hG b m))
  exact .part (hy.keep im fun b m => upd_ne (naG b m)) no (fun b m => r.inB i b (by rw [hF]; exact List.mem_cons_of_mem _ (hG b m))) (fr.trans fr2) r2
theorem tD_pop {K : PySem.W.Frag} {E : WX} {i : Nat} (σ : St) (H : Hp) (Q : VK) (h : tD K E (popM i) σ H Q) : tBM0 K "list" rPop (tVar i) σ H Q := by
  obtain ⟨P, B, ia, s, Fs, R, w⟩ := h
  unfold popM at w
  split at w
  · rename_i o ds e
    split at w
    · exact w.elim
    · rename_i ho
      split at w
      · rename_i d ed
        obtain ⟨a, F, k1, k2, k3, k4, k5, k6⟩ := R.own i o _ e ho
        cases k3 with
        | @lst _ _ vs _ m1 m2 =>
          obtain ⟨v, G, g1, g2, g3⟩ := m2.get ed
          obtain ⟨F', f1, f2⟩ := m2.dropLast
          refine ⟨.ref a, k1, .inl ⟨rfl, vs, SqL.of m1⟩, a, vs, v, rfl, rfl, m1, by rw [← m2.length]; exact g1, w v _ (R.less Fr.refl e ho k1 k2 (fun H' i f ha => .lst ha (Reps.keep i f1 fun b m => f b fun z => k4 (by rw [← z]; exact f2 b m))) f2 g2 g3)⟩
      · exact w.elim
  · exact w.elim
theorem dm_pop {X : Cx} {E : WX} {e : Expr} {i : Nat} (h : PE X e (tBM0 X.K "list" rPop (tVar i))) : PE X e (tD X.K E (popM i)) := h.imp tD_pop
def popAtM (i : Nat) (f : M (Bool × D)) : M (Bool × D) := fun s => if isLst s i = true then (f s).bind fun y s1 => (match s1[i]?, y.2 with
  | some (some (o, .lst ds)), .int k => if o = .sh then .stuck else if -(2 ^ 63) ≤ k ∧ k < 2 ^ 63 then (match seqIndex? k ds.length with
    | some j => (match ds[j]? with
      | some d => .ok (false, d) (s1.set i (some (o, .lst (ds.eraseIdx j))))
      | none => .stuck)
    | none => .stuck) else .stuck
  | _, _ => .stuck) else .stuck
theorem tD_popAt {K : PySem.W.Frag} {E : WX} {i : Nat} {f : M (Bool × D)} (σ : St) (H : Hp) (Q : VK) (h : tD K E (popAtM i f) σ H Q) : tBM K "list" rPopAt (tVar i) (tCons (tD K E f) tNil) σ H Q := by
  obtain ⟨P, B, ia, s, Fs, R, w⟩ := h
  unfold popAtM at w
  split at w
  · rename_i hl
    obtain ⟨o, ds, e⟩ := isLst_inv hl
    obtain ⟨v, F0, hv, ov⟩ := R.opd e
    obtain ⟨a, vs, G0, rfl, h1, h2, _, _⟩ := ov.lst_inv
    refine ⟨.ref a, hv, .inl ⟨rfl, vs, SqL.of h1⟩, P, B, ia, s, Fs, R, (Post.bind w).mono (fun _ _ q => q) fun y s1 q u H1 rv => ?_⟩
    obtain ⟨G, Fs1, g1, g2, g3, g4, g5⟩ := rv
    split at q
    · rename_i o1 ds1 k e1 e2
      split at q
      · exact q.elim
      · rename_i ho
        split at q
        · rename_i hk
          split at q
          · rename_i j ej
            split at q
            · rename_i d ed
              obtain ⟨a', F, k1, k2, k3, k4, k5, k6⟩ := g4.own i o1 _ e1 ho
              rw [hv] at k1; cases k1
              cases k3 with
              | @lst _ _ vs1 _ m1 m2 =>
                obtain ⟨v', G', q1, q2, q3⟩ := m2.get ed
                obtain ⟨F', f1, f2⟩ := m2.erase j
                have eu : u = .int k := by rw [e2] at g1; cases g1; rfl
                exact ⟨a, vs1, k, j, v', rfl, by rw [eu], m1, hk.1, hk.2, by rw [← m2.length]; exact ej, q1, q v' _ ((g4.weak fun b m => .inl m).less g2 e1 ho hv k2 (fun H' i f ha => .lst ha (Reps.keep i f1 fun b m => f b fun z => k4 (by rw [← z]; exact f2 b m))) f2 q2 q3)⟩
            · exact q.elim
          · exact q.elim
        · exact q.elim
    · exact q.elim
  · exact w.elim
theorem dm_popAt {X : Cx} {E : WX} {e : Expr} {i : Nat} {f : M (Bool × D)} (h : PE X e (tBM X.K "list" rPopAt (tVar i) (tCons (tD X.K E f) tNil))) : PE X e (tD X.K E (popAtM i f)) := h.imp tD_popAt

/-! ### x[k] = e at a slot: a list, a dict -/
def kput (kds : List (Key × D)) (k : Key) (d : D) : List (Key × D) := if kds.any (fun q => decide (q.1 = k)) then kds.map (fun q => if q.1 = k then (q.1, d) else q) else kds ++ [(k, d)]
theorem RepK.any {K : PySem.W.Frag} {H : Hp} {k : Key} : ∀ {kds : List (Key × D)} {kvs : List (Key × V)} {F : List Addr}, RepK K H kds kvs F → kds.any (fun q => decide (q.1 = k)) = kvs.any (fun q => decide (q.1 = k))
  | [], _, _, h => by cases h; rfl
  | (k', d) :: ds, _, _, h => by
    cases h with
    | cons h1 h2 => simp [RepK.any h2]
theorem RepK.mapk {K : PySem.W.Frag} {H : Hp} {k : Key} {y : D} {v : V} {G : List Addr} (hy : Rep K H y v G) : ∀ {kds : List (Key × D)} {kvs : List (Key × V)} {F : List Addr}, RepK K H kds kvs F →
    ∃ F', RepK K H (kds.map fun q => if q.1 = k then (q.1, y) else q) (kvs.map fun q => if q.1 = k then (q.1, v) else q) F' ∧ ∀ b, b ∈ F' → b ∈ F ∨ b ∈ G
  | [], _, _, h => by cases h; exact ⟨[], .nil, fun _ m => nomatch m⟩
  | (k', d) :: ds, _, _, h => by
    cases h with
    | @cons _ _ w F1 _ vs F2 h1 h2 =>
      obtain ⟨F', e1, e2⟩ := RepK.mapk (k := k) hy h2
      by_cases hk : k' = k
      · refine ⟨G ++ F', ?_, fun b m => ?_⟩
        · simp only [List.map_cons, if_pos hk]; exact .cons hy e1
        · rcases List.mem_append.mp m with m | m
          · exact .inr m
          · exact (e2 b m).imp (fun m => List.mem_append_right _ m) fun m => m
      · refine ⟨F1 ++ F', ?_, fun b m => ?_⟩
        · simp only [List.map_cons, if_neg hk]; exact .cons h1 e1
        · rcases List.mem_append.mp m with m | m
          · exact .inl (List.mem_append_left _ m)
          · exact (e2 b m).imp (fun m => List.mem_append_right _ m) fun m => m
theorem RepK.app {K : PySem.W.Frag} {H : Hp} {k : Key} {y : D} {v : V} {G : List Addr} (hy : Rep K H y v G) : ∀ {kds : List (Key × D)} {kvs : List (Key × V)} {F : List Addr}, RepK K H kds kvs F → RepK K H (kds ++ [(k, y)]) (kvs ++ [(k, v)]) (F ++ G)
  | [], _, _, h => by
    cases h
    have := RepK.cons (k := k) hy (RepK.nil (K := K) (H := H))
    simpa using this
  | (k', d) :: ds, _, _, h => by
    cases h with
    | cons h1 h2 =>
      rw [List.append_assoc]
      exact .cons h1 (RepK.app hy h2)
theorem RepK.put {K : PySem.W.Frag} {H : Hp} {k : Key} {y : D} {v : V} {G : List Addr} (hy : Rep K H y v G) {kds : List (Key × D)} {kvs : List (Key × V)} {F : List Addr} (h : RepK K H kds kvs F) : ∃ F', RepK K H (kput kds k y) (putK kvs k v) F' ∧ ∀ b, b ∈ F' → b ∈ F ∨ b ∈ G := by
  unfold kput putK
  rw [h.any]
  split
  · exact RepK.mapk hy h
  · exact ⟨F ++ G, RepK.app hy h, fun b m => List.mem_append.mp m⟩
def isBox (s : S) (i : Nat) : Bool := match s[i]? with
  | some (some (_, .lst _)) => true
  | some (some (_, .dct _)) => true
  | _ => false
/-- what stands behind x[k] = y -/
def setD (x k y : D) : Option D := match x with
  | .lst ds => (match k with
    | .int j => (ixN ds.length j).map fun j => .lst (ds.set j y)
    | _ => none)
  | .dct kds => k.key.bind fun k => if kds.length < sizeLine then some (.dct (kput kds k y)) else none
  | _ => none
def setItM (i : Nat) (k f : M (Bool × D)) : M Fl := fun s => (f s).bind fun y s1 => if isBox s1 i = true then (k s1).bind fun kk s2 => (match s2[i]? with
  | some (some (o, x)) => if o = .sh then .stuck else (match setD x kk.2 y.2 with
    | some x' => .ok .nx (s2.set i (some (o, x')))
    | none => .stuck)
  | _ => .stuck) else .stuck
theorem Reps.set {K : PySem.W.Frag} {H : Hp} {y : D} {v : V} {G : List Addr} (hy : Rep K H y v G) : ∀ {ds : List D} {vs : List V} {F : List Addr} (j : Nat), Reps K H ds vs F → ∃ F', Reps K H (ds.set j y) (vs.set j v) F' ∧ ∀ b, b ∈ F' → b ∈ F ∨ b ∈ G
  | [], _, _, j, h => by cases h; exact ⟨[], by simpa using Reps.nil, fun _ m => nomatch m⟩
  | d :: ds, _, _, 0, h => by
    cases h with
    | cons h1 h2 => exact ⟨_, .cons hy h2, fun b m => (List.mem_append.mp m).elim .inr fun m => .inl (List.mem_append_right _ m)⟩
  | d :: ds, _, _, j + 1, h => by
    cases h with
    | @cons _ w F1 _ vs F2 h1 h2 =>
      obtain ⟨F', e1, e2⟩ := Reps.set hy j h2
      refine ⟨F1 ++ F', .cons h1 e1, fun b m => ?_⟩
      rcases List.mem_append.mp m with m | m
      · exact .inl (List.mem_append_left _ m)
      · exact (e2 b m).imp (fun m => List.mem_append_right _ m) fun m => m
/-- the two rules' readings -/
def rSetA (ti te : TE) (i : Nat) : TS := fun Dn σ H => tAsg te (gSub (tVar i) ti rSetL) Dn σ H ∨ sDPut (tVar i) ti te Dn σ H
theorem tS_setIt {K : PySem.W.Frag} {E : WX} {i : Nat} {k f : M (Bool × D)} (Dn : Ends) (σ : St) (H : Hp) (h : tS K E (setItM i k f) Dn σ H) : rSetA (tD K E k) (tD K E f) i Dn σ H := by
  obtain ⟨P, B, ia, s, Fs, R, w⟩ := h
  unfold setItM at w
  -- one end for both kinds
  have fin : ∀ {y : Bool × D} {s1 s2 : S} {H1 H2 : Hp} {u kv : V} {G Gk : List Addr} {Fs1 Fs2 : Nat → List Addr} {kk : Bool × D} {o : Own} {x x' : D} {a : Addr}, Rep K H1 y.2 u G → Fr P H H1 → (∀ a, a ∈ G → B a) → Fr (fun b => P b ∨ b ∈ G) H1 H2 → SR K (fun b => (P b ∨ b ∈ G) ∨ b ∈ Gk) B ia s2 σ H2 Fs2 →
      s2[i]? = some (some (o, x)) → o ≠ .sh → setD x kk.2 y.2 = some x' → Rep K H2 kk.2 kv Gk → σ[i]? = some (some (V.ref a)) → SPd K P B ia H Dn .nx (s2.set i (some (o, x'))) →
      (∃ ds vs j z, x = .lst ds ∧ H2 a = some (.lst vs) ∧ kv = .int z ∧ ixN vs.length z = some j ∧ Dn.nx σ (upd H2 a (.lst (vs.set j u)))) ∨ (∃ kds kvs kx, x = .dct kds ∧ H2 a = some (.dK kvs) ∧ kv = kV kx ∧ kvs.length < sizeLine ∧ Dn.nx σ (upd H2 a (.dK (putK kvs kx u)))) := by
    intro y s1 s2 H1 H2 u kv G Gk Fs1 Fs2 kk o x x' a hy f1 hb f2 r2 e ho es hk hv q
    have hy2 : Rep K H2 y.2 u G := hy.keep f2.i fun b m => f2.p b (.inr m)
    obtain ⟨a', F, k1, k2, k3, k4, k5, k6⟩ := r2.own i o x e ho
    rw [hv] at k1; cases k1
    have r3 : SR K (fun b => P b ∨ b ∈ G) B ia s2 σ H2 Fs2 := r2.weak fun b m => .inl m
    have f12 : Fr P H H2 := f1.trans (f2.mono fun b m => .inl m)
    cases k3 with
    | @lst _ ds vs _ m1 m2 =>
      left
      simp only [setD] at es
      split at es
      · rename_i z hz
        obtain ⟨j, e1, e2⟩ := Option.map_eq_some_iff.mp es
        subst e2
        rw [hz] at hk
        cases hk
        obtain ⟨F', g1, g2⟩ := m2.set hy2 j
        refine ⟨ds, vs, j, z, rfl, m1, rfl, by rw [← m2.length]; exact e1, ?_⟩
        have na : a ∉ F' := fun m => (g2 a m).elim k4 fun m => k5 (.inl (.inr m))
        have im : ∀ b o, H2 b = some o → Im o → upd H2 a (.lst (vs.set j u)) b = some o := fun b o hb hi => by rw [upd_ne fun e => by subst e; rw [m1] at hb; cases hb; exact hi]; exact hb
        obtain ⟨r4, f4⟩ := r3.write e ho hv k2 (RepM.lst (K := K) (H := upd H2 a (.lst (vs.set j u))) upd_same (Reps.keep im g1 fun b m => upd_ne fun z => na (z ▸ m))) g2 hb
        exact q σ _ _ (f12.trans f4) r4
      · cases es
    | @dct _ kds kvs _ m1 m2 =>
      right
      simp only [setD] at es
      obtain ⟨kx, e1, e2⟩ := Option.bind_eq_some_iff.mp es
      split at e2
      · rename_i hz
        cases e2
        obtain ⟨F', g1, g2⟩ := RepK.put (k := kx) hy2 m2
        refine ⟨kds, kvs, kx, rfl, m1, hk.key e1, by rw [← m2.length]; exact hz, ?_⟩
        have na : a ∉ F' := fun m => (g2 a m).elim k4 fun m => k5 (.inl (.inr m))
        have im : ∀ b o, H2 b = some o → Im o → upd H2 a (.dK (putK kvs kx u)) b = some o := fun b o hb hi => by rw [upd_ne fun e => by subst e; rw [m1] at hb; cases hb; exact hi]; exact hb
        obtain ⟨r4, f4⟩ := r3.write e ho hv k2 (RepM.dct (K := K) (H := upd H2 a (.dK (putK kvs kx u))) upd_same (RepK.keep im g1 fun b m => upd_ne fun z => na (z ▸ m))) g2 hb
        exact q σ _ _ (f12.trans f4) r4
      · cases e2
  have w' := Post.bind w
  cases ef : f s with
  | stuck => rw [ef] at w'; exact w'.elim
  | exc x s1 =>
    rw [ef] at w'
    exact .inl ⟨P, B, ia, s, Fs, R, by rw [ef]; exact w'.to⟩
  | ok y s1 =>
    rw [ef] at w'
    simp only [Post.ok] at w'
    split at w'
    · rename_i hbx
      cases ek : k s1 with
      | stuck => rw [ek] at w'; exact w'.elim
      | exc x s2 =>
        rw [ek] at w'
        -- the box's kind tells the rule
        unfold isBox at hbx
        split at hbx
        · rename_i o ds e1
          left
          refine ⟨P, B, ia, s, Fs, R, ?_⟩
          rw [ef]
          intro u H1 rv
          obtain ⟨G, Fs1, g1, g2, g3, g4, g5⟩ := rv
          obtain ⟨v, F0, hv, ov⟩ := g4.opd e1
          exact ⟨v, hv, _, B, ia, s1, Fs1, g4, by rw [ek]; exact fun cls dx H2 rx => w' σ cls dx H2 (rx.weak g2 fun b m => .inl m)⟩
        · rename_i o ds e1
          left
          refine ⟨P, B, ia, s, Fs, R, ?_⟩
          rw [ef]
          intro u H1 rv
          obtain ⟨G, Fs1, g1, g2, g3, g4, g5⟩ := rv
          obtain ⟨v, F0, hv, ov⟩ := g4.opd e1
          exact ⟨v, hv, _, B, ia, s1, Fs1, g4, by rw [ek]; exact fun cls dx H2 rx => w' σ cls dx H2 (rx.weak g2 fun b m => .inl m)⟩
        · cases hbx
      | ok kk s2 =>
        rw [ek] at w'
        simp only [Res.bind_ok] at w'
        split at w'
        · rename_i o x e2
          split at w'
          · exact w'.elim
          · rename_i ho
            split at w'
            · rename_i x' ex
              have live : ∃ o' d', s1[i]? = some (some (o', d')) := by
                unfold isBox at hbx
                split at hbx
                · rename_i o' ds e1; exact ⟨_, _, e1⟩
                · rename_i o' ds e1; exact ⟨_, _, e1⟩
                · cases hbx
              obtain ⟨o', d', e1⟩ := live
              cases x with
              | lst ds =>
                left
                refine ⟨P, B, ia, s, Fs, R, ?_⟩
                rw [ef]
                intro u H1 rv
                obtain ⟨G, Fs1, g1, g2, g3, g4, g5⟩ := rv
                obtain ⟨v, F0, hv, ov⟩ := g4.opd e1
                refine ⟨v, hv, _, B, ia, s1, Fs1, g4, ?_⟩
                rw [ek]
                intro kv H2 rv2
                obtain ⟨Gk, Fs2, k1, k2, k3, k4, k5⟩ := rv2
                obtain ⟨a, F, q1, q2, q3, _⟩ := k4.own i o _ e2 ho
                rw [hv] at q1; cases q1
                rcases fin (s1 := s1) (Fs1 := Fs1) g1 g2 g3 k2 k4 e2 ho ex k1 hv w' with ⟨ds, vs, j, z, _, m1, m2, m3, m4⟩ | ⟨_, _, _, m1, _⟩
                · exact ⟨a, vs, z, j, rfl, m2, m1, m3, m4⟩
                · cases m1
              | dct kds =>
                right
                refine ⟨P, B, ia, s, Fs, R, ?_⟩
                rw [ef]
                intro u H1 rv
                obtain ⟨G, Fs1, g1, g2, g3, g4, g5⟩ := rv
                obtain ⟨v, F0, hv, ov⟩ := g4.opd e1
                refine ⟨v, hv, _, B, ia, s1, Fs1, g4, ?_⟩
                rw [ek]
                intro kv H2 rv2
                obtain ⟨Gk, Fs2, k1, k2, k3, k4, k5⟩ := rv2
                obtain ⟨a, F, q1, q2, q3, _⟩ := k4.own i o _ e2 ho
                rw [hv] at q1; cases q1
                rcases fin (s1 := s1) (Fs1 := Fs1) g1 g2 g3 k2 k4 e2 ho ex k1 hv w' with ⟨_, _, _, _, m1, _⟩ | ⟨kds, kvs, kx, _, m1, m2, m3, m4⟩
                · cases m1
                · exact ⟨a, _, rfl, .inl ⟨kvs, kx, m1, m2, m3, rfl⟩, m4⟩
              | _ => simp [setD] at ex
            · exact w'.elim
        · exact w'.elim
    · exact w'.elim
theorem PS.or {X : Cx} {st : Stmt} {t t' : TS} (h : PS X st t) (h' : PS X st t') : PS X st (fun Dn σ H => t Dn σ H ∨ t' Dn σ H) := ⟨fun pins s σ H Dn I w => w.elim (h.run pins s σ H Dn I) (h'.run pins s σ H Dn I)⟩
/-- h1: ps_asg he (pg_sub (pv i) hk set_list); h2: ps_dput hu (pv i) hk he rfl -/
theorem ds_setIt {X : Cx} {E : WX} {st : Stmt} {i : Nat} {k f : M (Bool × D)} (h1 : PS X st (tAsg (tD X.K E f) (gSub (tVar i) (tD X.K E k) rSetL))) (h2 : PS X st (sDPut (tVar i) (tD X.K E k) (tD X.K E f))) : PS X st (tS X.K E (setItM i k f)) := (PS.or h1 h2).imp tS_setIt

/-! ### dict displays -/
def flat2 : List (M (Bool × D) × M (Bool × D)) → List (M (Bool × D))
  | [] => []
  | (k, v) :: r => k :: v :: flat2 r
/-- keys and values in a row, as pairs -/
def kpairs : List D → Option (List (Key × D))
  | [] => some []
  | k :: d :: r => k.key.bind fun kk => (kpairs r).map fun ps => (kk, d) :: ps
  | _ => none
def kmerge (kds more : List (Key × D)) : List (Key × D) := more.foldl (fun acc q => kput acc q.1 q.2) kds
def dispM (ps : List (M (Bool × D) × M (Bool × D))) : M (Bool × D) := opsM ((flat2 ps).map .ex) fun ds s => match kpairs ds with
  | some kds => if kds.length ≤ 15 then .ok (true, .dct (kmerge [] kds)) s else .stuck
  | none => .stuck
theorem rdOs_mono {K : PySem.W.Frag} {E : WX} : ∀ {os : List Opd} {σ : St} {H : Hp} {Q Q' : List V → Hp → Prop}, rdOs K E os σ H Q → (∀ vs H, Q vs H → Q' vs H) → rdOs K E os σ H Q'
  | [], σ, H, Q, Q', h, q => q _ _ h
  | o :: os, σ, H, Q, Q', h, q => rdO_mono (o := o) h fun x H1 h1 => rdOs_mono (os := os) h1 fun vs H2 h2 => q _ _ h2
theorem tPairs_of {K : PySem.W.Frag} {E : WX} : ∀ {ps : List (M (Bool × D) × M (Bool × D))} {σ : St} {H : Hp} {Q : List (V × V) → Hp → Prop}, rdOs K E ((flat2 ps).map .ex) σ H (fun vs H' => ∀ qs : List (V × V), vs = qs.flatMap (fun q => [q.1, q.2]) → Q qs H') → tPairs (ps.map fun p => (tD K E p.1, tD K E p.2)) σ H Q
  | [], σ, H, Q, h => h [] rfl
  | (k, v) :: r, σ, H, Q, h => by
    refine tD_mono h fun x H1 h1 => tD_mono h1 fun y H2 h2 => tPairs_of ?_
    exact rdOs_mono h2 fun vs H' q qs e => q ((x, y) :: qs) (by rw [e]; rfl)
theorem Rep.keyF {K : PySem.W.Frag} {H : Hp} {d : D} {v : V} {F : List Addr} {k : Key} (h : Rep K H d v F) (e : d.key = some k) : F = [] := by
  cases h <;> cases e <;> rfl
/-- pairs by their representation -/
theorem kpairs_rep {K : PySem.W.Frag} {H : Hp} : ∀ {ds : List D} {vs : List V} {F : List Addr} {kds : List (Key × D)}, Reps K H ds vs F → kpairs ds = some kds →
    ∃ kvs : List (Key × V), vs = kvs.flatMap (fun q => [kV q.1, q.2]) ∧ RepK K H kds kvs F
  | [], _, _, _, h, e => by cases h; cases e; exact ⟨[], rfl, .nil⟩
  | [_], _, _, _, h, e => by simp [kpairs] at e
  | k :: d :: r, _, _, _, h, e => by
    rw [kpairs] at e
    obtain ⟨kk, e1, e2⟩ := Option.bind_eq_some_iff.mp e
    obtain ⟨ps, e3, e4⟩ := Option.map_eq_some_iff.mp e2
    subst e4
    cases h with
    | @cons _ v1 F1 _ _ G1 h1 h2 =>
      cases h2 with
      | @cons _ v2 F2 _ _ G2 h3 h4 =>
        obtain ⟨kvs, g1, g2⟩ := kpairs_rep h4 e3
        have ek := h1.key e1
        have f1 : F1 = [] := h1.keyF e1
        subst ek
        subst f1
        exact ⟨(kk, v2) :: kvs, by rw [g1]; rfl, by simpa using RepK.cons (k := kk) h3 g2⟩
theorem RepK.merge {K : PySem.W.Frag} {H : Hp} : ∀ {more : List (Key × D)} {moreV : List (Key × V)} {G : List Addr} {kds : List (Key × D)} {kvs : List (Key × V)} {F : List Addr}, RepK K H more moreV G → RepK K H kds kvs F →
    ∃ F', RepK K H (kmerge kds more) (mergeK kvs moreV) F' ∧ ∀ b, b ∈ F' → b ∈ F ∨ b ∈ G
  | [], _, _, _, _, F, h, h' => by cases h; exact ⟨F, h', fun b m => .inl m⟩
  | (k, d) :: more, _, _, _, _, _, h, h' => by
    cases h with
    | cons h1 h2 =>
      obtain ⟨F1, e1, e2⟩ := RepK.put (k := k) h1 h'
      obtain ⟨F2, g1, g2⟩ := RepK.merge h2 e1
      exact ⟨F2, g1, fun b m => (g2 b m).elim (fun m => (e2 b m).imp (fun m => m) fun m => List.mem_append_left _ m) fun m => .inr (List.mem_append_right _ m)⟩
theorem flatMap_inj2 : ∀ {qs : List (V × V)} {kvs : List (Key × V)}, qs.flatMap (fun q => [q.1, q.2]) = kvs.flatMap (fun q => [kV q.1, q.2]) → qs = kvs.map fun q => (kV q.1, q.2)
  | [], [], _ => rfl
  | [], _ :: _, h => by simp at h
  | _ :: _, [], h => by simp at h
  | (a, b) :: qs, (k, v) :: kvs, h => by
    simp only [List.flatMap_cons, List.cons_append, List.nil_append, List.cons.injEq] at h
    obtain ⟨h1, h2, h3⟩ := h
    subst h1 h2
    rw [List.map_cons, flatMap_inj2 h3]
theorem tD_disp {K : PySem.W.Frag} {E : WX} {ps : List (M (Bool × D) × M (Bool × D))} (σ : St) (H : Hp) (Q : VK) (h : tD K E (dispM ps) σ H Q) : tDisp (ps.map fun p => (tD K E p.1, tD K E p.2)) σ H Q := by
  obtain ⟨P, B, ia, s, Fs, r, w⟩ := h
  intro p np
  have f0 : Fr P H (upd H p (.dK [])) := Fr.new np r.tr
  -- the new dict is protected while the pairs are made, and in nothing that they make
  have r1 : SR K (fun b => P b ∨ b ∈ [p]) (fun b => B b ∧ b ≠ p) ia s σ (upd H p (.dK [])) Fs := by
    have r0 := (r.new np (o := .dK [])).prot (F := [p]) (fun a m => by rw [List.mem_singleton.mp m, upd_same]; simp) (fun i o d a e n x m => by rw [List.mem_singleton.mp m] at x; exact r.ownTr e n x np)
    exact ⟨r0.len, r0.rep, r0.own, r0.iov, r0.dead, fun j a m => ⟨r0.inB j a m, fun e => r.trF m (e ▸ np)⟩, r0.tr, fun b q => ⟨r0.nb b q, fun e => by rw [e, upd_same] at q; cases q⟩⟩
  refine tPairs_of (rdOps (α := Bool × D) r1 w (fun x s' q cls dx H' rx => ?_) fun ds s' vs H' Gs Fs' q ov fr r' => ?_)
  · obtain ⟨Fs', h1, h2, h3⟩ := rx
    exact q cls dx H' ⟨Fs', f0.trans (h1.mono fun b m => .inl m), ⟨h2.len, h2.rep, fun i o d e n => let ⟨a, F, k1, k2, k3, k4, k5, k6⟩ := h2.own i o d e n; ⟨a, F, k1, k2, k3, k4, fun m => k5 (.inl m), k6⟩, h2.iov, h2.dead, fun j a m => (h2.inB j a m).1, fun b m => h2.tr b (.inl m), fun b m => (h2.nb b m).1⟩, h3⟩
  · intro qs eq
    split at q
    · rename_i kds ek
      split at q
      · rename_i hl
        obtain ⟨G, g1, g2, g3⟩ := ov.reps (allEx _)
        obtain ⟨kvs, k1, k2⟩ := kpairs_rep g1 ek
        obtain ⟨F', m1, m2⟩ := RepK.merge k2 (RepK.nil (K := K) (H := H'))
        have hp : H' p = some (.dK []) := (fr.p p (.inr List.mem_cons_self)).trans upd_same
        have m3 : ∀ b, b ∈ F' → b ∈ G := fun b m => (m2 b m).elim (fun m => by cases m) fun m => m
        have np' : p ∉ F' := fun m => (g3 p (m3 p m)).2 rfl
        refine ⟨hp, kvs, flatMap_inj2 (eq.symm.trans k1), by rw [← k2.length]; exact hl, q (.ref p) _ ?_⟩
        have im : ∀ b o, H' b = some o → Im o → upd H' p (.dK (mergeK [] kvs)) b = some o := fun b o hb hi => by rw [upd_ne fun e => by subst e; rw [hp] at hb; cases hb; exact hi]; exact hb
        have rm : RepM K (upd H' p (.dK (mergeK [] kvs))) (.dct (kmerge [] kds)) p F' := .dct upd_same (RepK.keep im m1 fun b m => upd_ne fun z => np' (z ▸ m))
        have fr2 : Fr P H (upd H' p (.dK (mergeK [] kvs))) := ⟨fun b hb => by
            have hbp : b ≠ p := fun e => r.tr b hb (by rw [e]; exact np)
            rw [upd_ne hbp]
            exact (fr.p b (.inl hb)).trans (upd_ne hbp), fun b o hb hi => im b o (fr.i b o (by rw [upd_ne (ne_of_none hb np)]; exact hb) hi) hi⟩
        have npF : ∀ j, p ∉ Fs' j := fun j m => (r'.inB j p m).2 rfl
        have r2 : SR K P B ia s' σ (upd H' p (.dK (mergeK [] kvs))) Fs' := by
          refine ⟨r'.len, fun j o d e => let ⟨v, h1, h2⟩ := r'.rep j o d e; ⟨v, h1, h2.keep im fun a m => upd_ne fun z => npF j (z ▸ m)⟩,
            fun j o d e n => let ⟨a, F, h1, h2, h3, h4, h5, h6⟩ := r'.own j o d e n; ⟨a, F, h1, h2, h3.keep im fun b m => upd_ne fun z => npF j (by rw [h2]; exact z ▸ m), h4, fun m => h5 (.inl m), h6⟩, r'.iov, r'.dead, fun j a m => (r'.inB j a m).1, fun b m => ?_, fun b m => ?_⟩
          · by_cases hb : b = p
            · subst hb; rw [upd_same]; simp
            · rw [upd_ne hb]; exact r'.tr b (.inl m)
          · by_cases hb : b = p
            · subst hb; rw [upd_same] at m; cases m
            · rw [upd_ne hb] at m; exact (r'.nb b m).1
        have no : NoOwn s' σ (p :: F') := by
          intro j o d a e n x m
          rcases List.mem_cons.mp m with rfl | m
          · obtain ⟨a', F, h1, h2, h3, h4, h5, h6⟩ := r'.own j o d e n
            rw [x] at h1; cases h1
            exact h5 (.inr List.mem_cons_self)
          · exact g2 j o d a e n x (m3 a m)
        refine ⟨p :: F', Fs', rm.rep, fr2, fun b m => ?_, r2.prot rm.rep.tr no, fun _ => ⟨p, F', rfl, rfl, rm, np', fun q => r.tr p q np, npF⟩⟩
        rcases List.mem_cons.mp m with rfl | m
        · exact r.nb _ np
        · exact (g3 b (m3 b m)).1
      · exact q.elim
    · exact q.elim
/-- {k: v, ..}; h: pe_disp (pps_cons ..) .. -/
theorem dm_disp {X : Cx} {E : WX} {e : Expr} {ps : List (M (Bool × D) × M (Bool × D))} (h : PE X e (tDisp (ps.map fun p => (tD X.K E p.1, tD X.K E p.2)))) : PE X e (tD X.K E (dispM ps)) := h.imp tD_disp
/-- {} -/
def emptyM : M (Bool × D) := fun s => .ok (true, .dct []) s
theorem de_dict0 {X : Cx} {E : WX} {pos : Pos} : PE X (.Dict [] [] pos) (tD X.K E emptyM) := pe_dnewK.imp fun σ H Q h => by
  obtain ⟨P, B, ia, s, Fs, r, w⟩ := h
  intro p np
  have rm : RepM X.K (upd H p (.dK [])) (.dct []) p [] := .dct upd_same .nil
  exact w (.ref p) _ ⟨[p], Fs, rm.rep, Fr.new np r.tr, fun b m => by rw [List.mem_singleton.mp m]; exact r.nb _ np, (r.new np).prot rm.rep.tr (NoOwn.cons r np .nil), fun _ => ⟨p, [], rfl, rfl, rm, nofun, fun q => r.tr p q np, fun j m => r.trF m np⟩⟩
end PV

/-! PV: list comprehensions; dict.get; methods of texts. -/
namespace PV
open PySem PySem.Spec L2

def killAll (s : S) : List Nat → S
  | [] => s
  | i :: is => (killAll s is).set i none
def nox {α : Type} (r : Res α) : Res α := match r with
  | .exc _ _ => .stuck
  | r => r
def lcL (t : Tg) (tt : M Bool) (te : M (Bool × D)) (vs : List Nat) : List D → List D → S → Res (List D)
  | [], acc, s => .ok acc s
  | d :: ds, acc, s => match t.put d s with
    | none => .stuck
    | some s1 => (nox (tt s1)).bind fun b s2 => if b = true then (nox (te s2)).bind fun y s3 => if acc.length < sizeLine then lcL t tt te vs ds (acc ++ [y.2]) (killAll s3 vs) else .stuck
      else lcL t tt te vs ds acc (killAll s2 vs)
/-- [te for t in it if tt]; vs: the slots of the comprehension's own names -/
def compM (it : M (List D)) (t : Tg) (tt : M Bool) (te : M (Bool × D)) (vs : List Nat) : M (Bool × D) := fun s => (it s).bind fun ds s1 => (lcL t tt te vs ds [] (killAll s1 vs)).bind fun acc s2 => .ok (true, .lst acc) s2
def yesM : M Bool := fun s => .ok true s
mutual
def Tg.slots : Tg → List Nat
  | .nm i => [i]
  | .tp ts => Tg.slotss ts
def Tg.slotss : List Tg → List Nat
  | [] => []
  | t :: ts => t.slots ++ Tg.slotss ts
end
theorem nox_post {α β : Type} {QX : Exn → S → Prop} {Q : β → S → Prop} {r : Res α} {f : α → S → Res β} (h : Post QX Q ((nox r).bind f)) : Post (fun _ _ => False) (fun a s => Post QX Q (f a s)) r := by
  cases r with
  | ok a s => exact h
  | exc x s => exact h
  | stuck => exact h
theorem killAll_len (s : S) : ∀ vs : List Nat, (killAll s vs).length = s.length
  | [] => rfl
  | v :: vs => by simp [killAll, killAll_len s vs]
theorem killAll_in {s : S} {i : Nat} : ∀ {vs : List Nat}, i ∈ vs → ∀ x, (killAll s vs)[i]? ≠ some (some x)
  | v :: vs, h, x => by
    rw [killAll]
    by_cases hv : i = v
    · subst hv
      intro e
      rw [List.getElem?_set] at e
      simp at e
    · rw [get_set_ne hv]
      rcases List.mem_cons.mp h with e | h
      · exact absurd e hv
      · exact killAll_in h x
theorem killAll_out {s : S} {i : Nat} : ∀ {vs : List Nat}, i ∉ vs → (killAll s vs)[i]? = s[i]?
  | [], _ => rfl
  | v :: vs, h => by
    rw [killAll, get_set_ne fun e => h (by rw [e]; exact List.mem_cons_self), killAll_out fun m => h (List.mem_cons_of_mem _ m)]
theorem wipe_in {σ : St} {i : Nat} (hi : i < σ.length) : ∀ {vs : List Nat}, i ∈ vs → (wipe σ vs)[i]? = some none
  | v :: vs, h => by
    rw [wipe]
    by_cases hv : i = v
    · subst hv
      rw [List.getElem?_set_self (by rw [wipe_length]; exact hi)]
    · rw [List.getElem?_set_ne fun e => hv e.symm]
      rcases List.mem_cons.mp h with e | h
      · exact absurd e hv
      · exact wipe_in hi h
theorem wipe_ext {σ σ2 : St} {vs : List Nat} (hl : σ2.length = σ.length) (h : ∀ j, j ∉ vs → σ2[j]? = σ[j]?) : wipe σ2 vs = wipe σ vs := by
  refine List.ext_getElem? fun j => ?_
  by_cases hj : j ∈ vs
  · by_cases hi : j < σ.length
    · rw [wipe_in (by rw [hl]; exact hi) hj, wipe_in hi hj]
    · rw [List.getElem?_eq_none (by rw [wipe_length, hl]; omega), List.getElem?_eq_none (by rw [wipe_length]; omega)]
  · rw [wipe_out hj, wipe_out hj, h j hj]
section
variable {K : PySem.W.Frag} {P B : Addr → Prop} {ia : Nat → Addr} {s : S} {σ σ' : St} {H H' : Hp} {Fs : Nat → List Addr}
/-- other values in slots that hold nothing -/
theorem SR.cong (r : SR K P B ia s σ H Fs) (hl : σ'.length = σ.length) (h : ∀ (i : Nat) (o : Own) (d : D), s[i]? = some (some (o, d)) → σ'[i]? = σ[i]?) : SR K P B ia s σ' H Fs :=
  ⟨by rw [hl]; exact r.len, fun i o d e => by rw [h i o d e]; exact r.rep i o d e, fun i o d e n => by rw [h i o d e]; exact r.own i o d e n, fun i d e => by rw [h i _ d e]; exact r.iov i d e, r.dead, r.inB, r.tr, r.nb⟩
theorem SR.killAll (r : SR K P B ia s σ H Fs) : ∀ vs : List Nat, ∃ Fs', SR K P B ia (PV.killAll s vs) σ H Fs' ∧ ∀ j a, a ∈ Fs' j → a ∈ Fs j
  | [] => ⟨Fs, r, fun _ _ m => m⟩
  | v :: vs => by
    obtain ⟨Fs', r', h⟩ := r.killAll vs
    by_cases hv : v < (PV.killAll s vs).length
    · refine ⟨_, r'.kill (List.getElem?_eq_getElem hv), fun j a m => ?_⟩
      by_cases hj : j = v
      · rw [if_pos hj] at m; cases m
      · rw [if_neg hj] at m; exact h j a m
    · refine ⟨Fs', ?_, h⟩
      rw [PV.killAll, List.set_eq_of_length_le (by omega)]
      exact r'
end
mutual
theorem put_ok2 {K : PySem.W.Frag} {P B : Addr → Prop} {ia : Nat → Addr} {H : Hp} : ∀ {t : Tg} {d : D} {s s' : S} {σ : St} {Fs : Nat → List Addr} {x : V} {F : List Addr} {Q : St → Hp → Prop}, t.put d s = some s' → SR K P B ia s σ H Fs → Rep K H d x F → (∀ a, a ∈ F → P a) → (∀ a, a ∈ F → B a) →
    (∀ σ' Fs', SR K P B ia s' σ' H Fs' → σ'.length = σ.length → (∀ j, j ∉ t.slots → σ'[j]? = σ[j]?) → Q σ' H) → gT K t x σ H Q
  | .nm i, d, s, s', σ, Fs, x, F, Q, h, r, hr, hp, hb, k => by
    rw [Tg.put] at h
    obtain ⟨y, e1, e2, e3⟩ := putS_inv h
    subst e3
    rw [gT]
    exact k _ _ (r.set hr (r.noOwn hp) hb e1 e2 (by decide) fun n => absurd rfl n) (by simp) fun j hj => List.getElem?_set_ne fun e => hj (by rw [Tg.slots, e]; exact List.mem_cons_self)
  | .tp ts, d, s, s', σ, Fs, x, F, Q, h, r, hr, hp, hb, k => by
    cases d with
    | tup ds =>
      rw [Tg.put] at h
      cases hr with
      | @tup a _ vs F h1 h2 =>
        rw [gT]
        exact ⟨a, vs, rfl, h1, by rw [← h2.length]; exact puts_len h, puts_ok2 h r h2 hp hb fun σ' Fs' r' l f => k σ' Fs' r' l fun j hj => f j (by rw [Tg.slots] at hj; exact hj)⟩
    | _ => simp [Tg.put] at h
theorem puts_ok2 {K : PySem.W.Frag} {P B : Addr → Prop} {ia : Nat → Addr} {H : Hp} : ∀ {ts : List Tg} {ds : List D} {s s' : S} {σ : St} {Fs : Nat → List Addr} {xs : List V} {F : List Addr} {Q : St → Hp → Prop}, Tg.puts ts ds s = some s' → SR K P B ia s σ H Fs → Reps K H ds xs F → (∀ a, a ∈ F → P a) → (∀ a, a ∈ F → B a) →
    (∀ σ' Fs', SR K P B ia s' σ' H Fs' → σ'.length = σ.length → (∀ j, j ∉ Tg.slotss ts → σ'[j]? = σ[j]?) → Q σ' H) → gTs K ts xs σ H Q
  | [], [], s, s', σ, Fs, xs, F, Q, h, r, hr, hp, hb, k => by
    cases hr
    rw [Tg.puts] at h; cases h
    rw [gTs]
    exact ⟨rfl, k σ Fs r rfl fun _ _ => rfl⟩
  | [], _ :: _, _, _, _, _, _, _, _, h, _, _, _, _, _ => by simp [Tg.puts] at h
  | _ :: _, [], _, _, _, _, _, _, _, h, _, _, _, _, _ => by simp [Tg.puts] at h
  | t :: ts, d :: ds, s, s', σ, Fs, xs, F, Q, h, r, hr, hp, hb, k => by
    rw [Tg.puts] at h
    obtain ⟨s1, e1, e2⟩ := Option.bind_eq_some_iff.mp h
    cases hr with
    | @cons _ v F1 _ vs G h1 h2 =>
      rw [gTs]
      refine ⟨v, vs, rfl, put_ok2 e1 r h1 (fun a m => hp a (List.mem_append_left _ m)) (fun a m => hb a (List.mem_append_left _ m)) fun σ1 Fs1 r1 l1 f1 => ?_⟩
      refine puts_ok2 e2 r1 h2 (fun a m => hp a (List.mem_append_right _ m)) (fun a m => hb a (List.mem_append_right _ m)) fun σ2 Fs2 r2 l2 f2 => k σ2 Fs2 r2 (l2.trans l1) fun j hj => ?_
      rw [Tg.slotss] at hj
      rw [f2 j fun m => hj (List.mem_append_right _ m), f1 j fun m => hj (List.mem_append_left _ m)]
end
abbrev EN : WX := fun _ _ _ _ => False
theorem tD_comp {K : PySem.W.Frag} {E : WX} {it : M (List D)} {t : Tg} {tt : M Bool} {te : M (Bool × D)} {vs : List Nat} (hs : ∀ i, i ∈ t.slots → i ∈ vs) (σ : St) (H : Hp) (Q : VK) (h : tD K E (compM it t tt te vs) σ H Q) : tLc (tI K E it) (gT K t) (tT K EN tt) (tD K EN te) vs σ H Q := by
  obtain ⟨P, B, ia, s, Fs, r, w⟩ := h
  refine ⟨P, B, ia, s, Fs, r, (Post.bind w).mono (fun _ _ q => q) fun ds s1 q J H1 P' Fs1 hP fr1 r1 ok p np => ?_⟩
  obtain ⟨inv, i0, keep, turn⟩ := ok
  have q := Post.bind q
  have npP : ¬ P' p := fun h => r1.tr p h np
  have Pne : ∀ {b}, P' b → b ≠ p := fun h e => npP (e ▸ h)
  let QX : Exn → S → Prop := fun x s' => ∀ cls dx H', RX K P B ia s' σ H H' x cls dx → E cls dx σ H'
  let QF : List D → S → Prop := fun acc s2 => ∀ v H', RV K P B ia s2 σ H H' true (.lst acc) v → Q v H'
  let W : Nat → Nat → Hp → Prop := fun i m H' => m + i = ds.length ∧ ∃ st Fs acc vacc F, (∀ i, i ∈ vs → ∀ x, st[i]? ≠ some (some x)) ∧ inv H' ∧ Fr P H H' ∧ H' p = some (.lst vacc) ∧ Reps K H' acc vacc F ∧ (∀ a, a ∈ F → B a ∧ a ≠ p) ∧
    SR K (fun b => (P' b ∨ b = p) ∨ b ∈ F) (fun b => B b ∧ b ≠ p) ia st (wipe σ vs) H' Fs ∧ Post QX QF (lcL t tt te vs (ds.drop i) acc st)
  have toWipe : ∀ {P0 B0 : Addr → Prop} {st : S} {σ0 : St} {H0 : Hp} {F0 : Nat → List Addr}, (∀ i, i ∈ vs → ∀ x, st[i]? ≠ some (some x)) → SR K P0 B0 ia st σ0 H0 F0 → SR K P0 B0 ia st (wipe σ0 vs) H0 F0 := fun hd r0 =>
    r0.cong (wipe_length _ _) fun i o d e => wipe_out fun m => hd i m _ e
  refine ⟨W, ⟨ds.length, by simp, ?_⟩, ?_⟩
  · obtain ⟨Fs2, r2, sub⟩ := r1.killAll vs
    have hd : ∀ i, i ∈ vs → ∀ x, (killAll s1 vs)[i]? ≠ some (some x) := fun i m x => killAll_in m x
    have fr2 : Fr P' H1 (upd H1 p (.lst [])) := Fr.new np r1.tr
    refine ⟨killAll s1 vs, Fs2, [], [], [], hd, keep _ _ i0 fr2, fr1.trans (fr2.mono hP), upd_same, .nil, fun a m => (by cases m), ?_, by simpa using q⟩
    have r3 := toWipe hd (r2.new np (o := .lst []))
    have r4 := r3.prot (F := [p]) (fun a m => by rw [List.mem_singleton.mp m, upd_same]; simp) (fun i o d a e n x m => by
      rw [List.mem_singleton.mp m] at x
      have hi : i ∉ vs := fun m => hd i m _ e
      rw [wipe_out hi] at x
      exact r2.ownTr e n x np)
    exact ⟨r4.len, r4.rep, fun i o d e n => let ⟨a, F, h1, h2, h3, h4, h5, h6⟩ := r4.own i o d e n; ⟨a, F, h1, h2, h3, h4, fun q => h5 (q.elim (fun q => q.imp (fun q => q) fun q => by rw [q]; exact List.mem_cons_self) fun m => by cases m), h6⟩,
      r4.iov, r4.dead, fun j a m => ⟨r4.inB j a m, fun e => r2.trF m (e ▸ np)⟩, fun b q => r4.tr b (q.elim (fun q => q.imp (fun q => q) fun q => by rw [q]; exact List.mem_cons_self) fun m => by cases m), fun b q => ⟨r4.nb b q, fun e => by rw [e, upd_same] at q; cases q⟩⟩
  · rintro i m H2 ⟨em, st, Fs2, acc, vacc, F, hd, i2, fr2, hp, hr, hb, r2, w2⟩
    obtain ⟨go, stop⟩ := turn i H2 i2
    cases e : ds[i]? with
    | none =>
      have hl : ds.length ≤ i := List.getElem?_eq_none_iff.mp e
      rw [List.drop_eq_nil_of_le hl, lcL] at w2
      refine .inl ⟨stop (by omega), w2 (.ref p) H2 ?_⟩
      have r3 : SR K (fun b => (P' b ∨ b = p) ∨ b ∈ F) (fun b => B b ∧ b ≠ p) ia st σ H2 Fs2 := r2.cong (by rw [wipe_length]) fun i o d e => (wipe_out fun m => hd i m _ e).symm
      refine ⟨p :: F, Fs2, .lst hp hr, fr2, fun a m => ?_, ?_, fun _ => ⟨p, F, rfl, rfl, .lst hp hr, fun m => (hb p m).2 rfl, fun q => npP (hP p q), fun j m => (r3.inB j p m).2 rfl⟩⟩
      · rcases List.mem_cons.mp m with rfl | m
        · exact r1.nb _ np
        · exact (hb a m).1
      · have r4 := r3.weak (P' := fun b => P b ∨ b ∈ p :: F) fun b q => q.elim (fun q => .inl (.inl (hP b q))) fun m => (List.mem_cons.mp m).elim (fun e => .inl (.inr e)) .inr
        exact ⟨r4.len, r4.rep, r4.own, r4.iov, r4.dead, fun j a m => (r4.inB j a m).1, r4.tr, fun b q => (r4.nb b q).1⟩
    | some d =>
      obtain ⟨g1, g2⟩ := go d e
      have hi : i < ds.length := (List.getElem?_eq_some_iff.mp e).1
      have ed : ds.drop i = d :: ds.drop (i + 1) := by
        rw [List.drop_eq_getElem_cons hi, (List.getElem?_eq_some_iff.mp e).2]
      rw [ed, lcL] at w2
      refine .inr ⟨g1, fun H' => W (i + 1) (m - 1) H', fun H' hN => ⟨m - 1, by omega, hN⟩, fun x H3 y => ?_⟩
      obtain ⟨hH, Fd, rep, hpd, hbd⟩ := g2 x H3 y
      have fr3 : Fr (fun b => (P' b ∨ b = p) ∨ b ∈ F) H2 H3 := by
        rcases hH with e | ⟨p', o, np', e⟩
        · subst e; exact Fr.refl
        · subst e; exact Fr.new np' r2.tr
      have r3 : SR K (fun b => (P' b ∨ b = p) ∨ b ∈ F) (fun b => B b ∧ b ≠ p) ia st (wipe σ vs) H3 Fs2 := by
        rcases hH with e | ⟨p', o, np', e⟩
        · subst e; exact r2
        · subst e; exact r2.new np'
      split at w2
      · exact w2.elim
      · rename_i s3 e3
        refine put_ok2 e3 r3 rep (fun a m => .inl (.inl (hpd a m))) (fun a m => ⟨hbd a m, Pne (hpd a m)⟩) fun σ4 Fs4 r4 l4 f4 => ?_
        have hw : wipe σ4 vs = wipe σ vs := by
          refine wipe_ext (by rw [l4, wipe_length]) fun j hj => ?_
          rw [f4 j fun m => hj (hs j m), wipe_out hj]
        refine ⟨hw, _, _, ia, s3, Fs4, r4, (nox_post w2).mono (fun _ _ q => q.elim) fun b s5 q5 H5 Fs5 fr5 r5 => ?_⟩
        have fr25 : Fr P H H5 := fr2.trans ((fr3.trans fr5).mono fun b h => .inl (.inl (hP b h)))
        have i5 : inv H5 := keep _ _ i2 ((fr3.trans fr5).mono fun b h => .inl (.inl h))
        have hp5 : H5 p = some (.lst vacc) := ((fr3.trans fr5).p p (.inl (.inr rfl))).trans hp
        have hr5 : Reps K H5 acc vacc F := Reps.keep (fr3.trans fr5).i hr fun a m => (fr3.trans fr5).p a (.inr m)
        cases b with
        | false =>
          rw [if_neg (by decide)] at q5
          refine iteF ?_
          obtain ⟨Fs6, r6, sub⟩ := r5.killAll vs
          have hd6 : ∀ i, i ∈ vs → ∀ x, (killAll s5 vs)[i]? ≠ some (some x) := fun i m x => killAll_in m x
          exact ⟨by omega, killAll s5 vs, Fs6, acc, vacc, F, hd6, i5, fr25, hp5, hr5, hb, by rw [← hw]; exact toWipe hd6 r6, q5⟩
        | true =>
          rw [if_pos rfl] at q5
          refine iteT ⟨_, _, ia, s5, Fs5, r5, (nox_post q5).mono (fun _ _ q => q.elim) fun y s6 q6 yv H6 rv => ?_⟩
          obtain ⟨G, Fs6, k1, k2, k3, k4, k5⟩ := rv
          split at q6
          · rename_i hz
            have hp6 : H6 p = some (.lst vacc) := (k2.p p (.inl (.inr rfl))).trans hp5
            have hr6 : Reps K H6 acc vacc F := Reps.keep k2.i hr5 fun a m => k2.p a (.inr m)
            refine ⟨vacc, hp6, by rw [← hr6.length]; exact hz, ?_⟩
            obtain ⟨Fs7, r7, sub⟩ := k4.killAll vs
            have hd7 : ∀ i, i ∈ vs → ∀ x, (killAll s6 vs)[i]? ≠ some (some x) := fun i m x => killAll_in m x
            have r8 := toWipe hd7 r7
            rw [hw] at r8
            have im : ∀ b o, H6 b = some o → Im o → upd H6 p (.lst (vacc ++ [yv])) b = some o := fun b o hx hi => by rw [upd_ne fun e => by subst e; rw [hp6] at hx; cases hx; exact hi]; exact hx
            have npF : ∀ a, a ∈ F ++ G → a ≠ p := fun a m => (List.mem_append.mp m).elim (fun m => (hb a m).2) fun m => (k3 a m).2
            have hr7 : Reps K (upd H6 p (.lst (vacc ++ [yv]))) (acc ++ [y.2]) (vacc ++ [yv]) (F ++ G) := Reps.keep im (hr6.append (Reps.one k1)) fun a m => upd_ne (npF a m)
            have fr6 : Fr P' H5 (upd H6 p (.lst (vacc ++ [yv]))) := ⟨fun b hb => by rw [upd_ne (Pne hb)]; exact k2.p b (.inl (.inl hb)), fun b o hb hi => im b o (k2.i b o hb hi) hi⟩
            refine ⟨by omega, killAll s6 vs, Fs7, acc ++ [y.2], vacc ++ [yv], F ++ G, hd7, keep _ _ i5 fr6, fr25.trans (fr6.mono hP), upd_same, hr7, fun a m => (List.mem_append.mp m).elim (hb a) (k3 a), ?_, q6⟩
            have r9 : SR K (fun b => (P' b ∨ b = p) ∨ b ∈ F ++ G) (fun b => B b ∧ b ≠ p) ia (killAll s6 vs) (wipe σ vs) H6 Fs7 := r8.weak fun b q => q.elim (fun q => .inl (.inl q)) fun m => (List.mem_append.mp m).elim (fun m => .inl (.inr m)) .inr
            have npS : ∀ j a, a ∈ Fs7 j → a ≠ p := fun j a m => (r9.inB j a m).2
            refine ⟨r9.len, fun j o d e => let ⟨v, h1, h2⟩ := r9.rep j o d e; ⟨v, h1, h2.keep im fun a m => upd_ne (npS j a m)⟩,
              fun j o d e n => let ⟨a, F, h1, h2, h3, h4, h5, h6⟩ := r9.own j o d e n; ⟨a, F, h1, h2, h3.keep im fun b m => upd_ne (npS j b (by rw [h2]; exact m)), h4, h5, h6⟩, r9.iov, r9.dead, r9.inB, fun b q => ?_, fun b q => ?_⟩
            · by_cases hbp : b = p
              · subst hbp; rw [upd_same]; simp
              · rw [upd_ne hbp]; exact r9.tr b q
            · by_cases hbp : b = p
              · subst hbp; rw [upd_same] at q; cases q
              · rw [upd_ne hbp] at q; exact r9.nb b q
          · exact q6.elim
section
variable {X : Cx}
theorem _root_.L2.PTs.imp {ifs : List Expr} {t t' : TT} (h : PTs X ifs t) (q : ∀ σ H Q, t' σ H Q → t σ H Q) : PTs X ifs t' := ⟨fun pins s σ H Q I w => h.run pins s σ H Q I (q σ H Q w)⟩
theorem dts_nil {E : WX} {K : PySem.W.Frag} : PTs X [] (tT K E yesM) := pts_nil.imp fun σ H Q h => by
  obtain ⟨P, B, ia, s, Fs, r, w⟩ := h
  exact w H Fs Fr.refl r
end
/-- a comprehension; h: pe_lc .. -/
theorem dm_comp {X : Cx} {E : WX} {e : Expr} {it : M (List D)} {t : Tg} {tt : M Bool} {te : M (Bool × D)} {vs : List Nat} (h : PE X e (tLc (tI X.K E it) (gT X.K t) (tT X.K EN tt) (tD X.K EN te) vs)) (hs : t.slots.all (fun i => vs.contains i) = true := by rfl) : PE X e (tD X.K E (compM it t tt te vs)) :=
  h.imp (tD_comp fun i m => by simpa using List.all_eq_true.mp hs i m)
/-- y = [..]; h: ps_setLc .. -/
theorem ds_comp {X : Cx} {E : WX} {st : Stmt} {i : Nat} {it : M (List D)} {t : Tg} {tt : M Bool} {te : M (Bool × D)} {vs : List Nat} (h : PS X st (tAsg (tLc (tI X.K E it) (gT X.K t) (tT X.K EN tt) (tD X.K EN te) vs) (gName i))) (hs : t.slots.all (fun i => vs.contains i) = true := by rfl) :
    PS X st (tS X.K E (setM i (compM it t tt te vs))) :=
  h.imp fun Dn σ H w => tD_comp (fun i m => by simpa using List.all_eq_true.mp hs i m) _ _ _ (tS_set Dn σ H w)
end PV

/-! PV: methods of texts, dict.get, chains of comparisons. -/
namespace PV
open PySem PySem.Spec L2

/-- a text, at once -/
def strM (a : Opd) : M (Bool × D) := op1 a fun x s => match x with
  | .str z => .ok (false, .str z) s
  | _ => .stuck
theorem tD_str {K : PySem.W.Frag} {E : WX} {a : Opd} {σ : St} {H : Hp} {Q : VK} (h : tD K E (strM a) σ H Q) : rdO K E a σ H fun x H1 => ∃ i, x = .str i ∧ Q (.str i) H1 := by
  obtain ⟨P, B, ia, s, Fs, r, w⟩ := h
  refine rd1 r ((op1_post w).mono (fun _ _ q => q) fun d s' q x H' F Fs' ov fr r' => ?_)
  split at q
  · exact ⟨_, ov.str_inv, q _ _ (.flat .str fr r')⟩
  · exact q.elim
/-- a method of a text: g of the text and the arguments -/
def methS (g : Str → List D → Option (Bool × D)) (o : Opd) (as : List Opd) : M (Bool × D) := opsM (.ex (strM o) :: as) fun ds s => match ds with
  | .str x :: ds => (match g x ds with
    | some r => .ok r s
    | none => .stuck)
  | _ => .stuck
/-- g is what the rule r asks -/
def OpS (K : PySem.W.Frag) (g : Str → List D → Option (Bool × D)) (r : V → List V → Hp → VK → Prop) : Prop :=
  ∀ {P B : Addr → Prop} {ia : Nat → Addr} {s : S} {σ : St} {H H0 : Hp} {Fs : Nat → List Addr} {x : Str} {os : List Opd} {ds : List D} {vs : List V} {Gs : List (List Addr)} {q : Bool × D} {Q : VK}, SR K P B ia s σ H Fs → OVs K B s σ H os ds vs Gs → Fr P H0 H → g x ds = some q →
    (∀ v H', RV K P B ia s σ H0 H' q.1 q.2 v → Q v H') → r (.str x) vs H Q
theorem rdMeth {K : PySem.W.Frag} {E : WX} {g : Str → List D → Option (Bool × D)} {r : V → List V → Hp → VK → Prop} (hr : OpS K g r) {o : Opd} {as : List Opd} (σ : St) (H : Hp) (Q : VK) (h : tD K E (methS g o as) σ H Q) :
    rdO K E o σ H fun x H1 => ∃ z, x = .str z ∧ rdOs K E as σ H1 fun xs H2 => r (.str z) xs H2 Q := by
  obtain ⟨P, B, ia, s, Fs, R, w⟩ := h
  have key : rdOs K E (.ex (strM o) :: as) σ H (fun vs H' => match vs with | .str z :: xs => r (.str z) xs H' Q | _ => True) := by
    refine rdOps R w (fun _ _ q => q) fun ds s' vs H' Gs Fs' q ov fr r' => ?_
    cases ov with
    | cons o1 _ _ t =>
      split at q
      · rename_i x ds' heq
        cases heq
        rw [o1.str_inv]
        split at q
        · rename_i e; exact hr r' t fr e q
        · exact q.elim
      · exact q.elim
  exact rdO_mono (tD_str key) fun x H1 ⟨z, e, k⟩ => ⟨z, e, k⟩
theorem tD_methB {K : PySem.W.Frag} {E : WX} {g : Str → List D → Option (Bool × D)} {r : V → List V → Hp → VK → Prop} (hr : OpS K g r) {o : Opd} {as : List Opd} (σ : St) (H : Hp) (Q : VK) (h : tD K E (methS g o as) σ H Q) : tBM K "str" r (rdO K E o) (rdOs K E as) σ H Q :=
  rdO_mono (rdMeth hr σ H Q h) fun x H1 ⟨z, e, k⟩ => by subst e; exact ⟨rfl, k⟩
theorem tD_meth1 {K : PySem.W.Frag} {E : WX} {g : Str → List D → Option (Bool × D)} {r : V → List V → Hp → VK → Prop} (hr : OpS K g r) {o a : Opd} (σ : St) (H : Hp) (Q : VK) (h : tD K E (methS g o [a]) σ H Q) : tM1 r (rdO K E o) (rdO K E a) σ H Q :=
  rdO_mono (rdMeth hr σ H Q h) fun x H1 ⟨z, e, k⟩ => by subst e; exact ⟨⟨z, rfl⟩, k⟩
section
variable {X : Cx} {E : WX} {e : Expr}
theorem dm_methB {g : Str → List D → Option (Bool × D)} {r : V → List V → Hp → VK → Prop} {o : Opd} {as : List Opd} (h : PE X e (tBM X.K "str" r (rdO X.K E o) (rdOs X.K E as))) (hr : OpS X.K g r) : PE X e (tD X.K E (methS g o as)) := h.imp (tD_methB hr)
theorem dm_meth1 {g : Str → List D → Option (Bool × D)} {r : V → List V → Hp → VK → Prop} {o a : Opd} (h : PE X e (tM1 r (rdO X.K E o) (rdO X.K E a))) (hr : OpS X.K g r) : PE X e (tD X.K E (methS g o [a])) := h.imp (tD_meth1 hr)
end
/-- x.find(y, i) -/
def findD (x : Str) : List D → Option (Bool × D)
  | [.str y, .int i] => some (false, .int (Txt.find3 x y i))
  | _ => none
theorem ops_find {K : PySem.W.Frag} : OpS K findD fun x xs H Q => ∃ (a b : Str) (i : Int), x = .str a ∧ xs = [.str b, .int i] ∧ Q (.int (Txt.find3 a b i)) H := by
  intro P B ia s σ H H0 Fs x os ds vs Gs q Q R ov fr e k
  unfold findD at e
  split at e
  · cases e
    cases ov with
    | cons o1 _ _ t =>
      cases t with
      | cons o2 _ _ t =>
        cases t
        exact ⟨_, _, _, rfl, by rw [o1.str_inv, o2.int_inv], k _ _ (.flat .int fr R)⟩
  · cases e
/-- texts of a list -/
def txts : List D → Option (List Str)
  | [] => some []
  | .str x :: ds => (txts ds).map fun xs => x :: xs
  | _ => none
theorem Reps.txts {K : PySem.W.Frag} {H : Hp} : ∀ {ds : List D} {vs : List V} {F : List Addr} {xs : List Str}, Reps K H ds vs F → PV.txts ds = some xs → vs = xs.map V.str ∧ F = []
  | [], _, _, _, h, e => by cases h; cases e; exact ⟨rfl, rfl⟩
  | d :: ds, _, _, _, h, e => by
    cases h with
    | cons h1 h2 =>
      cases h1 with
      | str =>
        rw [PV.txts] at e
        obtain ⟨xs', e1, e2⟩ := Option.map_eq_some_iff.mp e
        subst e2
        obtain ⟨h3, h4⟩ := h2.txts e1
        exact ⟨by rw [h3]; rfl, by rw [h4]; rfl⟩
      | _ => cases e
theorem reps_txts {K : PySem.W.Frag} {H : Hp} : ∀ xs : List Str, Reps K H (xs.map D.str) (xs.map V.str) []
  | [] => .nil
  | x :: xs => by simpa using Reps.cons (F := []) Rep.str (reps_txts xs)
/-- sep.join(xs) -/
def joinD (x : Str) : List D → Option (Bool × D)
  | [.lst ds] => (txts ds).bind fun ys => if (ys.map (·.length)).sum + ys.length * x.length ≤ 16777216 then some (false, .str (Txt.join x ys)) else none
  | [.tup ds] => (txts ds).bind fun ys => if (ys.map (·.length)).sum + ys.length * x.length ≤ 16777216 then some (false, .str (Txt.join x ys)) else none
  | _ => none
theorem ops_join {K : PySem.W.Frag} : OpS K joinD fun x xs H Q => ∃ a p, ∃ ys : List Str, x = .str a ∧ xs = [.ref p] ∧ (SqL K H p (ys.map V.str) ∨ SqT K H p (ys.map V.str)) ∧ (ys.map (·.length)).sum + ys.length * a.length ≤ 16777216 ∧ Q (.str (Txt.join a ys)) H := by
  intro P B ia s σ H H0 Fs x os ds vs Gs q Q R ov fr e k
  unfold joinD at e
  split at e
  · obtain ⟨ys, e1, e2⟩ := Option.bind_eq_some_iff.mp e
    split at e2
    · rename_i hz
      cases e2
      cases ov with
      | cons o1 _ _ t =>
        cases t
        obtain ⟨a, ws, G, rfl, h1, h2, _, _⟩ := o1.lst_inv
        obtain ⟨rfl, _⟩ := h2.txts e1
        exact ⟨_, _, ys, rfl, rfl, .inl (SqL.of h1), hz, k _ _ (.flat .str fr R)⟩
    · cases e2
  · obtain ⟨ys, e1, e2⟩ := Option.bind_eq_some_iff.mp e
    split at e2
    · rename_i hz
      cases e2
      cases ov with
      | cons o1 _ _ t =>
        cases t
        obtain ⟨a, ws, rfl, h1, h2, _⟩ := o1.tup_inv
        obtain ⟨rfl, _⟩ := h2.txts e1
        exact ⟨_, _, ys, rfl, rfl, .inr h1, hz, k _ _ (.flat .str fr R)⟩
    · cases e2
  · cases e
/-- x.split(y) -/
def splitD (x : Str) : List D → Option (Bool × D)
  | [.str y] => if (y.length == 0) = false ∧ x.length + 2 ≤ sizeLine then some (true, .lst ((Txt.split x y).map D.str)) else none
  | _ => none
theorem ops_split {K : PySem.W.Frag} : OpS K splitD fun x xs H Q => ∃ a b, x = .str a ∧ xs = [.str b] ∧ (b.length == 0) = false ∧ a.length + 2 ≤ sizeLine ∧ rNewStrs (Txt.split a b) H Q := by
  intro P B ia s σ H H0 Fs x os ds vs Gs q Q R ov fr e k
  unfold splitD at e
  split at e
  · split at e
    · rename_i hz
      cases e
      cases ov with
      | cons o1 _ _ t =>
        cases t
        exact ⟨_, _, rfl, by rw [o1.str_inv], hz.1, hz.2, fun p np => k _ _ (.lst (reps_txts _) .nil (fun _ m => nomatch m) fr R np)⟩
    · cases e
  · cases e

/-! ### d.get(k, x) at a slot -/
def isDct (s : S) (i : Nat) : Bool := match s[i]? with
  | some (some (_, .dct _)) => true
  | _ => false
def dgetM (i : Nat) (k x : M (Bool × D)) : M (Bool × D) := fun s => if isDct s i = true then opsM [.ex k, .ex x] (fun ds s1 => match s1[i]?, ds with
  | some (some (_, .dct kds)), [kk, y] => (match kk.key with
    | some key => .ok (false, (kget kds key).getD y) s1
    | none => .stuck)
  | _, _ => .stuck) s else .stuck
theorem tD_dget {K : PySem.W.Frag} {E : WX} {i : Nat} {k x : M (Bool × D)} (σ : St) (H : Hp) (Q : VK) (h : tD K E (dgetM i k x) σ H Q) : tDGet2 (tVar i) (tD K E k) (tD K E x) σ H Q := by
  obtain ⟨P, B, ia, s, Fs, R, w⟩ := h
  unfold dgetM at w
  split at w
  · rename_i hd
    unfold isDct at hd
    split at hd
    · rename_i o kds e
      obtain ⟨v, F0, hv, ov⟩ := R.opd e
      obtain ⟨a, kvs, G0, rfl, h1, _⟩ := ov.dct_inv
      refine ⟨.ref a, hv, a, rfl, .inl ⟨kvs, .inl h1⟩, ?_⟩
      have key : rdOs K E [.ex k, .ex x] σ H (fun vs H' => match vs with | [y, z] => ∃ o, DGet H' a y o ∧ Q (o.getD z) H' | _ => False) := by
        refine rdOps R w (fun _ _ q => q) fun ds s' vs H' Gs Fs' q ovs fr r' => ?_
        split at q
        · rename_i o' kds' kk y e1
          split at q
          · rename_i key ek
            cases ovs with
            | cons o1 n1 _ t =>
              cases t with
              | cons o2 n2 _ t =>
                cases t
                obtain ⟨v', F1, hv', ov'⟩ := r'.opd e1
                rw [hv] at hv'; cases hv'
                obtain ⟨a', kvs', G1, ea, h1', h2', no, ib⟩ := ov'.dct_inv
                cases ea
                refine ⟨valV kvs' key, .inl ⟨kvs', key, .inl h1', o1.rep.key ek, rfl⟩, ?_⟩
                rcases h2'.get key with ⟨q1, q2⟩ | ⟨d', w', G2, q1, q2, q3, q4⟩
                · rw [q1] at q; rw [q2]
                  exact q _ _ (.part o2.rep (n2 rfl) o2.inB fr r')
                · rw [q1] at q; rw [q2]
                  exact q _ _ (.part q3 (no.sub q4) (fun b m => ib b (q4 b m)) fr r')
          · exact q.elim
        · exact q.elim
      exact key
    · cases hd
  · exact w.elim
theorem dm_dget {X : Cx} {E : WX} {e : Expr} {i : Nat} {k x : M (Bool × D)} (h : PE X e (tDGet2 (tVar i) (tD X.K E k) (tD X.K E x))) : PE X e (tD X.K E (dgetM i k x)) := h.imp tD_dget

/-! ### a < b < c -/
theorem tD_chain {K : PySem.W.Frag} {E : WX} {r r' : R2} {g g' : D → D → Option (Bool × D)} {fa fb fc : M (Bool × D)} (hg : OpD K g r) (hg' : OpD K g' r') (σ : St) (H : Hp) (Q : VK) (h : tD K E (chainM g g' fa fb fc) σ H Q) : tChain r r' (tD K E fa) (tD K E fb) (tD K E fc) σ H Q := by
  obtain ⟨P, B, ia, s, Fs, R, w⟩ := h
  refine ⟨P, B, ia, s, Fs, R, (Post.bind w).mono (fun _ _ q => q) fun x s1 q v H1 rv => ?_⟩
  obtain ⟨F, Fs1, h1, h2, h3, h4, h5⟩ := rv
  refine ⟨_, B, ia, s1, Fs1, h4, (Post.bind q).mono (fun y s2 q cls dx H2 rx => q cls dx H2 (rx.weak h2 fun b m => .inl m)) fun y s2 q v2 H2 rv2 => ?_⟩
  obtain ⟨G, Fs2, g1, g2, g3, g4, g5⟩ := rv2
  have f02 : Fr P H H2 := h2.trans (g2.mono fun b m => .inl m)
  have r2 : SR K P B ia s2 σ H2 Fs2 := g4.weak fun b m => .inl (.inl m)
  have o1 : OV K B s2 σ H2 x.2 v F := ⟨h1.keep g2.i fun a m => g2.p a (.inr m), h3, .inl (g4.noOwn fun a m => .inl (.inr m))⟩
  have o2 : OV K B s2 σ H2 y.2 v2 G := ⟨g1, g3, .inl (g4.noOwn fun a m => .inr m)⟩
  split at q
  · rename_i z eg
    refine hg (g4.weak (P' := fun b => P b ∨ b ∈ G) fun b m => m.elim (fun m => .inl (.inl m)) .inr) o1 o2 (H0 := H2) Fr.refl eg fun w H3 rv3 => ?_
    obtain ⟨F3, Fs3, k1, k2, k3, k4, k5⟩ := rv3
    have ew : w = .bl true := by cases k1; rfl
    refine ⟨true, ew, iteT ⟨_, B, ia, s2, Fs3, k4.weak (P' := fun b => P b ∨ b ∈ G) fun b m => .inl m, (Post.bind q).mono (fun y s4 q cls dx H4 rx => q cls dx H4 (rx.weak (f02.trans (k2.mono fun b m => .inl m)) fun b m => .inl m)) fun y3 s4 q v4 H4 rv4 => ?_⟩⟩
    obtain ⟨F4, Fs4, m1, m2, m3, m4, m5⟩ := rv4
    split at q
    · rename_i e4
      exact hg' (m4.weak fun b m => .inl (.inl m)) ⟨(g1.keep k2.i fun a m => k2.p a (.inr m)).keep m2.i fun a m => m2.p a (.inr m), g3, .inl (m4.noOwn fun a m => .inl (.inr m))⟩ ⟨m1, m3, .inl (m4.noOwn fun a m => .inr m)⟩ (f02.trans ((k2.mono fun b m => .inl m).trans (m2.mono fun b m => .inl m))) e4 q
    · exact q.elim
  · rename_i z eg
    refine hg r2 o1 o2 f02 eg fun w H3 rv3 => ?_
    have ew : w = .bl false := by obtain ⟨F3, Fs3, k1, _⟩ := rv3; cases k1; rfl
    refine ⟨false, ew, iteF (q _ _ ?_)⟩
    obtain ⟨F3, Fs3, k1, k2, k3, k4, k5⟩ := rv3
    exact .flat .bl k2 (k4.weak fun b m => .inl m)
  · exact q.elim
theorem de_chain {X : Cx} {E : WX} {a b c : Expr} {op op' : CmpOp} {r r' : R2} {g g' : D → D → Option (Bool × D)} {fa fb fc : M (Bool × D)} {pos : Pos} (ho : OpR X (compareOp op) r) (ho' : OpR X (compareOp op') r') (hg : OpD X.K g r) (hg' : OpD X.K g' r') (ha : PE X a (tD X.K E fa)) (hb : PE X b (tD X.K E fb)) (hc : PE X c (tD X.K E fc))
    (hm : lastMarks [op, op'] [b, c] = false := by with_unfolding_all rfl) : PE X (.Compare a [op, op'] [b, c] pos) (tD X.K E (chainM g g' fa fb fc)) := (pe_chain ho ho' ha hb hc hm).imp (tD_chain hg hg')
end PV

/-! PV: what a printed text leans on: the module's constants, the defs' promises by level, what is not walked. -/
namespace PV
open PySem PySem.Spec L2
def stkM {α : Type} : M α := fun _ => .stuck
theorem ds_never {X : Cx} {E : WX} {st : Stmt} : PS X st (tS X.K E stkM) := ps_never.imp fun Dn σ H h => by
  obtain ⟨P, B, ia, s, Fs, r, w⟩ := h
  exact w.elim

/-- == of two of a kind at once; else as data -/
def eqS (neg : Bool) : D → D → Option (Bool × D)
  | .int i, .int j => some (false, .bl (if neg then !decide (i = j) else decide (i = j)))
  | .str i, .str j => some (false, .bl (if neg then !decide (i = j) else decide (i = j)))
  | .bl i, .bl j => some (false, .bl (if neg then !decide (i = j) else decide (i = j)))
  | x, y => eqDD neg x y
theorem opd_eqS {K : PySem.W.Frag} : OpD K (eqS false) (fun x y H Q => rEq x y H Q ∨ rEqD K x y H Q) := by
  intro P B ia s σ H H0 Fs dx dy q x y F G Q R o1 o2 fr e k
  unfold eqS at e
  split at e
  · cases e
    rw [o1.int_inv, o2.int_inv]
    refine .inl ⟨rfl, ?_⟩
    have := k _ _ (RV.flat .bl fr R)
    simpa using this
  · cases e
    rw [o1.str_inv, o2.str_inv]
    refine .inl ⟨rfl, ?_⟩
    have := k _ _ (RV.flat .bl fr R)
    simpa using this
  · cases e
    rw [o1.bl_inv, o2.bl_inv]
    refine .inl ⟨rfl, ?_⟩
    have := k _ _ (RV.flat .bl fr R)
    simpa using this
  · exact .inr (opd_eq R o1 o2 fr e k)
theorem opd_neS {K : PySem.W.Frag} : OpD K (eqS true) (fun x y H Q => rNe x y H Q ∨ rNeD K x y H Q) := by
  intro P B ia s σ H H0 Fs dx dy q x y F G Q R o1 o2 fr e k
  unfold eqS at e
  split at e
  · cases e
    rw [o1.int_inv, o2.int_inv]
    refine .inl ⟨rfl, ?_⟩
    have := k _ _ (RV.flat .bl fr R)
    simpa using this
  · cases e
    rw [o1.str_inv, o2.str_inv]
    refine .inl ⟨rfl, ?_⟩
    have := k _ _ (RV.flat .bl fr R)
    simpa using this
  · cases e
    rw [o1.bl_inv, o2.bl_inv]
    refine .inl ⟨rfl, ?_⟩
    have := k _ _ (RV.flat .bl fr R)
    simpa using this
  · exact .inr (opd_ne R o1 o2 fr e k)
theorem or_eqS {X : Cx} (hu : X.A.units + 64 < cLine) : OpR X (compareOp .Eq) (fun x y H Q => rEq x y H Q ∨ rEqD X.K x y H Q) := OpR.or op_eq (op_eqD hu)
theorem or_neS {X : Cx} (hu : X.A.units + 64 < cLine) : OpR X (compareOp .NotEq) (fun x y H Q => rNe x y H Q ∨ rNeD X.K x y H Q) := OpR.or op_ne (op_neD hu)
/-- a bool as a test -/
def truB (f : M (Bool × D)) : M Bool := fun s => (f s).bind fun r s' => match r.2 with
  | .bl b => .ok b s'
  | _ => .stuck
theorem tTest_of {K : PySem.W.Frag} {E : WX} {f : M (Bool × D)} {t : TE} (ht : ∀ σ H Q, tD K E f σ H Q → t σ H Q) (σ : St) (H : Hp) (Q : Bool → Hp → Prop) (h : tT K E (truB f) σ H Q) : tTest t σ H Q := by
  obtain ⟨P, B, ia, s, Fs, r, w⟩ := h
  refine ht _ _ _ ⟨P, B, ia, s, Fs, r, (Post.bind w).mono (fun _ _ q => q) fun a s' q v H' rv => ?_⟩
  obtain ⟨fr, d⟩ := a
  obtain ⟨F, Fs', ov, f1, r'⟩ := rv.ov
  cases d with
  | bl b => exact ⟨b, ov.bl_inv, q H' Fs' f1 r'⟩
  | _ => exact q.elim
section
variable {X : Cx} {E : WX} {a b c : Expr} {oa ob : Opd} {pos : Pos}
theorem dt_cmp {op : CmpOp} {g : D → D → Option (Bool × D)} {r : R2} (ho : OpR X (compareOp op) r) (hd : OpD X.K g r) (ha : PE X a (rdO X.K E oa)) (hb : PE X b (rdO X.K E ob)) (hm : behindInMarks op b = false) : PT X (.Compare a [op] [b] pos) (tT X.K E (truB (binM g oa ob))) :=
  (pt_cmpR ho ha hb hm).imp (tTest_of (tD_op hd))
theorem dt_chain {op op' : CmpOp} {r r' : R2} {g g' : D → D → Option (Bool × D)} {fa fb fc : M (Bool × D)} (ho : OpR X (compareOp op) r) (ho' : OpR X (compareOp op') r') (hg : OpD X.K g r) (hg' : OpD X.K g' r') (ha : PE X a (tD X.K E fa)) (hb : PE X b (tD X.K E fb)) (hc : PE X c (tD X.K E fc))
    (hm : lastMarks [op, op'] [b, c] = false := by with_unfolding_all rfl) : PT X (.Compare a [op, op'] [b, c] pos) (tT X.K E (truB (chainM g g' fa fb fc))) := (pt_chain ho ho' ha hb hc hm).imp (tTest_of (tD_chain hg hg'))
end
/-- the module's x holds what d says, and nobody changes it -/
def Gc (K : PySem.W.Frag) (mg : Str → Option Value) (x : Str) (d : D) : Prop := ∃ (u : Value) (v : V), mg x = some u ∧ RelV v u ∧ ∀ H, Rep K H d v []
section
variable {K : PySem.W.Frag} {mg : Str → Option Value} {x : Str}
theorem Gc.str {z : Str} (h : ∃ t, mg x = some (.str z t)) : Gc K mg x (.str z) := let ⟨t, e⟩ := h; ⟨_, .str z, e, ⟨t, rfl⟩, fun _ => .str⟩
theorem Gc.int {i : Int} (h : ∃ t, mg x = some (.int i t)) : Gc K mg x (.int i) := let ⟨t, e⟩ := h; ⟨_, .int i, e, ⟨t, rfl⟩, fun _ => .int⟩
theorem reps_strs {H : Hp} : ∀ xs : List Str, Reps K H (xs.map D.str) (xs.map V.str) []
  | [] => .nil
  | y :: ys => by
    have h := Reps.cons (Rep.str (K := K) (H := H) (x := y)) (reps_strs (H := H) ys)
    exact h
theorem Gc.strs {a : Addr} {xs : List Str} (h : mg x = some (.ref a)) (s : ∀ H, SqT K H a (xs.map V.str)) : Gc K mg x (.tup (xs.map D.str)) := ⟨_, .ref a, h, rfl, fun H => .tup (s H) (reps_strs xs)⟩
end
theorem de_glo {X : Cx} {E : WX} {x : Str} {d : D} {pos : Pos} (h : Gc X.K X.mg x d) (hg : Gl X x := by rfl) (hd : (x == ("__debug__" : Str)) = false := by decide) : PE X (.Name x pos) (tD X.K E (constM d)) := by
  obtain ⟨u, v, h1, h2, h3⟩ := h
  exact de_const (pe_glob hg h1 h2 hd) h3
theorem de_ty {X : Cx} {E : WX} {x : Str} {n : String} {pos : Pos} (h : X.mg x = none) (hg : Gl X x := by rfl) (hv : bootBuiltins x = some (.type n) := by rfl) (hn : x ≠ "__name__" := by decide) (hd : (x == ("__debug__" : Str)) = false := by decide) : PE X (.Name x pos) (tD X.K E (constM (.ty n))) :=
  de_const (v := .ty n) (pe_bltn hg h hv rfl hn hd) fun _ => .ty
/-- the def x keeps its promise by F at level k -/
def Kn (P : Program) (w : World) (K : PySem.W.Frag) (mg : Str → Option Value) (base : Heap) (k : Nat) (x : Str) (ps : List Str) (ios : List Nat) (F : FS) : Prop :=
  ∃ (f : Addr) (fd : FuncData), mg x = some (.ref f) ∧ PySem.W.keepIn K (.ref f) = true ∧ Binds K fd ps [] ∧ FnOk P w K mg base (L2.CX P w) k f fd ps (spF K ios ps.length F)
def stkF : FS := fun _ => .stuck
section
variable {P : Program} {w : World} {K : PySem.W.Frag} {mg : Str → Option Value} {base : Heap} {k : Nat} {x : Str} {ps : List Str} {ios : List Nat} {f : Addr} {fd : FuncData} {F : FS}
theorem Kn.zero (h1 : mg x = some (.ref f)) (h2 : PySem.W.keepIn K (.ref f) = true) (h3 : Binds K fd ps []) : Kn P w K mg base k x ps ios stkF :=
  ⟨f, fd, h1, h2, h3, fun vs H Q E h => h.1, fun A outer s H args us vs Q E hr h0 hb hv h => by
    obtain ⟨_, ds, Fa, _, _, _, _, h⟩ := h
    exact h.elim⟩
end
theorem de_callK {X : Cx} {E : WX} {k : Nat} {x : Str} {p pos : Pos} {e : Expr} {es : List Expr} {ps : List Str} {ios : List Nat} {F : FS} {os : List Opd} (G : Kn X.prog X.w X.K X.mg X.base k x ps ios F) (hr : Room k X.A) (tk : Takes X E)
    (ha : PAd X E (e :: es) os) (hg : Gl X x := by rfl) (hio : ioPos os 0 = ios := by rfl) (hn : os.length = ps.length := by rfl) (hdb : (x == ("__debug__" : Str)) = false := by decide) (he : starEach (e :: es) X.env = (false, eval e X.env) :: starEach es X.env := by rfl) (hpl : (backTo pos (starEach es X.env)).any (·.1) = false := by rfl) :
    PE X (.Call (.Name x p) (e :: es) [] pos) (tD X.K E (callM F os)) := by
  obtain ⟨f, fd, h1, h2, h3, h4⟩ := G
  exact de_call h4 hr hg h1 h2 h3 tk ha hio hn hdb he hpl
theorem sq_fz {K : PySem.W.Frag} {H : Hp} {a : Addr} {vs : List V} (h : SqL K H a vs) (o : Only H) : Fz K H a vs := by
  rcases h with (h | ⟨u, h⟩) | h
  · rcases o a with e | ⟨u, xs, e⟩
    · rw [h] at e; cases e
    · rw [h] at e; cases e
  · exact .inl ⟨u, h⟩
  · exact .inr h
theorem reps_ints {K : PySem.W.Frag} {H : Hp} : ∀ xs : List Int, Reps K H (xs.map D.int) (xs.map V.int) []
  | [] => .nil
  | y :: ys => by
    have h := Reps.cons (Rep.int (K := K) (H := H) (i := y)) (reps_ints (H := H) ys)
    exact h
/-- a law's promise from its function -/
theorem law_sp {K : PySem.W.Frag} {F : FS} {ns : List Int} (h : ∃ fr, F [.fro (ns.map .int)] = .ret fr (.bl true) []) {H : Hp} {a : Addr} (o : Only H) (q : SqL K H a (ns.map V.int)) :
    spF K [] 1 F [.ref a] H (fun v _ => v = .bl true) fun _ _ _ => False := by
  refine ⟨rfl, [.fro (ns.map .int)], fun _ => [], rfl, fun i d e => ?_, fun _ _ => rfl, fun j m => (nomatch m), ?_⟩
  · cases i with
    | zero => cases e; exact ⟨_, rfl, .lsz (sq_fz q o) (reps_ints ns)⟩
    | succ i => simp at e
  · obtain ⟨fr, e⟩ := h
    rw [e]
    intro v H' G Go fv
    have r := fv.rep
    cases r
    rfl
theorem cx_no {P : Program} {w : World} (H : Hp) (s : Shared) (e : Value) (s' : Shared) (h : L2.CX P w [] H s (fun _ _ _ => False) e s') : False := by
  obtain ⟨_, _, _, _, _, _, _, _, _, _, _, _, z⟩ := h
  exact z
/-- the law's end: its def keeps the promise by f, f says True -/
theorem walk_pv {l : PySem.W.OpenLaw} {k : Nat} {q : Program} {loose : List Str} {XP : (Str → Option Value) → Heap → Prop} {YP : World → Heap → Prop} {d : DefRec} {x : Str} (most : l.most = some 63) (nodef : d.params.defaults = []) (room : Room k PySem.callerA)
    (all : ∀ (w : World) (mg : Str → Option Value) (fa : Addr) (h : Heap), YP w h → h.Ns mainGlobals mg → mg d.name = some (.ref fa) → ∃ (K : PySem.W.Frag) (fd : FuncData) (f : FS), K.In h ∧ (∀ (s : Shared) (u : Value), BindsTo s fd ⟨[u], []⟩ [(x, u)]) ∧
      (∀ ns : List Int, ns.length ≤ 63 → (∀ i ∈ ns, Builtin.Int.intBits i ≤ 1048576) → ∃ fr, f [.fro (ns.map .int)] = .ret fr (.bl true) []) ∧ ∀ base : Heap, K.In base → base.Ns mainGlobals mg → FnOk l.prog w K mg base (L2.CX l.prog w) k fa fd [x] (spF K [] 1 f)) :
    PySem.W.WalkO q loose XP YP l.row.toRowW d [] (fun f vs => PySem.call f vs) := by
  refine Att.attach_callB most nodef fun w _ s1 mg _ fa _ _ _ _ a _ ns gr yy _ _ _ i4 i5 i6 i7 i8 i9 => ?_
  obtain ⟨K, fd, f, kin, bnd, val, keeps⟩ := all w mg fa _ yy gr.T.g i4
  exact law_call kin gr.T.g gr.T.b gr.T.builtins gr.T.nolimit i9 i5 i6 (Nat.le_trans i7 (by decide)) room keeps bnd (fun _ only sq => law_sp (val ns i7 i8) only sq) fun H e s' z => cx_no H s1 e s' z
end PV

/-! PV: the tape of the laws' draws. -/
namespace PV
open PySem PySem.Spec L2
noncomputable def tapeB : M Fl :=
  (seqM (setM 1 (compM (itM (varM 0)) (.nm 3) yesM (unM absD (.ex (unM toInt (.sl 3)))) [3]))
    (seqM (setM 2 (constM (.int 7)))
    (seqM (forM (itM (varM 1)) (.nm 3) (setM 2 (binM modD (.ex (unM toInt (.ex (binM addD (.ex (binM mulD (.sl 2) (.ex (constM (.int 31))))) (.sl 3))))) (.ex (constM (.int 2147483647))))))
    (retM (dispM [((constM (.str "cells")), (varM 1)), ((constM (.str "at")), (constM (.int 0))), ((constM (.str "left")), (constM (.int 0))), ((constM (.str "seed")), (varM 2)), ((constM (.str "salt")), (constM (.int 0)))])))))
noncomputable def takeA : M Fl :=
  (iteM (andM (truB (binM (eqS false) (.ex (binM ixD (.sl 0) (.ex (constM (.str "left"))))) (.ex (constM (.int 0))))) (truB (binM ltD (.ex (binM ixD (.sl 0) (.ex (constM (.str "at"))))) (.ex (unM lenD (.ex (binM ixD (.sl 0) (.ex (constM (.str "cells")))))))))) (seqM (setItM 0 (constM (.str "left")) (binM ixD (.ex (binM ixD (.sl 0) (.ex (constM (.str "cells"))))) (.ex (binM ixD (.sl 0) (.ex (constM (.str "at")))))))
    (setItM 0 (constM (.str "at")) (binM addD (.ex (binM ixD (.sl 0) (.ex (constM (.str "at"))))) (.ex (constM (.int 1)))))) nxM)
noncomputable def takeC : M Fl :=
  (seqM (iteM (truB (binM gtD (.ex (binM ixD (.sl 0) (.ex (constM (.str "left"))))) (.ex (constM (.int 0))))) (seqM (setM 2 (binM modD (.ex (unM toInt (.ex (binM ixD (.sl 0) (.ex (constM (.str "left"))))))) (.sl 1)))
    (seqM (setItM 0 (constM (.str "left")) (binM divD (.ex (binM ixD (.sl 0) (.ex (constM (.str "left"))))) (.sl 1)))
    (retM (moveM 2)))) nxM)
    (seqM (setItM 0 (constM (.str "salt")) (binM addD (.ex (binM ixD (.sl 0) (.ex (constM (.str "salt"))))) (.ex (constM (.int 1)))))
    (seqM (setM 3 (binM modD (.ex (unM toInt (.ex (binM addD (.ex (binM mulD (.ex (binM ixD (.sl 0) (.ex (constM (.str "seed"))))) (.ex (constM (.int 48271))))) (.ex (binM mulD (.ex (binM ixD (.sl 0) (.ex (constM (.str "salt"))))) (.ex (constM (.int 69621))))))))) (.ex (constM (.int 2147483647)))))
    (seqM (setM 3 (binM modD (.ex (unM toInt (.ex (binM addD (.ex (binM addD (.ex (binM mulD (.sl 3) (.sl 3))) (.ex (binM mulD (.ex (binM ixD (.sl 0) (.ex (constM (.str "salt"))))) (.ex (constM (.int 40692))))))) (.ex (constM (.int 12345))))))) (.ex (constM (.int 2147483399)))))
    (retM (binM modD (.ex (unM toInt (.sl 3))) (.sl 1)))))))
noncomputable def takeB : M Fl := seqM takeA takeC
/-- the tape as a value -/
def tpD (cs : List D) (at_ left seed salt : Int) : D := .dct [(.inr "cells", .lst cs), (.inr "at", .int at_), (.inr "left", .int left), (.inr "seed", .int seed), (.inr "salt", .int salt)]
section
variable {cs : List D} {a l e t x : Int}
theorem tp_cells : ixD (tpD cs a l e t) (.str "cells") = some (false, .lst cs) := by rfl
theorem tp_at : ixD (tpD cs a l e t) (.str "at") = some (false, .int a) := by rfl
theorem tp_left : ixD (tpD cs a l e t) (.str "left") = some (false, .int l) := by rfl
theorem tp_seed : ixD (tpD cs a l e t) (.str "seed") = some (false, .int e) := by rfl
theorem tp_salt : ixD (tpD cs a l e t) (.str "salt") = some (false, .int t) := by rfl
theorem st_at : setD (tpD cs a l e t) (.str "at") (.int x) = some (tpD cs x l e t) := by rfl
theorem st_left : setD (tpD cs a l e t) (.str "left") (.int x) = some (tpD cs a x e t) := by rfl
theorem st_salt : setD (tpD cs a l e t) (.str "salt") (.int x) = some (tpD cs a l e x) := by rfl
end
end PV

/-! PV: how the terms run: rows for simp. -/
namespace PV
open PySem PySem.Spec L2
/-- a sign of f, so that simp leaves f alone until its turn comes -/
structure Tok {α β : Type} (f : α → S → Res β) : Type where
def Res.bd {α β : Type} (r : Res α) (f : α → S → Res β) (_ : Tok f) : Res β := r.bind f
@[simp ↓] theorem bind_bd {α β : Type} (r : Res α) (f : α → S → Res β) : r.bind f = r.bd f ⟨⟩ := rfl
@[simp] theorem bd_ok {α β : Type} (a : α) (s : S) (f : α → S → Res β) (t : Tok f) : (Res.ok a s).bd f t = f a s := rfl
@[simp] theorem bd_exc {α β : Type} (x : Exn) (s : S) (f : α → S → Res β) (t : Tok f) : (Res.exc x s : Res α).bd f t = .exc x s := rfl
@[simp] theorem bd_stuck {α β : Type} (f : α → S → Res β) (t : Tok f) : (Res.stuck : Res α).bd f t = .stuck := rfl
section
variable {s : S}
@[simp] theorem gd_True : gd True = true := gd_yes trivial
@[simp] theorem gd_False : gd False = false := by
  cases h : gd False with
  | false => rfl
  | true => exact (gd_iff.mp h).elim
@[simp] theorem ev_seq (a b : M Fl) : seqM a b s = (a s).bind fun fl s' => match fl with
  | .nx => b s'
  | fl => .ok fl s' := rfl
@[simp] theorem ev_nx : nxM s = .ok .nx s := rfl
@[simp] theorem ev_bk : bkM s = .ok .bk s := rfl
@[simp] theorem ev_ct : ctM s = .ok .ct s := rfl
@[simp] theorem ev_drop (f : M (Bool × D)) : dropM f s = (f s).bind fun _ s' => .ok .nx s' := rfl
@[simp] theorem ev_ret (f : M (Bool × D)) : retM f s = (f s).bind fun r s' => .ok (.rt r.1 r.2) s' := rfl
@[simp] theorem ev_retN : retN s = .ok (.rt false .non) s := rfl
@[simp] theorem ev_set (i : Nat) (f : M (Bool × D)) : setM i f s = (f s).bind fun r s' => match putS s' i (if r.1 = true then .ow else .sh) r.2 with
  | some s2 => .ok .nx s2
  | none => .stuck := rfl
@[simp] theorem ev_putS (i : Nat) (o : Own) (d : D) : putS s i o d = match s[i]? with
  | some (some (.io, _)) => none
  | some _ => some (s.set i (some (o, d)))
  | none => none := rfl
@[simp] theorem ev_ite {α : Type} (t : M Bool) (a b : M α) : iteM t a b s = (t s).bind fun x s' => if x = true then a s' else b s' := rfl
@[simp] theorem ev_and (a b : M Bool) : andM a b s = (a s).bind fun x s' => if x = true then b s' else .ok false s' := rfl
@[simp] theorem ev_or (a b : M Bool) : orM a b s = (a s).bind fun x s' => if x = true then .ok true s' else b s' := rfl
@[simp] theorem ev_not (a : M Bool) : notM a s = (a s).bind fun b s' => .ok (!b) s' := rfl
@[simp] theorem ev_tru (a : Opd) : truM a s = op1 a (fun x s => match truD x with
  | some b => .ok b s
  | none => .stuck) s := rfl
@[simp] theorem ev_truB (f : M (Bool × D)) : truB f s = (f s).bind fun r s' => match r.2 with
  | .bl b => .ok b s'
  | _ => .stuck := rfl
@[simp] theorem ev_andV (a b : M (Bool × D)) : andV a b s = (a s).bind fun x s' => match truD x.2 with
  | some true => b s'
  | some false => .ok x s'
  | none => .stuck := rfl
@[simp] theorem ev_orV (a b : M (Bool × D)) : orV a b s = (a s).bind fun x s' => match truD x.2 with
  | some true => .ok x s'
  | some false => b s'
  | none => .stuck := rfl
@[simp] theorem ev_notV (a : Opd) : notV a s = op1 a (fun x s => match truD x with
  | some b => .ok (false, .bl (!b)) s
  | none => .stuck) s := rfl
@[simp] theorem ev_const (d : D) : constM d s = .ok (false, d) s := rfl
@[simp] theorem ev_var (i : Nat) : varM i s = match s[i]? with
  | some (some (.sh, d)) => .ok (false, d) s
  | some (some (.ow, d)) => .ok (false, d) (s.set i (some (.sh, d)))
  | _ => .stuck := rfl
@[simp] theorem ev_move (i : Nat) : moveM i s = match s[i]? with
  | some (some (.sh, d)) => .ok (false, d) s
  | some (some (.ow, d)) => .ok (true, d) (s.set i none)
  | _ => .stuck := rfl
@[simp] theorem ev_op1 {α : Type} (a : Opd) (k : D → S → Res α) : op1 a k s = (a.run s).bind fun x s1 => match a.get s1 x with
  | some dx => k dx s1
  | none => .stuck := rfl
@[simp] theorem ev_op2 {α : Type} (a b : Opd) (k : D → D → S → Res α) : op2 a b k s = (a.run s).bind fun x s1 => (b.run s1).bind fun y s2 => match a.get s2 x, b.get s2 y with
  | some dx, some dy => k dx dy s2
  | _, _ => .stuck := rfl
@[simp] theorem ev_runE (f : M (Bool × D)) : (Opd.ex f).run s = (f s).bind fun r s' => .ok (some r.2) s' := rfl
@[simp] theorem ev_runS (i : Nat) : (Opd.sl i).run s = match s[i]? with
    | some (some _) => .ok none s
    | _ => .stuck := rfl
@[simp] theorem ev_getE (f : M (Bool × D)) (x : Option D) : (Opd.ex f).get s x = x := rfl
@[simp] theorem ev_getS (i : Nat) (x : Option D) : (Opd.sl i).get s x = match s[i]? with
    | some (some (_, d)) => some d
    | _ => none := rfl
@[simp] theorem ev_un (g : D → Option (Bool × D)) (a : Opd) : unM g a s = op1 a (fun x s => match g x with
  | some r => .ok r s
  | none => .stuck) s := rfl
@[simp] theorem ev_bin (g : D → D → Option (Bool × D)) (a b : Opd) : binM g a b s = op2 a b (fun x y s => match g x y with
  | some r => .ok r s
  | none => .stuck) s := rfl
@[simp] theorem ev_ops {α : Type} (os : List Opd) (k : List D → S → Res α) : opsM os k s = (runs os s).bind fun xs s1 => match gets s1 os xs with
  | some ds => k ds s1
  | none => .stuck := rfl
@[simp] theorem ev_runs0 : runs [] s = .ok [] s := rfl
@[simp] theorem ev_runs (o : Opd) (os : List Opd) : runs (o :: os) s = (o.run s).bind fun x s1 => (runs os s1).bind fun xs s2 => .ok (x :: xs) s2 := rfl
@[simp] theorem ev_gets0 (xs : List (Option D)) : gets s [] xs = some [] := rfl
@[simp] theorem ev_gets (o : Opd) (os : List Opd) (x : Option D) (xs : List (Option D)) : gets s (o :: os) (x :: xs) = match o.get s x, gets s os xs with
    | some d, some ds => some (d :: ds)
    | _, _ => none := rfl
@[simp] theorem ev_tup (fs : List (M (Bool × D))) : tupM fs s = opsM (fs.map .ex) (fun ds s => if ds.length ≤ sizeLine then .ok (false, .tup ds) s else .stuck) s := rfl
@[simp] theorem ev_lst (fs : List (M (Bool × D))) : lstM fs s = opsM (fs.map .ex) (fun ds s => if ds.length ≤ sizeLine then .ok (true, .lst ds) s else .stuck) s := rfl
@[simp] theorem ev_call (F : FS) (os : List Opd) : callM F os s = opsM os (fun ds s => if decide (ioSlots os).Nodup && (ioSlots os).all (isMut s) then (match F ds with
  | .ret fr d outs => (match wb s (ioSlots os) outs with
    | some s' => .ok (fr, d) s'
    | none => .stuck)
  | .exc x outs => (match wb s (ioSlots os) outs with
    | some s' => .exc x s'
    | none => .stuck)
  | .stuck => .stuck) else .stuck) s := rfl
def boxD : D → Bool
  | .lst _ => true
  | .dct _ => true
  | _ => false
@[simp] theorem ev_box (i : Nat) : isBox s i = match s[i]? with
  | some (some (_, d)) => boxD d
  | _ => false := by
  unfold isBox boxD
  cases s[i]? with
  | none => rfl
  | some x =>
    cases x with
    | none => rfl
    | some x =>
      obtain ⟨o, d⟩ := x
      cases d <;> rfl
@[simp] theorem box_tp {cs : List D} {a l e t : Int} : boxD (tpD cs a l e t) = true := rfl
@[simp] theorem box_l {ds : List D} : boxD (.lst ds) = true := rfl
@[simp] theorem box_d {ds : List (Key × D)} : boxD (.dct ds) = true := rfl
@[simp] theorem ev_setIt (i : Nat) (k f : M (Bool × D)) : setItM i k f s = (f s).bind fun y s1 => if isBox s1 i = true then (k s1).bind fun kk s2 => (match s2[i]? with
  | some (some (o, x)) => if o = .sh then .stuck else (match setD x kk.2 y.2 with
    | some x' => .ok .nx (s2.set i (some (o, x')))
    | none => .stuck)
  | _ => .stuck) else .stuck := rfl
@[simp] theorem ev_disp (ps : List (M (Bool × D) × M (Bool × D))) : dispM ps s = opsM ((flat2 ps).map .ex) (fun ds s => match kpairs ds with
  | some kds => if kds.length ≤ 15 then .ok (true, .dct (kmerge [] kds)) s else .stuck
  | none => .stuck) s := rfl
@[simp] theorem ev_grow (g : List D → D → Option (List D)) (i : Nat) (f : M (Bool × D)) : growM g i f s = if isLst s i = true then (f s).bind fun y s1 => (match s1[i]? with
  | some (some (o, .lst ds)) => if o = .sh then .stuck else (match g ds y.2 with
    | some ds' => .ok (false, .non) (s1.set i (some (o, .lst ds')))
    | none => .stuck)
  | _ => .stuck) else .stuck := rfl
@[simp] theorem ev_isLst (i : Nat) : isLst s i = match s[i]? with
  | some (some (_, .lst _)) => true
  | _ => false := rfl
@[simp] theorem ev_itM (f : M (Bool × D)) : itM f s = (f s).bind fun r s' => match r.2 with
  | .lst ds => .ok ds s'
  | .tup ds => .ok ds s'
  | .fro ds => .ok ds s'
  | .str x => .ok (signs x) s'
  | _ => .stuck := rfl
noncomputable def rngD : D → Option (List D)
  | .int j => if gd (-(2 ^ 62) ≤ j ∧ j < 2 ^ 62) = true then some (intsD 0 j.toNat) else none
  | _ => none
@[simp] theorem ev_rng1 (f : M (Bool × D)) : rng1M f s = (f s).bind fun r s' => match rngD r.2 with
  | some ds => .ok ds s'
  | none => .stuck := by
  unfold rng1M rngD
  congr 1
  funext r s'
  cases r.2 with
  | int j =>
    by_cases h : gd (-(2 ^ 62) ≤ j ∧ j < 2 ^ 62) = true
    · simp only [if_pos h]
    · simp only [if_neg h]
  | _ => rfl
theorem rng_int {i : Int} (h0 : 0 ≤ i) (h : i ≤ 16777216) : rngD (.int i) = some (intsD 0 i.toNat) := by
  unfold rngD
  have h1 : -(2 ^ 62) ≤ i := Int.le_trans (by decide) h0
  have h2 : i < 2 ^ 62 := Int.lt_of_le_of_lt h (by decide)
  simp only [if_pos (gd_yes (And.intro h1 h2))]
theorem rng_nat {n : Nat} (h : n ≤ sizeLine) : rngD (.int n) = some (intsD 0 n) := by
  have e : sizeLine = 16777216 := by decide +kernel
  rw [e] at h
  have := rng_int (i := (n : Int)) (Int.natCast_nonneg _) (by omega)
  rw [this, Int.toNat_natCast]
@[simp] theorem ev_for (it : M (List D)) (t : Tg) (b : M Fl) : forM it t b s = (it s).bind fun ds s1 => forL t b ds s1 := rfl
@[simp] theorem ev_for0 (t : Tg) (b : M Fl) : forL t b [] s = .ok .nx s := rfl
@[simp] theorem ev_for1 (t : Tg) (b : M Fl) (d : D) (ds : List D) : forL t b (d :: ds) s = match t.put d s with
    | none => .stuck
    | some s1 => (b s1).bind fun fl s2 => (match fl with
      | .bk => .ok .nx s2
      | .rt fr d => .ok (.rt fr d) s2
      | _ => forL t b ds s2) := rfl
@[simp] theorem ev_flat0 : flat2 [] = [] := rfl
@[simp] theorem ev_flat1 (k v : M (Bool × D)) (r : List (M (Bool × D) × M (Bool × D))) : flat2 ((k, v) :: r) = k :: v :: flat2 r := rfl
@[simp] theorem ev_kp0 : kpairs [] = some [] := rfl
@[simp] theorem ev_kpS (x : Str) (d : D) (r : List D) : kpairs (.str x :: d :: r) = (kpairs r).map fun ps => (.inr x, d) :: ps := rfl
@[simp] theorem ev_kpI (x : Int) (d : D) (r : List D) : kpairs (.int x :: d :: r) = (kpairs r).map fun ps => (.inl x, d) :: ps := rfl
@[simp] theorem ev_comp (it : M (List D)) (t : Tg) (tt : M Bool) (te : M (Bool × D)) (vs : List Nat) : compM it t tt te vs s = (it s).bind fun ds s1 => (lcL t tt te vs ds [] (killAll s1 vs)).bind fun acc s2 => .ok (true, .lst acc) s2 := rfl
@[simp] theorem ev_yes : yesM s = .ok true s := rfl
@[simp] theorem ev_str (a : Opd) : strM a s = op1 a (fun x s => match x with
  | .str x => .ok (false, .str x) s
  | _ => .stuck) s := rfl
@[simp] theorem ev_meth (g : Str → List D → Option (Bool × D)) (o : Opd) (as : List Opd) : methS g o as s = opsM (.ex (strM o) :: as) (fun ds s => match ds with
  | .str x :: xs => (match g x xs with
    | some r => .ok r s
    | none => .stuck)
  | _ => .stuck) s := rfl
@[simp] theorem ev_int (a : Opd) : intM a s = op1 a (fun x s => match x with
  | .int i => .ok (false, .int i) s
  | _ => .stuck) s := rfl
@[simp] theorem ev_neg (a : Opd) : negM a s = op1 a (fun x s => match x with
  | .int i => .ok (false, .int (-i)) s
  | _ => .stuck) s := rfl
@[simp] theorem ev_putN (i : Nat) (d : D) : (Tg.nm i).put d s = putS s i .sh d := by rw [Tg.put]
end

section
variable {i j : Int} {x y : Str} {b c : Bool} {ds es : List D}
@[simp] theorem v_eqI {n : Bool} : eqS n (.int i) (.int j) = some (false, .bl (if n then !decide (i = j) else decide (i = j))) := rfl
@[simp] theorem v_eqT {n : Bool} : eqS n (.str x) (.str y) = some (false, .bl (if n then !decide (x = y) else decide (x = y))) := rfl
@[simp] theorem v_eqB {n : Bool} : eqS n (.bl b) (.bl c) = some (false, .bl (if n then !decide (b = c) else decide (b = c))) := rfl
@[simp] theorem v_ordI {f : Int → Int → Bool} {g : List Nat → List Nat → Bool} : ordD f g (.int i) (.int j) = some (false, .bl (f i j)) := rfl
@[simp] theorem v_ordS {f : Int → Int → Bool} {g : List Nat → List Nat → Bool} : ordD f g (.str x) (.str y) = some (false, .bl (g x.cps.toList y.cps.toList)) := rfl
@[simp] theorem v_int {C : Int → Int → Bool} {f : Int → Int → Int} : intD C f (.int i) (.int j) = if C i j then some (false, .int (f i j)) else none := rfl
@[simp] theorem v_addI : addD (.int i) (.int j) = some (false, .int (i + j)) := rfl
@[simp] theorem v_addS : addD (.str x) (.str y) = if x.length + y.length ≤ sizeLine then some (false, .str (x ++ y)) else none := rfl
@[simp] theorem v_addL : addD (.lst ds) (.lst es) = if ds.length + es.length ≤ sizeLine then some (true, .lst (ds ++ es)) else none := rfl
@[simp] theorem v_addT : addD (.tup ds) (.tup es) = if ds.length + es.length ≤ sizeLine then some (false, .tup (ds ++ es)) else none := rfl
@[simp] theorem v_lenL : lenD (.lst ds) = some (false, .int ds.length) := rfl
@[simp] theorem v_lenT : lenD (.tup ds) = some (false, .int ds.length) := rfl
@[simp] theorem v_lenF : lenD (.fro ds) = some (false, .int ds.length) := rfl
@[simp] theorem v_lenS : lenD (.str x) = if x.length ≤ sizeLine then some (false, .int x.length) else none := rfl
@[simp] theorem v_toI : toInt (.int i) = some (false, .int i) := rfl
@[simp] theorem v_abs : absD (.int i) = some (false, .int (if i < 0 then -i else i)) := rfl
@[simp] theorem v_truI : truD (.int i) = some (i != 0) := rfl
@[simp] theorem v_truB : truD (.bl b) = some b := rfl
@[simp] theorem v_truN : truD .non = some false := rfl
@[simp] theorem v_truL : truD (.lst ds) = some (!ds.isEmpty) := rfl
@[simp] theorem v_truT : truD (.tup ds) = some (!ds.isEmpty) := rfl
@[simp] theorem v_ixL : ixD (.lst ds) (.int i) = (atI ds i).map fun d => (false, d) := rfl
@[simp] theorem v_ixT : ixD (.tup ds) (.int i) = (atI ds i).map fun d => (false, d) := rfl
@[simp] theorem v_ixF : ixD (.fro ds) (.int i) = (atI ds i).map fun d => (false, d) := rfl
@[simp] theorem v_ixS : ixD (.str x) (.int i) = if x.length ≤ sizeLine then (atI x.cps.toList i).map fun c => (false, .str ⟨#[c]⟩) else none := rfl
@[simp] theorem v_app {d : D} : appD ds d = if ds.length < sizeLine then some (ds ++ [d]) else none := rfl
@[simp] theorem v_isN1 {n : Bool} : isD n .non .non = some (false, .bl (!n)) := rfl
theorem at_nat {α : Type} {xs : List α} {n : Nat} : atI xs (n : Int) = xs[n]? := by
  unfold atI ixN
  rw [if_pos (by omega)]
  by_cases h : n < xs.length
  · rw [if_pos (by omega)]; simp
  · rw [if_neg (by omega)]; simp; omega
theorem at_lt {α : Type} {xs : List α} (h0 : 0 ≤ i) (h : i < xs.length) : atI xs i = some (xs[i.toNat]'(by omega)) := by
  unfold atI ixN
  rw [if_pos h0, if_pos h]
  simp
end
section
variable {cs : List Int} {a l e t m : Int}
theorem g_mul1 {i j : Int} (h : -18446744073709551616 < j ∧ j < 18446744073709551616) : gd ((-(2 ^ 64) < i ∧ i < 2 ^ 64) ∨ (-(2 ^ 64) < j ∧ j < 2 ^ 64)) = true := gd_yes (.inr h)
theorem g_div {m : Int} (h3 : 0 < m) (h4 : m < 1073741824) : gd (0 < m ∧ m < 1073741824) = true := gd_yes ⟨h3, h4⟩
theorem m_all (x : Int) : -18446744073709551616 < x % 2147483647 ∧ x % 2147483647 < 18446744073709551616 := by omega
theorem m_lo (x : Int) : -18446744073709551616 < x % 2147483647 := by omega
theorem m_hi (x : Int) : x % 2147483647 < 18446744073709551616 := by omega
/-- what a draw gives -/
def TkOk (cs : List Int) (e m : Int) (R : Res Fl) : Prop := ∃ (r a l t : Int) (rest : S), 0 ≤ r ∧ r < m ∧ 0 ≤ a ∧ 0 ≤ l ∧ R = .ok (.rt false (.int r)) (some (.io, tpD (cs.map .int) a l e t) :: rest)
theorem take_c (h0 : 0 ≤ a) (hl : 0 ≤ l) (h3 : 0 < m) (h4 : m < 1073741824) : TkOk cs e m (takeC [some (.io, tpD (cs.map .int) a l e t), some (.sh, .int m), none, none]) := by
  unfold takeC
  by_cases h2 : 0 < l
  · simp [tp_left, tp_at, tp_cells, tp_seed, tp_salt, st_at, st_left, st_salt, h2, h3, h4]
    exact ⟨_, _, _, _, _, Int.emod_nonneg _ (by omega), Int.emod_lt_of_pos _ h3, h0, Int.ediv_nonneg hl (by omega), rfl⟩
  · simp [tp_left, tp_at, tp_cells, tp_seed, tp_salt, st_at, st_left, st_salt, h2, h3, h4, m_lo, m_hi]
    exact ⟨_, _, _, _, _, Int.emod_nonneg _ (by omega), Int.emod_lt_of_pos _ h3, h0, hl, rfl⟩
theorem take_ok (h0 : 0 ≤ a) (hl : 0 ≤ l) (hc : ∀ c ∈ cs, 0 ≤ c) (h3 : 0 < m) (h4 : m < 1073741824) : TkOk cs e m (takeB [some (.io, tpD (cs.map .int) a l e t), some (.sh, .int m), none, none]) := by
  unfold takeB
  rw [ev_seq]
  by_cases h1 : l = 0 ∧ a < cs.length
  · obtain ⟨rfl, h2⟩ := h1
    have e1 : atI (cs.map D.int) a = some (.int (cs[a.toNat]'(by omega))) := by rw [at_lt h0 (by simpa using h2)]; simp
    have e2 : takeA [some (.io, tpD (cs.map .int) a 0 e t), some (.sh, .int m), none, none] = .ok .nx [some (.io, tpD (cs.map .int) (a + 1) (cs[a.toNat]'(by omega)) e t), some (.sh, .int m), none, none] := by
      unfold takeA
      simp [tp_left, tp_at, tp_cells, tp_seed, tp_salt, st_at, st_left, st_salt, h2, e1]
    rw [e2]
    exact take_c (by omega) (hc _ (List.getElem_mem _)) h3 h4
  · have e2 : takeA [some (.io, tpD (cs.map .int) a l e t), some (.sh, .int m), none, none] = .ok .nx [some (.io, tpD (cs.map .int) a l e t), some (.sh, .int m), none, none] := by
      unfold takeA
      by_cases h2 : l = 0
      · have h5 : ¬ a < cs.length := fun q => h1 ⟨h2, q⟩
        simp [tp_left, tp_at, tp_cells, tp_seed, tp_salt, st_at, st_left, st_salt, h2, h5]
      · simp [tp_left, tp_at, tp_cells, tp_seed, tp_salt, st_at, st_left, st_salt, h2]
    rw [e2]
    exact take_c h0 hl h3 h4
/-- a tape -/
def Tape (d : D) : Prop := ∃ (cs : List Int) (a l e t : Int), d = tpD (cs.map .int) a l e t ∧ 0 ≤ a ∧ 0 ≤ l ∧ ∀ c ∈ cs, 0 ≤ c
theorem take_run {d : D} (h : Tape d) (h3 : 0 < m) (h4 : m < 1073741824) : ∃ (r : Int) (d' : D), 0 ≤ r ∧ r < m ∧ Tape d' ∧ runF [0] 2 4 takeB [d, .int m] = .ret false (.int r) [d'] := by
  obtain ⟨cs, a, l, e, t, rfl, h0, hl, hc⟩ := h
  obtain ⟨r, a', l', t', rest, r0, r1, r2, r3, eq⟩ := take_ok (e := e) (t := t) h0 hl hc h3 h4
  refine ⟨r, _, r0, r1, ⟨cs, a', l', e, t', rfl, r2, r3, hc⟩, ?_⟩
  have e0 : initS [0] 4 [tpD (cs.map .int) a l e t, .int m] = [some (.io, tpD (cs.map .int) a l e t), some (.sh, .int m), none, none] := rfl
  unfold runF
  simp only [List.length_cons, List.length_nil, e0, eq]
  rfl
theorem cells_run : ∀ (ns : List Int) (acc : List D) (x1 x2 : Slot), acc.length + ns.length ≤ 63 → lcL (.nm 3) yesM (unM absD (.ex (unM toInt (.sl 3)))) [3] (ns.map .int) acc [x1, none, none, none] = .ok (acc ++ ns.map fun i => D.int (if i < 0 then -i else i)) [x1, none, none, none]
  | [], acc, x1, x2, h => by simp [lcL]
  | n :: ns, acc, x1, x2, h => by
    have hz : acc.length < sizeLine := Nat.lt_of_lt_of_le (by simp at h; omega) (show 64 ≤ sizeLine by decide)
    have ih := cells_run ns (acc ++ [D.int (if n < 0 then -n else n)]) x1 x2 (by simp at h ⊢; omega)
    simp [lcL, killAll, nox, hz, ih]
theorem seed_run : ∀ (cs : List Int) (x0 x1 x3 : Slot) (e : Int), (∀ d, x3 ≠ some (.io, d)) → ∃ (e' : Int) (x3' : Slot), forL (.nm 3) (setM 2 (binM modD (.ex (unM toInt (.ex (binM addD (.ex (binM mulD (.sl 2) (.ex (constM (.int 31))))) (.sl 3))))) (.ex (constM (.int 2147483647))))) (cs.map .int) [x0, x1, some (.sh, .int e), x3] = .ok .nx [x0, x1, some (.sh, .int e'), x3']
  | [], x0, x1, x3, e, _ => ⟨e, x3, rfl⟩
  | c :: cs, x0, x1, x3, e, h => by
    obtain ⟨e', x3', ih⟩ := seed_run cs x0 x1 (some (.sh, .int c)) ((e * 31 + c) % 2147483647) (by simp)
    refine ⟨e', x3', ?_⟩
    rw [← ih]
    have ep : (Tg.nm 3).put (.int c) [x0, x1, some (.sh, .int e), x3] = some [x0, x1, some (.sh, .int e), some (.sh, .int c)] := by
      match x3, h with
      | none, _ => rfl
      | some (.sh, _), _ => rfl
      | some (.ow, _), _ => rfl
      | some (.io, d), h => exact absurd rfl (h d)
    rw [List.map_cons, ev_for1, ep]
    simp
theorem tape_run (ns : List Int) (h : ns.length ≤ 63) : ∃ d : D, Tape d ∧ runF [] 1 4 tapeB [.fro (ns.map .int)] = .ret true d [] := by
  have e0 : initS [] 4 [.fro (ns.map .int)] = [some (.sh, .fro (ns.map .int)), none, none, none] := rfl
  obtain ⟨e', x3', hs⟩ := seed_run (ns.map fun i => if i < 0 then -i else i) (some (.sh, .fro (ns.map .int))) (some (.sh, .lst (ns.map fun i => D.int (if i < 0 then -i else i)))) none 7 (by simp)
  have hc := cells_run ns [] (some (.sh, .fro (ns.map .int))) none (by simpa using h)
  have em : (ns.map fun i => if i < 0 then -i else i).map D.int = ns.map fun i => D.int (if i < 0 then -i else i) := by simp [Function.comp_def]
  refine ⟨tpD ((ns.map fun i => if i < 0 then -i else i).map .int) 0 0 e' 0, ⟨_, 0, 0, e', 0, rfl, Int.le_refl 0, Int.le_refl 0, fun c m => ?_⟩, ?_⟩
  · obtain ⟨i, _, rfl⟩ := List.mem_map.mp m
    split <;> omega
  · have ev : tapeB (initS [] 4 [.fro (ns.map .int)]) = .ok (.rt true (tpD ((ns.map fun i => if i < 0 then -i else i).map .int) 0 0 e' 0)) [some (.sh, .fro (ns.map .int)), some (.sh, .lst (ns.map fun i => D.int (if i < 0 then -i else i))), some (.sh, .int e'), x3'] := by
      rw [e0]
      unfold tapeB
      rw [em] at hs ⊢
      simp only [List.nil_append] at hc
      simp [killAll, hc, hs]
      rfl
    unfold runF
    simp only [List.length_cons, List.length_nil, ev]
    rfl
end
end PV

/-! PV: isinstance at each kind; _law_same says True of a value and itself. -/
namespace PV
open PySem PySem.Spec L2
section
variable {b : Bool} {i : Int} {x : Str} {ds : List D} {ks : List (Key × D)}
@[simp] theorem is_non_bool : isiD D.non (.ty "bool") = some (false, .bl false) := Eq.trans (by rfl) rfl
@[simp] theorem is_non_int : isiD D.non (.ty "int") = some (false, .bl false) := Eq.trans (by rfl) rfl
@[simp] theorem is_non_str : isiD D.non (.ty "str") = some (false, .bl false) := Eq.trans (by rfl) rfl
@[simp] theorem is_non_tuple : isiD D.non (.ty "tuple") = some (false, .bl false) := Eq.trans (by rfl) rfl
@[simp] theorem is_non_list : isiD D.non (.ty "list") = some (false, .bl false) := Eq.trans (by rfl) rfl
@[simp] theorem is_non_dict : isiD D.non (.ty "dict") = some (false, .bl false) := Eq.trans (by rfl) rfl
@[simp] theorem is_bl_bool : isiD (D.bl b) (.ty "bool") = some (false, .bl true) := Eq.trans (by rfl) rfl
@[simp] theorem is_bl_int : isiD (D.bl b) (.ty "int") = some (false, .bl true) := Eq.trans (by rfl) rfl
@[simp] theorem is_bl_str : isiD (D.bl b) (.ty "str") = some (false, .bl false) := Eq.trans (by rfl) rfl
@[simp] theorem is_bl_tuple : isiD (D.bl b) (.ty "tuple") = some (false, .bl false) := Eq.trans (by rfl) rfl
@[simp] theorem is_bl_list : isiD (D.bl b) (.ty "list") = some (false, .bl false) := Eq.trans (by rfl) rfl
@[simp] theorem is_bl_dict : isiD (D.bl b) (.ty "dict") = some (false, .bl false) := Eq.trans (by rfl) rfl
@[simp] theorem is_int_bool : isiD (D.int i) (.ty "bool") = some (false, .bl false) := Eq.trans (by rfl) rfl
@[simp] theorem is_int_int : isiD (D.int i) (.ty "int") = some (false, .bl true) := Eq.trans (by rfl) rfl
@[simp] theorem is_int_str : isiD (D.int i) (.ty "str") = some (false, .bl false) := Eq.trans (by rfl) rfl
@[simp] theorem is_int_tuple : isiD (D.int i) (.ty "tuple") = some (false, .bl false) := Eq.trans (by rfl) rfl
@[simp] theorem is_int_list : isiD (D.int i) (.ty "list") = some (false, .bl false) := Eq.trans (by rfl) rfl
@[simp] theorem is_int_dict : isiD (D.int i) (.ty "dict") = some (false, .bl false) := Eq.trans (by rfl) rfl
@[simp] theorem is_str_bool : isiD (D.str x) (.ty "bool") = some (false, .bl false) := Eq.trans (by rfl) rfl
@[simp] theorem is_str_int : isiD (D.str x) (.ty "int") = some (false, .bl false) := Eq.trans (by rfl) rfl
@[simp] theorem is_str_str : isiD (D.str x) (.ty "str") = some (false, .bl true) := Eq.trans (by rfl) rfl
@[simp] theorem is_str_tuple : isiD (D.str x) (.ty "tuple") = some (false, .bl false) := Eq.trans (by rfl) rfl
@[simp] theorem is_str_list : isiD (D.str x) (.ty "list") = some (false, .bl false) := Eq.trans (by rfl) rfl
@[simp] theorem is_str_dict : isiD (D.str x) (.ty "dict") = some (false, .bl false) := Eq.trans (by rfl) rfl
@[simp] theorem is_tup_bool : isiD (D.tup ds) (.ty "bool") = some (false, .bl false) := Eq.trans (by rfl) rfl
@[simp] theorem is_tup_int : isiD (D.tup ds) (.ty "int") = some (false, .bl false) := Eq.trans (by rfl) rfl
@[simp] theorem is_tup_str : isiD (D.tup ds) (.ty "str") = some (false, .bl false) := Eq.trans (by rfl) rfl
@[simp] theorem is_tup_tuple : isiD (D.tup ds) (.ty "tuple") = some (false, .bl true) := Eq.trans (by rfl) rfl
@[simp] theorem is_tup_list : isiD (D.tup ds) (.ty "list") = some (false, .bl false) := Eq.trans (by rfl) rfl
@[simp] theorem is_tup_dict : isiD (D.tup ds) (.ty "dict") = some (false, .bl false) := Eq.trans (by rfl) rfl
@[simp] theorem is_lst_bool : isiD (D.lst ds) (.ty "bool") = some (false, .bl false) := Eq.trans (by rfl) rfl
@[simp] theorem is_lst_int : isiD (D.lst ds) (.ty "int") = some (false, .bl false) := Eq.trans (by rfl) rfl
@[simp] theorem is_lst_str : isiD (D.lst ds) (.ty "str") = some (false, .bl false) := Eq.trans (by rfl) rfl
@[simp] theorem is_lst_tuple : isiD (D.lst ds) (.ty "tuple") = some (false, .bl false) := Eq.trans (by rfl) rfl
@[simp] theorem is_lst_list : isiD (D.lst ds) (.ty "list") = some (false, .bl true) := Eq.trans (by rfl) rfl
@[simp] theorem is_lst_dict : isiD (D.lst ds) (.ty "dict") = some (false, .bl false) := Eq.trans (by rfl) rfl
@[simp] theorem is_fro_bool : isiD (D.fro ds) (.ty "bool") = some (false, .bl false) := Eq.trans (by rfl) rfl
@[simp] theorem is_fro_int : isiD (D.fro ds) (.ty "int") = some (false, .bl false) := Eq.trans (by rfl) rfl
@[simp] theorem is_fro_str : isiD (D.fro ds) (.ty "str") = some (false, .bl false) := Eq.trans (by rfl) rfl
@[simp] theorem is_fro_tuple : isiD (D.fro ds) (.ty "tuple") = some (false, .bl false) := Eq.trans (by rfl) rfl
@[simp] theorem is_fro_list : isiD (D.fro ds) (.ty "list") = some (false, .bl true) := Eq.trans (by rfl) rfl
@[simp] theorem is_fro_dict : isiD (D.fro ds) (.ty "dict") = some (false, .bl false) := Eq.trans (by rfl) rfl
@[simp] theorem is_dct_bool : isiD (D.dct ks) (.ty "bool") = some (false, .bl false) := Eq.trans (by rfl) rfl
@[simp] theorem is_dct_int : isiD (D.dct ks) (.ty "int") = some (false, .bl false) := Eq.trans (by rfl) rfl
@[simp] theorem is_dct_str : isiD (D.dct ks) (.ty "str") = some (false, .bl false) := Eq.trans (by rfl) rfl
@[simp] theorem is_dct_tuple : isiD (D.dct ks) (.ty "tuple") = some (false, .bl false) := Eq.trans (by rfl) rfl
@[simp] theorem is_dct_list : isiD (D.dct ks) (.ty "list") = some (false, .bl false) := Eq.trans (by rfl) rfl
@[simp] theorem is_dct_dict : isiD (D.dct ks) (.ty "dict") = some (false, .bl true) := Eq.trans (by rfl) rfl
@[simp] theorem isN_non {g : Bool} : isD g D.non .non = some (false, .bl (!g)) := Eq.trans (by rfl) rfl
@[simp] theorem isN_bl {g : Bool} : isD g (D.bl b) .non = some (false, .bl g) := Eq.trans (by rfl) rfl
@[simp] theorem isN_int {g : Bool} : isD g (D.int i) .non = some (false, .bl g) := Eq.trans (by rfl) rfl
@[simp] theorem isN_str {g : Bool} : isD g (D.str x) .non = some (false, .bl g) := Eq.trans (by rfl) rfl
@[simp] theorem isN_tup {g : Bool} : isD g (D.tup ds) .non = some (false, .bl g) := Eq.trans (by rfl) rfl
@[simp] theorem isN_lst {g : Bool} : isD g (D.lst ds) .non = some (false, .bl g) := Eq.trans (by rfl) rfl
@[simp] theorem isN_fro {g : Bool} : isD g (D.fro ds) .non = some (false, .bl g) := Eq.trans (by rfl) rfl
@[simp] theorem isN_dct {g : Bool} : isD g (D.dct ks) .non = some (false, .bl g) := Eq.trans (by rfl) rfl
end
theorem runF_rt {ios : List Nat} {n m : Nat} {f : M Fl} {ds : List D} {fr : Bool} {d : D} {s : S} {outs : List D} (e : f (initS ios m ds) = .ok (.rt fr d) s) (hn : ds.length = n) (ho : outsOf s ios = some outs) : runF ios n m f ds = .ret fr d outs := by
  unfold runF
  rw [if_pos hn, e]
  simp only [ho]
theorem runF_nx {ios : List Nat} {n m : Nat} {f : M Fl} {ds : List D} {s : S} {outs : List D} (e : f (initS ios m ds) = .ok .nx s) (hn : ds.length = n) (ho : outsOf s ios = some outs) : runF ios n m f ds = .ret false .non outs := by
  unfold runF
  rw [if_pos hn, e]
  simp only [ho]
noncomputable def isIntB : M Fl :=
  (retM (andV (binM isiD (.sl 0) (.ex (constM (.ty "int")))) (notV (.ex (binM isiD (.sl 0) (.ex (constM (.ty "bool"))))))))
noncomputable def itemsB (sm : FS) : M Fl :=
  (seqM (iteM (truB (binM (eqS true) (.ex (unM lenD (.sl 0))) (.ex (unM lenD (.sl 1))))) (retM (constM (.bl false))) nxM)
    (seqM (forM (rng1M (unM lenD (.sl 1))) (.nm 2) (iteM (notM (truM (.ex (callM sm [.ex (binM ixD (.sl 0) (.sl 2)), .ex (binM ixD (.sl 1) (.sl 2))])))) (retM (constM (.bl false))) nxM))
    (retM (constM (.bl true)))))
noncomputable def sameB (ii it sm : FS) : M Fl :=
  (seqM (iteM (truB (binM (isD false) (.sl 1) (.ex (constM .non)))) (retM (binM (isD false) (.sl 0) (.ex (constM .non)))) nxM)
    (seqM (iteM (truM (.ex (binM isiD (.sl 1) (.ex (constM (.ty "bool")))))) (retM (andV (binM isiD (.sl 0) (.ex (constM (.ty "bool")))) (binM (eqS false) (.sl 0) (.sl 1)))) nxM)
    (seqM (iteM (truM (.ex (binM isiD (.sl 1) (.ex (constM (.ty "int")))))) (retM (andV (callM ii [.ex (varM 0)]) (binM (eqS false) (.sl 0) (.sl 1)))) nxM)
    (seqM (iteM (truM (.ex (binM isiD (.sl 1) (.ex (constM (.ty "str")))))) (retM (andV (binM isiD (.sl 0) (.ex (constM (.ty "str")))) (binM (eqS false) (.sl 0) (.sl 1)))) nxM)
    (seqM (iteM (truM (.ex (binM isiD (.sl 1) (.ex (constM (.ty "tuple")))))) (retM (andV (binM isiD (.sl 0) (.ex (constM (.ty "tuple")))) (callM it [.ex (varM 0), .ex (varM 1)]))) nxM)
    (seqM (iteM (truM (.ex (binM isiD (.sl 1) (.ex (constM (.ty "list")))))) (retM (andV (binM isiD (.sl 0) (.ex (constM (.ty "list")))) (callM it [.ex (varM 0), .ex (varM 1)]))) nxM)
    (seqM (iteM (orM (notM (truM (.ex (binM isiD (.sl 0) (.ex (constM (.ty "dict"))))))) (truB (binM (eqS true) (.ex (unM lenD (.sl 0))) (.ex (unM lenD (.sl 1)))))) (retM (constM (.bl false))) nxM)
    (seqM (forM (itM (varM 1)) (.nm 2) (iteM (orM (truB (binM (inD true) (.sl 2) (.sl 0))) (notM (truM (.ex (callM sm [.ex (binM ixD (.sl 0) (.sl 2)), .ex (binM ixD (.sl 1) (.sl 2))]))))) (retM (constM (.bl false))) nxM))
    (seqM (forM (itM (varM 0)) (.nm 2) (iteM (truM (.ex (binM isiD (.sl 2) (.ex (constM (.ty "bool")))))) (retM (constM (.bl false))) nxM))
    (retM (constM (.bl true))))))))))))
/-- plain values of some depth -/
def pl : Nat → D → Bool
  | 0, _ => false
  | _ + 1, .non => true
  | _ + 1, .bl _ => true
  | _ + 1, .int _ => true
  | _ + 1, .str _ => true
  | n + 1, .tup ds => ds.all (pl n) && decide (ds.length ≤ sizeLine)
  | n + 1, .lst ds => ds.all (pl n) && decide (ds.length ≤ sizeLine)
  | _ + 1, _ => false
theorem isInt_int (i : Int) : runF [] 1 1 isIntB [.int i] = .ret false (.bl true) [] := by
  have e : isIntB (initS [] 1 [.int i]) = .ok (.rt false (.bl true)) [some (.sh, .int i)] := by
    rw [show initS [] 1 [.int i] = [some (.sh, .int i)] from rfl]
    unfold isIntB
    simp
  exact runF_rt e rfl rfl
@[simp] theorem ios_e (f : M (Bool × D)) (os : List Opd) : ioSlots (.ex f :: os) = ioSlots os := rfl
@[simp] theorem ios_s (i : Nat) (os : List Opd) : ioSlots (.sl i :: os) = i :: ioSlots os := rfl
@[simp] theorem ios_0 : ioSlots [] = [] := rfl
@[simp] theorem wb_0 {s : S} : wb s [] [] = some s := rfl
@[simp] theorem wb_1 {s : S} {i : Nat} {is : List Nat} {d : D} {ds : List D} : wb s (i :: is) (d :: ds) = match s[i]? with
    | some (some (o, _)) => wb (s.set i (some (o, d))) is ds
    | _ => none := rfl
@[simp] theorem isMut_0 {s : S} {i : Nat} : isMut s i = match s[i]? with
  | some (some (o, _)) => decide (o ≠ .sh)
  | _ => false := rfl
theorem items_loop {sm : FS} {x y : D} {n : Nat} (h : ∀ j : Nat, j < n → ∃ d fr, ixD x (.int j) = some (false, d) ∧ ixD y (.int j) = some (false, d) ∧ sm [d, d] = .ret fr (.bl true) []) :
    ∀ (js : List Nat) (z : Slot), (∀ d, z ≠ some (.io, d)) → (∀ j ∈ js, j < n) → ∃ z' : Slot, forL (.nm 2) (iteM (notM (truM (.ex (callM sm [.ex (binM ixD (.sl 0) (.sl 2)), .ex (binM ixD (.sl 1) (.sl 2))])))) (retM (constM (.bl false))) nxM) (js.map fun i => .int (0 + (i : Nat))) [some (.sh, x), some (.sh, y), z] = .ok .nx [some (.sh, x), some (.sh, y), z']
  | [], z, _, _ => ⟨z, rfl⟩
  | j :: js, z, hz, hj => by
    obtain ⟨z', ih⟩ := items_loop h js (some (.sh, .int j)) (by simp) fun i m => hj i (List.mem_cons_of_mem _ m)
    refine ⟨z', ?_⟩
    rw [← ih]
    obtain ⟨d, fr, e1, e2, e3⟩ := h j (hj j List.mem_cons_self)
    have ep : (Tg.nm 2).put (.int (0 + (j : Nat))) [some (.sh, x), some (.sh, y), z] = some [some (.sh, x), some (.sh, y), some (.sh, .int j)] := by
      rw [Int.zero_add]
      match z, hz with
      | none, _ => rfl
      | some (.sh, _), _ => rfl
      | some (.ow, _), _ => rfl
      | some (.io, d), h => exact absurd rfl (h d)
    rw [List.map_cons, ev_for1, ep]
    simp [e1, e2, e3]
theorem items_run {sm : FS} {x y : D} {n : Nat} (hn : n ≤ sizeLine) (lx : lenD x = some (false, .int n)) (ly : lenD y = some (false, .int n)) (h : ∀ j : Nat, j < n → ∃ d fr, ixD x (.int j) = some (false, d) ∧ ixD y (.int j) = some (false, d) ∧ sm [d, d] = .ret fr (.bl true) []) :
    runF [] 2 3 (itemsB sm) [x, y] = .ret false (.bl true) [] := by
  obtain ⟨z', hl⟩ := items_loop h (List.range n) none (by simp) fun j m => List.mem_range.mp m
  have e : itemsB sm (initS [] 3 [x, y]) = .ok (.rt false (.bl true)) [some (.sh, x), some (.sh, y), z'] := by
    rw [show initS [] 3 [x, y] = [some (.sh, x), some (.sh, y), none] from rfl]
    unfold itemsB
    have hl2 : forL (.nm 2) (iteM (notM (truM (.ex (callM sm [.ex (binM ixD (.sl 0) (.sl 2)), .ex (binM ixD (.sl 1) (.sl 2))])))) (retM (constM (.bl false))) nxM) (intsD 0 n) [some (.sh, x), some (.sh, y), none] = .ok .nx [some (.sh, x), some (.sh, y), z'] := hl
    simp [lx, ly, hl2, rng_nat hn]
  exact runF_rt e rfl rfl
theorem same_refl {sm it ii : Nat → FS} (hs : ∀ k, sm (k + 1) = runF [] 2 3 (sameB (ii k) (it k) (sm k))) (hi : ∀ k, it (k + 1) = runF [] 2 3 (itemsB (sm k))) (hz : ∀ k, ii (k + 1) = runF [] 1 1 isIntB) :
    ∀ (n k : Nat) (d : D), pl n d = true → 2 * n + 1 ≤ k → sm k [d, d] = .ret false (.bl true) [] := by
  intro n
  induction n with
  | zero => intro k d h _; simp [pl] at h
  | succ n ihn =>
    intro k d h hk
    obtain ⟨k, rfl⟩ : ∃ k', k = k' + 2 := ⟨k - 2, by omega⟩
    have ih : ∀ e, pl n e = true → sm k [e, e] = .ret false (.bl true) [] := fun e he => ihn k e he (by omega)
    rw [hs]
    have e0 : initS [] 3 [d, d] = [some (.sh, d), some (.sh, d), none] := rfl
    match d, h with
    | .non, _ =>
      refine runF_rt (s := [some (.sh, .non), some (.sh, .non), none]) ?_ rfl rfl
      rw [e0]; unfold sameB; simp (implicitDefEqProofs := false)
    | .bl b, _ =>
      refine runF_rt (s := [some (.sh, .bl b), some (.sh, .bl b), none]) ?_ rfl rfl
      rw [e0]; unfold sameB; simp (implicitDefEqProofs := false)
    | .int i, _ =>
      refine runF_rt (s := [some (.sh, .int i), some (.sh, .int i), none]) ?_ rfl rfl
      rw [e0]; unfold sameB; simp (implicitDefEqProofs := false) [hz, isInt_int]
    | .str x, _ =>
      refine runF_rt (s := [some (.sh, .str x), some (.sh, .str x), none]) ?_ rfl rfl
      rw [e0]; unfold sameB; simp (implicitDefEqProofs := false)
    | .tup ds, h =>
      rw [pl, Bool.and_eq_true, List.all_eq_true, decide_eq_true_eq] at h
      obtain ⟨h1, h2⟩ := h
      have hit : it (k + 1) [.tup ds, .tup ds] = .ret false (.bl true) [] := by
        rw [hi]
        refine items_run h2 rfl rfl fun j hj => ?_
        have ea : ixD (.tup ds) (.int j) = some (false, ds[j]) := by rw [v_ixT, at_nat, List.getElem?_eq_getElem hj]; rfl
        exact ⟨ds[j], false, ea, ea, ih _ (h1 _ (List.getElem_mem hj))⟩
      refine runF_rt (s := [some (.sh, .tup ds), some (.sh, .tup ds), none]) ?_ rfl rfl
      rw [e0]; unfold sameB; simp (implicitDefEqProofs := false) [hit]
    | .lst ds, h =>
      rw [pl, Bool.and_eq_true, List.all_eq_true, decide_eq_true_eq] at h
      obtain ⟨h1, h2⟩ := h
      have hit : it (k + 1) [.lst ds, .lst ds] = .ret false (.bl true) [] := by
        rw [hi]
        refine items_run h2 rfl rfl fun j hj => ?_
        have ea : ixD (.lst ds) (.int j) = some (false, ds[j]) := by rw [v_ixL, at_nat, List.getElem?_eq_getElem hj]; rfl
        exact ⟨ds[j], false, ea, ea, ih _ (h1 _ (List.getElem_mem hj))⟩
      refine runF_rt (s := [some (.sh, .lst ds), some (.sh, .lst ds), none]) ?_ rfl rfl
      rw [e0]; unfold sameB; simp (implicitDefEqProofs := false) [hit]
    | .fro _, h => simp [pl] at h
    | .dct _, h => simp [pl] at h
    | .ty _, h => simp [pl] at h
end PV

/-! PV: texts: where a sign stands. -/
namespace PV
open PySem PySem.Spec L2 PySem.StrLaws PySem.Builtin.Str
theorem occ_keeps (s sub : Str) (hi : Nat) : ∀ (l : List Nat) (st : Array Nat × Nat), st.fst.size = 1 → (forIn l st (occBody s sub hi 1)).run.fst = st.fst
  | [], st, h => rfl
  | a :: l, st, h => by
    rw [List.forIn_cons]
    unfold occBody
    rw [if_neg (by omega)]
    exact occ_keeps s sub hi l _ h
theorem occ_first (s sub : Str) (hi : Nat) (p : Nat → Bool) (hp : ∀ i, p i = true ↔ (i + sub.length ≤ hi ∧ subAt s sub i = true)) : ∀ (l : List Nat) (free : Nat), (∀ i ∈ l, free ≤ i) →
    (forIn l ((#[] : Array Nat), free) (occBody s sub hi 1)).run.fst.toList = (l.find? p).toList
  | [], free, _ => by simp
  | a :: l, free, hf => by
    rw [List.forIn_cons]
    unfold occBody
    have ha : free ≤ a := hf a List.mem_cons_self
    by_cases hc : a + sub.length ≤ hi ∧ subAt s sub a = true
    · have c1 : ((((#[] : Array Nat), free).fst.size < 1 ∧ ((#[] : Array Nat), free).snd ≤ a) ∧ a + sub.length ≤ hi) ∧ subAt s sub a = true := ⟨⟨⟨by simp, ha⟩, hc.1⟩, hc.2⟩
      rw [if_pos c1, List.find?_cons_of_pos ((hp a).mpr hc)]
      have := occ_keeps s sub hi l ((#[] : Array Nat).push a, a + sub.length) (by simp)
      show (forIn l ((#[] : Array Nat).push a, a + sub.length) (occBody s sub hi 1)).run.fst.toList = _
      rw [this]
      simp
    · have c2 : ¬ (((((#[] : Array Nat), free).fst.size < 1 ∧ ((#[] : Array Nat), free).snd ≤ a) ∧ a + sub.length ≤ hi) ∧ subAt s sub a = true) := fun h => hc ⟨h.1.2, h.2⟩
      rw [if_neg c2, List.find?_cons_of_neg (fun h => hc ((hp a).mp h))]
      exact occ_first s sub hi p hp l free fun i hi' => hf i (List.mem_cons_of_mem _ hi')
/-- where c stands next, from i on; the end if nowhere -/
def nextAt (l : List Nat) (c i : Nat) : Nat := i + ((l.drop i).takeWhile fun z => decide (z ≠ c)).length
theorem nextAt_le {l : List Nat} {c i : Nat} (h : i ≤ l.length) : nextAt l c i ≤ l.length := by
  unfold nextAt
  have := (List.takeWhile_sublist (fun z => decide (z ≠ c)) (l := l.drop i)).length_le
  rw [List.length_drop] at this
  omega
theorem nextAt_hit {l : List Nat} {c i : Nat} (h : l[i]? = some c) : nextAt l c i = i := by
  obtain ⟨h1, h2⟩ := List.getElem?_eq_some_iff.mp h
  unfold nextAt
  rw [List.drop_eq_getElem_cons h1, h2, List.takeWhile_cons_of_neg (by simp)]
  rfl
theorem nextAt_miss {l : List Nat} {c i z : Nat} (h : l[i]? = some z) (hz : z ≠ c) : nextAt l c i = nextAt l c (i + 1) := by
  obtain ⟨h1, h2⟩ := List.getElem?_eq_some_iff.mp h
  unfold nextAt
  rw [List.drop_eq_getElem_cons h1, h2, List.takeWhile_cons_of_pos (by simpa using hz), List.length_cons]
  omega
theorem nextAt_end {l : List Nat} {c i : Nat} (h : l.length ≤ i) : nextAt l c i = i := by
  unfold nextAt
  rw [List.drop_eq_nil_of_le h]
  rfl
theorem find_range (l : List Nat) (c : Nat) : ∀ (n i : Nat), i + n = l.length + 1 → ((List.range' i n).find? fun j => decide (l[j]? = some c)) = if nextAt l c i < l.length then some (nextAt l c i) else none
  | 0, i, h => by
    rw [nextAt_end (by omega), if_neg (by omega)]
    rfl
  | n + 1, i, h => by
    rw [List.range'_succ]
    by_cases hc : l[i]? = some c
    · rw [List.find?_cons_of_pos (by simpa using hc), nextAt_hit hc, if_pos (List.getElem?_eq_some_iff.mp hc).1]
    · rw [List.find?_cons_of_neg (by simpa using hc), find_range l c n (i + 1) (by omega)]
      by_cases hi : i < l.length
      · have e : l[i]? = some l[i] := List.getElem?_eq_getElem hi
        rw [nextAt_miss e fun q => hc (by rw [e, q])]
      · rw [nextAt_end (i := i) (by omega), nextAt_end (i := i + 1) (by omega), if_neg (by omega), if_neg (by omega)]
theorem find_one (x : Str) (c i : Nat) (h : i ≤ x.length) : Txt.find3 x ⟨#[c]⟩ (i : Int) = if nextAt x.cps.toList c i < x.cps.toList.length then ((nextAt x.cps.toList c i : Nat) : Int) else -1 := by
  have hl : x.cps.toList.length = x.length := by simp [Str.length]
  unfold Txt.find3
  have hf : fromIndex x.length (i : Int) = i := by unfold fromIndex; rw [if_neg (by omega)]; omega
  rw [hf, occ_eq]
  have key := occ_first x ⟨#[c]⟩ x.length (fun j => decide (x.cps.toList[j]? = some c)) (fun j => by rw [decide_eq_true_eq, subAt_one]) (List.range' i (x.length + 1 - i)) i (fun j m => (List.mem_range'_1.mp m).1)
  rw [key, find_range _ _ _ _ (by omega)]
  by_cases h5 : nextAt x.cps.toList c i < x.cps.toList.length
  · rw [if_pos h5, if_pos h5]; rfl
  · rw [if_neg h5, if_neg h5]; rfl
end PV

/-! PV: texts by their signs. -/
namespace PV
open PySem PySem.Spec L2
def tx (l : List Nat) : Str := ⟨l.toArray⟩
theorem tx_of (x : Str) : x = tx x.cps.toList := rfl
@[simp] theorem tx_list (l : List Nat) : (tx l).cps.toList = l := rfl
@[simp] theorem tx_len (l : List Nat) : (tx l).length = l.length := by simp [tx, Str.length]
theorem tx_inj {l m : List Nat} : tx l = tx m ↔ l = m := ⟨fun h => by simpa using congrArg (fun z : Str => z.cps.toList) h, fun h => by rw [h]⟩
/-- c stands in y -/
def hasC (y : Str) (c : Nat) : Bool := decide (c ∈ y.cps.toList)
section
variable {s : S} {l m : List Nat} {c i : Nat} {n : Bool}
@[simp] theorem t_len (hs : l.length ≤ sizeLine) : lenD (.str (tx l)) = some (false, .int l.length) := by simp [hs]
@[simp] theorem t_ix (hs : l.length ≤ sizeLine) (h : l[i]? = some c) : ixD (.str (tx l)) (.int i) = some (false, .str (tx [c])) := by
  rw [v_ixS, tx_len, if_pos hs, tx_list, at_nat, h]; rfl
@[simp] theorem t_in {y : Str} : inD n (.str (tx [c])) (.str y) = some (false, .bl (if n then !hasC y c else hasC y c)) := by
  have e : inStr (tx [c]) y = hasC y c := PySem.StrLaws.found_one y c
  unfold inD
  simp only [e]
theorem t_cut {i j : Nat} (h : i ≤ l.length) : cutS (tx l) (some (i : Int)) (some (j : Int)) = tx ((l.drop i).take (j - i)) := by
  unfold cutS
  rw [tx_list, tx_len, HT.sIx_nat, HT.sIx_nat, Nat.min_eq_left h]
  have : (l.drop i).take (min j l.length - i) = (l.drop i).take (j - i) := by
    by_cases hj : j ≤ l.length
    · rw [Nat.min_eq_left hj]
    · rw [Nat.min_eq_right (by omega), List.take_of_length_le (by simp), List.take_of_length_le (by simp; omega)]
  rw [this]
  rfl
theorem t_drop {i : Nat} (h : i ≤ l.length) : cutS (tx l) (some (i : Int)) none = tx (l.drop i) := by
  unfold cutS
  rw [tx_list, tx_len, HT.sIx_nat, HT.sIx_none, Nat.min_eq_left h]
  rw [List.take_of_length_le (by simp)]
  rfl
theorem t_slice {i j : Nat} (hs : l.length ≤ sizeLine) (h : i ≤ l.length) : sliceD (some (i : Int)) (some (j : Int)) (.str (tx l)) = some (false, .str (tx ((l.drop i).take (j - i)))) := by
  show (if (tx l).length ≤ sizeLine then some (false, D.str (cutS (tx l) (some (i : Int)) (some (j : Int)))) else none) = _
  rw [if_pos (by simpa using hs), t_cut h]
theorem t_tail {i : Nat} (hs : l.length ≤ sizeLine) (h : i ≤ l.length) : sliceD (some (i : Int)) none (.str (tx l)) = some (false, .str (tx (l.drop i))) := by
  show (if (tx l).length ≤ sizeLine then some (false, D.str (cutS (tx l) (some (i : Int)) none)) else none) = _
  rw [if_pos (by simpa using hs), t_drop h]
theorem t_signs : signs (tx l) = l.map fun c => .str (tx [c]) := rfl
theorem t_find (h : i ≤ l.length) : findD (tx l) [.str (tx [c]), .int i] = some (false, .int (if nextAt l c i < l.length then ((nextAt l c i : Nat) : Int) else -1)) := by
  unfold findD
  have := find_one (tx l) c i (by simpa using h)
  rw [tx_list] at this
  simp only []
  rw [show (⟨#[c]⟩ : Str) = tx [c] from rfl] at this
  rw [this]
@[simp] theorem ev_chain (g g' : D → D → Option (Bool × D)) (a b c : M (Bool × D)) : chainM g g' a b c s = (a s).bind fun x s1 => (b s1).bind fun y s2 => match g x.2 y.2 with
  | some (_, .bl true) => (c s2).bind fun z s3 => (match g' y.2 z.2 with | some r => .ok r s3 | none => .stuck)
  | some (_, .bl false) => .ok (false, .bl false) s2
  | _ => .stuck := rfl
@[simp] theorem ev_sl_ll (a l h : Opd) : sliceM a (some l) (some h) s = opsM [a, .ex (intM l), .ex (intM h)] (fun ds s => match ds with
    | [x, .int i, .int j] => (match sliceD (some i) (some j) x with | some r => .ok r s | none => .stuck)
    | _ => .stuck) s := rfl
@[simp] theorem ev_sl_l (a l : Opd) : sliceM a (some l) none s = opsM [a, .ex (intM l)] (fun ds s => match ds with
    | [x, .int i] => (match sliceD (some i) none x with | some r => .ok r s | none => .stuck)
    | _ => .stuck) s := rfl
@[simp] theorem ev_aug (g : D → D → Option (Bool × D)) (i : Nat) (f : M (Bool × D)) : augM g i f s = match s[i]? with
  | some (some (.io, _)) => .stuck
  | some (some (_, _)) => (f s).bind fun y s' => (match s'[i]? with
    | some (some (_, dx)) => (match g dx y.2 with
      | some (false, z) => (match putS s' i .sh z with | some s2 => .ok .nx s2 | none => .stuck)
      | _ => .stuck)
    | _ => .stuck)
  | _ => .stuck := rfl
@[simp] theorem v_addI2 {i j : Int} : addI (.int i) (.int j) = some (false, .int (i + j)) := rfl
@[simp] theorem t_le {a b : Nat} : leD (.str (tx [a])) (.str (tx [b])) = some (false, .bl (decide (a ≤ b))) := by
  show some (false, D.bl (!decide ((tx [b]).cps.toList < (tx [a]).cps.toList))) = _
  rw [tx_list, tx_list]
  have : (!decide ([b] < [a])) = decide (a ≤ b) := by
    rw [Bool.eq_iff_iff]
    simp [List.cons_lt_cons_iff]
  rw [this]
@[simp] theorem t_eq {a b : List Nat} : eqS n (.str (tx a)) (.str (tx b)) = some (false, .bl (if n then !decide (a = b) else decide (a = b))) := by
  rw [v_eqT]
  have : decide (tx a = tx b) = decide (a = b) := by
    rw [Bool.eq_iff_iff, decide_eq_true_eq, decide_eq_true_eq]
    exact tx_inj
  rw [this]
/-- the run of signs p from i on ends here -/
def runTo (p : Nat → Bool) (l : List Nat) (i : Nat) : Nat := i + ((l.drop i).takeWhile p).length
theorem runTo_end {p : Nat → Bool} (h : l.length ≤ i) : runTo p l i = i := by
  unfold runTo; rw [List.drop_eq_nil_of_le h]; rfl
theorem runTo_yes {p : Nat → Bool} (h : l[i]? = some c) (hp : p c = true) : runTo p l i = runTo p l (i + 1) := by
  obtain ⟨h1, h2⟩ := List.getElem?_eq_some_iff.mp h
  unfold runTo
  rw [List.drop_eq_getElem_cons h1, h2, List.takeWhile_cons_of_pos hp, List.length_cons]
  omega
theorem runTo_no {p : Nat → Bool} (h : l[i]? = some c) (hp : p c = false) : runTo p l i = i := by
  obtain ⟨h1, h2⟩ := List.getElem?_eq_some_iff.mp h
  unfold runTo
  rw [List.drop_eq_getElem_cons h1, h2, List.takeWhile_cons_of_neg (by simp [hp])]
  rfl
theorem runTo_ge {p : Nat → Bool} : i ≤ runTo p l i := Nat.le_add_right _ _
theorem runTo_le {p : Nat → Bool} (h : i ≤ l.length) : runTo p l i ≤ l.length := by
  unfold runTo
  have := (List.takeWhile_sublist p (l := l.drop i)).length_le
  rw [List.length_drop] at this
  omega
theorem runTo_congr {p q : Nat → Bool} (h : ∀ c, p c = q c) : runTo p l i = runTo q l i := by rw [show p = q from funext h]
end
theorem txts_map : ∀ ys : List Str, txts (ys.map D.str) = some ys
  | [] => rfl
  | y :: ys => by
    have h := txts_map ys
    simp only [List.map_cons]
    unfold txts
    simp [h]
end PV

/-! PV: raise, try. -/
namespace PV
open PySem PySem.Spec L2
/-- C(e, ..) with the fields fn in a row, as what flies -/
def tMkX (C : Addr) (fn : List Str) (ta : TA) : St → Hp → XK → Prop := fun σ H Q => ta σ H fun vs H1 => vs.length = fn.length ∧ ∀ d, H1 d = none → Q (.ref C) (some d) (upd H1 d (.xd (fn.zip vs)))
/-- raise c(e, ..) -/
def raiseM (c : Str) (fn : List Str) (os : List Opd) : M Fl := opsM os fun ds s => if os.all Opd.isEx = true ∧ ds.length = fn.length ∧ fn ≠ [] then .exc ⟨c, fn.zip ds⟩ s else .stuck
theorem zip_fst {α β : Type} : ∀ {xs : List α} {ys : List β}, ys.length = xs.length → (xs.zip ys).map (·.1) = xs
  | [], _, _ => rfl
  | x :: xs, [], h => by simp at h
  | x :: xs, y :: ys, h => by simp [zip_fst (xs := xs) (ys := ys) (by simpa using h)]
theorem zip_snd {α β : Type} : ∀ {xs : List α} {ys : List β}, ys.length = xs.length → (xs.zip ys).map (·.2) = ys
  | [], [], _ => rfl
  | [], _ :: _, h => by simp at h
  | x :: xs, [], h => rfl
  | x :: xs, y :: ys, h => by simp [zip_snd (xs := xs) (ys := ys) (by simpa using h)]
theorem ds_raise {X : Cx} {E : WX} {e : Expr} {c : Str} {fn : List Str} {os : List Opd} {pos : Pos} (hc : X.calm = true) (tk : Takes X E) (he : PMk X e (tMkX (He.ga X.K c) fn (rdOs X.K E os))) : PS X (.Raise (some e) none pos) (tS X.K E (raiseM c fn os)) :=
  (ps_raise hc tk he).imp fun Dn σ H h => by
    obtain ⟨P, B, ia, s, Fs, r, w⟩ := h
    refine rdOps r w (fun x s' q => q.to) fun ds s1 vs H1 Gs Fs1 q ov fr r1 => ?_
    split at q
    · rename_i hh
      obtain ⟨h1, h2, h3⟩ := hh
      obtain ⟨l1, l2⟩ := ov.length
      obtain ⟨G, g1, g2, g3⟩ := ov.reps h1
      have lv : vs.length = fn.length := by rw [← l1, h2]
      refine ⟨lv, fun d hd => ?_⟩
      have f1 : Fr P H1 (upd H1 d (.xd (fn.zip vs))) := Fr.new hd r1.tr
      refine q σ _ _ _ ⟨Fs1, fr.trans f1, r1.new hd, rfl, .inr ⟨d, fn.zip vs, G, rfl, upd_same, by rw [zip_fst lv, zip_fst h2], ?_⟩⟩
      rw [zip_snd lv, zip_snd h2]
      exact Reps.keep f1.i g1 fun a m => upd_ne fun z => g1.tr a m (z ▸ hd)
    · exact q.elim
end PV
namespace PV
open PySem PySem.Spec L2
/-- try: body; except c: suite (that lets nothing out) -/
def tryM (mt : Str → Option Bool) (body suite : M Fl) : M Fl := fun s => match body s with
  | .exc x s' => (match mt x.cls with
    | some true => nox (suite s')
    | some false => .exc x s'
    | none => .stuck)
  | r => r
theorem nox_any {α : Type} {E E' : Exn → S → Prop} {Q : α → S → Prop} {r : Res α} (h : Post E Q (nox r)) : Post E' Q r := by
  cases r with
  | ok a s => exact h
  | exc x s => exact h.elim
  | stuck => exact h
theorem tS_try {K : PySem.W.Frag} {E : WX} {c : Value} {mt : Str → Option Bool} {body suite : M Fl} (hmt : ∀ y b, mt y = some b → PySem.W.exmOne K (.ref (He.ga K y)) c = some b) (D : Ends) (σ : St) (H : Hp) (h : tS K E (tryM mt body suite) D σ H) :
    tS K (wOnly K c (fun _ _ _ => tS K EN suite) E D) body D σ H := by
  obtain ⟨P, B, ia, s, Fs, r, w⟩ := h
  refine ⟨P, B, ia, s, Fs, r, ?_⟩
  unfold tryM at w
  cases hb : body s with
  | stuck => rw [hb] at w; exact w.elim
  | ok fl s' => rw [hb] at w; exact w
  | exc x s' =>
    rw [hb] at w
    dsimp only at w
    intro σ' cls dx H' rx
    obtain ⟨Fs', fr, sr, xr⟩ := rx
    obtain ⟨ec, xr'⟩ := xr
    cases hm : mt x.cls with
    | none => rw [hm] at w; exact w.elim
    | some b =>
      rw [hm] at w
      refine ⟨b, by rw [ec]; exact hmt _ _ hm, fun e a _ => ?_, fun e => ?_⟩
      · subst e
        dsimp only at w
        exact ⟨P, B, ia, s', Fs', sr, (nox_any (E' := XPd K P B ia H EN) w).mono (fun y s2 q => q.step fr) fun fl s2 q => q.step fr⟩
      · subst e
        dsimp only at w
        exact w σ' cls dx H' ⟨Fs', fr, sr, ec, xr'⟩
theorem ds_try {X : Cx} {E : WX} {x : Str} {c : Value} {body suite : List Stmt} {b₀ : Stmt} {np pos pos' : Pos} {mt : Str → Option Bool} {fb fs : M Fl} (hs : X.stack = X.env :: X.outer) (hf : X.env.frame = some X.env.locals) (hc : Names X x c) (tk : Takes X E)
    (hmt : ∀ y b, mt y = some b → PySem.W.exmOne X.K (.ref (He.ga X.K y)) c = some b)
    (hb : ∀ (W : WX) (pn : List (Addr × Obj)) (xe : Value → Shared → Prop), Takes (X.tr pn xe) W → PassesOwn (model X.prog X.w) X.A X.env xe → PSs (X.tr pn xe) body (tS X.K W fb))
    (hsu : ∀ (a : Addr) (oe : Obj) (cls : Value) (d : Option Addr) (pn : List (Addr × Obj)), Zc cls d oe → (∃ vs, oe.data = .fields vs) → PSs (X.suite a ((a, oe) :: pn)) (b₀ :: suite) (tS X.K EN fs)) :
    PS X (.Try body [.ExceptHandler (some (.Name x np)) none (b₀ :: suite) pos'] [] [] pos) (tS X.K E (tryM mt fb fs)) :=
  (ps_try_only (tb := fun W => tS X.K W fb) (ts := fun _ _ _ => tS X.K EN fs) hs hf hc tk hb hsu).imp (tS_try hmt)
end PV
namespace PV
open PySem PySem.Spec L2
/-! ### making an own exception: its __init__ stores one parameter -/
def spIni1 (C : Addr) (f : Str) : Sp := fun vs H Q _ => ∃ (a : Addr) (v : V), vs = [.ref a, v] ∧ H a = some (exo a C none) ∧ ∀ dx, H dx = none → dx ≠ a → Q .non (upd (upd H dx (exd dx [(f, v)])) a (exo a C (some dx)))
section
variable {P : Program} {w : World} {K : PySem.W.Frag} {mg : Str → Option Value} {base : Heap}
theorem ini1_ok {x qual f : Str} {N ps : List Str} {params : Arguments} {body : List Stmt} {scope : Scope} {fI C : Addr} {fd : FuncData} {k : Nat} (F : FunD K x qual params body scope [] [] fI fd) (S : FnScope N ps scope) (hp : ps.length = 2) (hN : N.length = 2) (T : OexC K C) (hno : PySem.W.findIn K (.ref C) f = some none)
    (hbody : ∀ (cdv : Value) (A : Around) (outer : List Env) (s : Shared) (H : Hp) (E : XK), PSs (cxOf (L2.CX P w) P w K mg base N qual scope fI cdv A outer s H E) body (tOst K f (tVar 0) (tVar 1))) :
    FnOk P w K mg base (L2.CX P w) (k + 1) fI fd ps (spIni1 C f) := by
  refine F.ok S (fun vs H Q E h => ?_) fun cdv A outer s H vs Q E hr h => ⟨_, hbody cdv A outer s H E, ?_⟩
  · obtain ⟨a, v, rfl, _⟩ := h
    exact hp.symm
  · obtain ⟨a, v, rfl, ha, q⟩ := h
    have st : L2.start N [.ref a, v] = [some (.ref a), some v] := by
      unfold L2.start
      simp [hN]
    rw [st]
    exact ⟨v, rfl, .ref a, rfl, a, C, rfl, T, hno, .inl ⟨ha, fun dx hd hne => q dx hd hne⟩⟩
end
theorem mk_x1 {X : Cx} {C : Addr} {f : Str} {ta : TA} {e : Expr} (h : PMk X e (tMkO C (spIni1 C f) [] ta)) (hta : ∀ σ H R R', (∀ vs H1, R vs H1 → R' vs H1) → ta σ H R → ta σ H R') : PMk X e (tMkX C [f] ta) := by
  intro pins s σ H Q I w
  refine h pins s σ H Q I (hta σ H _ _ (fun vs H1 q => ?_) w)
  obtain ⟨hl, q⟩ := q
  match vs, hl with
  | [v], _ =>
    refine ⟨by simp, fun a ha => ⟨a, v, rfl, upd_same, fun dx hd hne => ⟨rfl, dx, [(f, v)], upd_same, ?_, ?_, ?_⟩⟩⟩
    · rw [upd_ne hne, upd_same]
    · rw [upd_ne hne] at hd; exact hd
    · rw [upd_ne hne] at hd
      have e : upd (del (upd (upd (upd H1 a (exo a C none)) dx (exd dx [(f, v)])) a (exo a C (some dx))) a) dx (.xd [(f, v)]) = upd H1 dx (.xd [(f, v)]) := by
        funext b
        by_cases h1 : b = dx
        · subst h1; rw [upd_same, upd_same]
        · rw [upd_ne h1, upd_ne h1]
          by_cases h2 : b = a
          · subst h2; rw [del_same, ha]
          · rw [del_ne h2, upd_ne h2, upd_ne h1, upd_ne h2]
      rw [e]
      exact q dx hd
theorem rdOs_up {K : PySem.W.Frag} {E : WX} (os : List Opd) (σ : St) (H : Hp) (R R' : List V → Hp → Prop) (q : ∀ vs H1, R vs H1 → R' vs H1) (h : rdOs K E os σ H R) : rdOs K E os σ H R' := rdOs_mono h q
end PV
namespace PV
open PySem PySem.Spec L2
/-- such a class, looked at -/
def oexO (C : Addr) : Obj → Bool
  | ⟨.type t, _, .cls cd, ⟨[_, _, _, _, some (.builtin n), _]⟩⟩ => decide (t = "type") && (decide (n = "ValueError.__new__") && (cd.hasDict && (!cd.hasDel && (match cd.mro with
    | .ref c :: bm => decide (c = C) && PySem.HandSPX.refsVE bm
    | _ => false))))
  | _ => false
theorem oexO_ok {C : Addr} {o : Obj} (h : oexO C o = true) : ∃ nm q N bs bm sn sub ab col dd k0 k1 k2 k3 k5, o = excClassObj nm q C N bs bm true sn sub ab col dd k0 k1 k2 k3 k5 "ValueError.__new__" ∧ PySem.HandSPX.refsVE bm = true := by
  unfold oexO at h
  split at h
  · rename_i t dd cd k0 k1 k2 k3 n k5
    simp only [Bool.and_eq_true, decide_eq_true_eq] at h
    obtain ⟨rfl, rfl, h1, h2, h3⟩ := h
    obtain ⟨nm, bs, mro, ns, qn, hd, sn, sb, ab, col, del⟩ := cd
    dsimp only at h1 h2 h3
    split at h3
    · rename_i c bm
      simp only [Bool.and_eq_true, decide_eq_true_eq] at h3
      obtain ⟨rfl, h4⟩ := h3
      subst h1
      have e : del = false := by cases del with
        | false => rfl
        | true => cases h2
      subst e
      exact ⟨nm, qn, ns, bs, bm, sn, sb, ab, col, dd, k0, k1, k2, k3, k5, rfl, h4⟩
    · cases h3
  · cases h
def oexB (K : PySem.W.Frag) (x : Str) : Bool := (match K.lookup (He.ga K x) with
  | some o => oexO (He.ga K x) o
  | none => false) && (decide (PySem.W.findIn K (.ref (He.ga K x)) "__setattr__" = some (some (.builtin "object.__setattr__"))) && (decide (PySem.W.subIn K (.ref (He.ga K x)) (.type "BaseException") = some true) && (decide (PySem.W.typeIn K (.ref (He.ga K x)) = some (.type "type")) && PySem.W.keepIn K (.ref (He.ga K x)))))
theorem oexB_ok {K : PySem.W.Frag} {x : Str} (h : oexB K x = true) : OexC K (He.ga K x) := by
  unfold oexB at h
  simp only [Bool.and_eq_true, decide_eq_true_eq] at h
  obtain ⟨h1, h2, h3, h4, h5⟩ := h
  refine ⟨?_, h2, h3, h4, h5⟩
  split at h1
  · rename_i o e
    obtain ⟨nm, q, N, bs, bm, sn, sub, ab, col, dd, k0, k1, k2, k3, k5, r, g⟩ := oexO_ok h1
    exact ⟨nm, q, N, bs, bm, sn, sub, ab, col, dd, k0, k1, k2, k3, k5, by rw [e, r], g⟩
  · cases h1
/-- the own exception c with the one field f, made at level k -/
structure X1 (P : Program) (w : World) (K : PySem.W.Frag) (mg : Str → Option Value) (base : Heap) (k : Nat) (c f : Str) (ps : List Str) : Prop where
  t : OexC K (He.ga K c)
  g : mg c = some (.ref (He.ga K c))
  i : PySem.W.findIn K (.ref (He.ga K c)) "__init__" = some (some (.ref (He.ma K (He.ga K c) "__init__")))
  y : PySem.W.typeIn K (.ref (He.ma K (He.ga K c) "__init__")) = some (.type "function")
  f : ∃ fd : FuncData, FnOk P w K mg base (L2.CX P w) k (He.ma K (He.ga K c) "__init__") fd ps (spIni1 (He.ga K c) f) ∧ Binds K fd ps []
theorem pass_no {X : Cx} {E : XK} (h : ∀ cls d H', ¬ E cls d H') : Passes (L2.CX X.prog X.w) X E := by
  intro pins σ H e s' I c
  first
    | (obtain ⟨_, _, _, _, _, _, _, _, _, _, _, _, z⟩ := c; exact absurd z (h _ _ _))
    | (intro z; obtain ⟨_, _, _, _, _, _, _, _, _, _, _, _, z⟩ := z; exact absurd z (h _ _ _))
theorem ds_raise1 {X : Cx} {E : WX} {k : Nat} {c f : Str} {ps : List Str} {e : Expr} {o : Opd} {p pos pos' : Pos} (R : X1 X.prog X.w X.K X.mg X.base k c f ps) (hr : Room (k + 1) X.A) (hc : X.calm = true) (tk : Takes X E) (ha : PAd X E [e] [o]) (hg : Gl X c := by rfl)
    (hdb : (c == ("__debug__" : Str)) = false := by decide) (he : starEach [e] X.env = (false, eval e X.env) :: starEach [] X.env := by rfl) (hpl : (backTo pos (starEach [] X.env)).any (·.1) = false := by rfl) :
    PS X (.Raise (some (.Call (.Name c p) [e] [] pos)) none pos') (tS X.K E (raiseM c [f] [o])) := by
  obtain ⟨fd, F1, hb⟩ := R.f
  exact ds_raise hc tk (mk_x1 (pmk_oex (ds := []) (dvs := []) R.t R.i R.y F1 hr hb .nil (pass_no fun _ _ _ z => z) hg R.g ha hdb he hpl) fun σ H R R' q h => rdOs_up _ σ H R R' q h)
end PV
namespace PV
open PySem PySem.Spec L2
section
variable {K : PySem.W.Frag} {P B : Addr → Prop} {ia : Nat → Addr} {s : S} {σ : St} {H H' : Hp} {Fs : Nat → List Addr}
/-- what a dead slot's variable holds is nobody's matter -/
theorem SR.dirt (r : SR K P B ia s σ H Fs) {i : Nat} {x : Option V} (hi : s[i]? = some none) : SR K P B ia s (σ.set i x) H Fs := by
  have ne : ∀ {j : Nat} {o : Own} {d : D}, s[j]? = some (some (o, d)) → j ≠ i := fun {j o d} e z => by subst z; rw [hi] at e; cases e
  refine ⟨by rw [List.length_set]; exact r.len, fun j o d e => ?_, fun j o d e n => ?_, fun j d e => ?_, r.dead, r.inB, r.tr, r.nb⟩
  · rw [List.getElem?_set_ne (ne e).symm]; exact r.rep j o d e
  · rw [List.getElem?_set_ne (ne e).symm]; exact r.own j o d e n
  · rw [List.getElem?_set_ne (ne e).symm]; exact r.iov j d e
theorem flat_rep {d : D} {v : V} {F : List Addr} (h : Rep K H d v F) (e : d.flt.isSome = true) : Rep K H d v [] := by
  cases h with
  | non => exact .non
  | bl => exact .bl
  | int => exact .int
  | str => exact .str
  | ty => cases e
  | tup _ _ => cases e
  | lst _ _ => cases e
  | lsz _ _ => cases e
  | dct _ _ => cases e
theorem fld_at {f : Str} {dv : D} : ∀ {fs : List (Str × D)} {kvs : List (Str × V)} {F : List Addr}, kvs.map (·.1) = fs.map (·.1) → Reps K H (fs.map (·.2)) (kvs.map (·.2)) F → fs.lookup f = some dv → ∃ v G, kvs.lookup f = some v ∧ Rep K H dv v G
  | [], kvs, F, hk, hr, e => by simp at e
  | (g, d) :: fs, [], F, hk, hr, e => by simp at hk
  | (g, d) :: fs, (g', v) :: kvs, F, hk, hr, e => by
    simp only [List.map_cons, List.cons.injEq] at hk
    obtain ⟨rfl, hk⟩ := hk
    simp only [List.map_cons] at hr
    cases hr with
    | cons h1 h2 =>
      rw [List.lookup_cons] at e ⊢
      cases hq : f == g' with
      | true => rw [hq] at e; cases e; exact ⟨v, _, rfl, h1⟩
      | false => rw [hq] at e; exact fld_at hk h2 e
end
/-- try: body; except c as e: return mk(e.f) -/
def tryAsM (c f : Str) (i : Nat) (mt : Str → Option Bool) (mk : D → D) (body : M Fl) : M Fl := fun s => match body s with
  | .exc x s' => (match mt x.cls with
    | some true => if x.cls = c then (match x.fs.lookup f, s'[i]? with
      | some dv, some none => if dv.flt.isSome = true then .ok (.rt false (mk dv)) s' else .stuck
      | _, _ => .stuck) else .stuck
    | some false => .exc x s'
    | none => .stuck)
  | r => r
/-- the suite's reading that goes with mk -/
def MkOk (K : PySem.W.Frag) (c f : Str) (i : Nat) (mk : D → D) (ts : Addr → Value → Option Addr → TS) : Prop :=
  ∀ {P B : Addr → Prop} {ia : Nat → Addr} {s : S} {σ : St} {H H0 : Hp} {Fs : Nat → List Addr} {a dd : Addr} {kvs : List (Str × V)} {dv : D} {v : V} {Dn : Ends}, SR K P B ia s σ H Fs → Fr P H0 H → σ[i]? = some (some (.ref a)) → H dd = some (.xd kvs) → kvs.lookup f = some v → Rep K H dv v [] →
    (∀ w H', RV K P B ia s σ H0 H' false (mk dv) w → Dn.rt w H') → ts a (.ref (He.ga K c)) (some dd) Dn σ H
theorem tS_tryAs {K : PySem.W.Frag} {E : WX} {c f : Str} {i : Nat} {cv : Value} {mt : Str → Option Bool} {mk : D → D} {body : M Fl} {ts : Addr → Value → Option Addr → TS} (hmt : ∀ y b, mt y = some b → PySem.W.exmOne K (.ref (He.ga K y)) cv = some b) (hm : MkOk K c f i mk ts) (D : Ends) (σ : St) (H : Hp) (h : tS K E (tryAsM c f i mt mk body) D σ H) :
    tS K (wAs K cv i ts E D) body D σ H := by
  obtain ⟨P, B, ia, s, Fs, r, w⟩ := h
  refine ⟨P, B, ia, s, Fs, r, ?_⟩
  unfold tryAsM at w
  cases hb : body s with
  | stuck => rw [hb] at w; exact w.elim
  | ok fl s' => rw [hb] at w; exact w
  | exc x s' =>
    rw [hb] at w
    dsimp only at w
    intro σ' cls dx H' rx
    obtain ⟨Fs', fr, sr, xr⟩ := rx
    obtain ⟨ec, xr'⟩ := xr
    cases hq : mt x.cls with
    | none => rw [hq] at w; exact w.elim
    | some b =>
      rw [hq] at w
      refine ⟨b, by rw [ec]; exact hmt _ _ hq, fun e a _ => ?_, fun e => ?_⟩
      · subst e
        dsimp only at w
        split at w
        · rename_i hx
          split at w
          · rename_i dv e1 e2
            split at w
            · rename_i hf
              rcases xr' with ⟨e0, _⟩ | ⟨dd, kvs, F, rfl, h1, h2, h3⟩
              · rw [e0] at e1; cases e1
              · obtain ⟨v, G, g1, g2⟩ := fld_at h2 h3 e1
                have hi : i < σ'.length := by rw [← sr.len]; exact (List.getElem?_eq_some_iff.mp e2).1
                subst ec
                rw [hx]
                exact hm (sr.dirt e2) fr (List.getElem?_set_self hi) h1 g1 (flat_rep g2 hf) fun w' H2 rv => w w' _ H2 rv
            · exact w.elim
          · exact w.elim
        · exact w.elim
      · subst e
        dsimp only at w
        exact w σ' cls dx H' ⟨Fs', fr, sr, ec, xr'⟩
end PV
namespace PV
open PySem PySem.Spec L2
abbrev tsId (K : PySem.W.Frag) (c f : Str) (i : Nat) : Addr → Value → Option Addr → TS := fun a cls d => tRet (tXf a cls d (He.ga K c) f (tVar i))
abbrev tsTag (K : PySem.W.Frag) (c f : Str) (i : Nat) (z : Str) : Addr → Value → Option Addr → TS := fun a cls d => tRet (tTup (tCons (tC (.str z)) (tCons (tXf a cls d (He.ga K c) f (tVar i)) tNil)))
theorem mk_id {K : PySem.W.Frag} {c f : Str} {i : Nat} : MkOk K c f i (fun d => d) (tsId K c f i) := by
  intro P B ia s σ H H0 Fs a dd kvs dv v Dn r fr hs hd hl hr q
  exact ⟨.ref a, hs, rfl, rfl, dd, kvs, v, rfl, hd, hl, q v H (.flat hr fr r)⟩
theorem mk_tag {K : PySem.W.Frag} {c f z : Str} {i : Nat} : MkOk K c f i (fun d => .tup [.str z, d]) (tsTag K c f i z) := by
  intro P B ia s σ H H0 Fs a dd kvs dv v Dn r fr hs hd hl hr q
  refine ⟨.ref a, hs, rfl, rfl, dd, kvs, v, rfl, hd, hl, ?_, fun p np => q _ _ ?_⟩
  · show 2 ≤ sizeLine
    decide
  · have h : Reps K H [.str z, dv] [.str z, v] [] := .cons (F := []) .str (.cons (F := []) hr .nil)
    exact .tup h .nil (fun _ m => nomatch m) fr r np
theorem ds_tryAs {X : Cx} {E : WX} {x n c f : Str} {cv : Value} {i : Nat} {body suite : List Stmt} {b₀ : Stmt} {np pos pos' : Pos} {mt : Str → Option Bool} {mk : D → D} {fb : M Fl} {ts : Addr → Value → Option Addr → TS} (hs : X.stack = X.env :: X.outer) (hf : X.env.frame = some X.env.locals) (hN : X.N.Nodup) (hi : X.N[i]? = some n) (hln : X.env.kindOf n = some .local) (hc : Names X x cv) (tk : Takes X E)
    (hmt : ∀ y b, mt y = some b → PySem.W.exmOne X.K (.ref (He.ga X.K y)) cv = some b) (hm : MkOk X.K c f i mk ts)
    (hb : ∀ (W : WX) (pn : List (Addr × Obj)) (xe : Value → Shared → Prop), Takes (X.tr pn xe) W → PassesOwn (model X.prog X.w) X.A X.env xe → PSs (X.tr pn xe) body (tS X.K W fb))
    (hsu : ∀ (a : Addr) (oe : Obj) (cls : Value) (d : Option Addr) (pn : List (Addr × Obj)), Zc cls d oe → (∃ vs, oe.data = .fields vs) → PSs (X.suite a ((a, oe) :: pn)) (b₀ :: suite) (ts a cls d)) :
    PS X (.Try body [.ExceptHandler (some (.Name x np)) (some n) (b₀ :: suite) pos'] [] [] pos) (tS X.K E (tryAsM c f i mt mk fb)) :=
  (ps_try_as (tb := fun W => tS X.K W fb) (ts := ts) (Wout := E) hs hf hN hi hln hc tk hb hsu).imp (tS_tryAs hmt hm)
end PV
namespace PV
open PySem PySem.Spec L2
/-- all that X1 asks of the class -/
def x1B (K : PySem.W.Frag) (x : Str) : Bool := oexB K x && (decide (PySem.W.findIn K (.ref (He.ga K x)) "__init__" = some (some (.ref (He.ma K (He.ga K x) "__init__")))) && (decide (PySem.W.typeIn K (.ref (He.ma K (He.ga K x) "__init__")) = some (.type "function")) && xfB K (He.ga K x)))
theorem x1B_ok {K : PySem.W.Frag} {x : Str} (h : x1B K x = true) : OexC K (He.ga K x) ∧ PySem.W.findIn K (.ref (He.ga K x)) "__init__" = some (some (.ref (He.ma K (He.ga K x) "__init__"))) ∧ PySem.W.typeIn K (.ref (He.ma K (He.ga K x) "__init__")) = some (.type "function") ∧ XfC K (He.ga K x) := by
  unfold x1B at h
  simp only [Bool.and_eq_true, decide_eq_true_eq] at h
  exact ⟨oexB_ok h.1, h.2.1, h.2.2.1, xfB_ok h.2.2.2⟩
end PV

/-! PV: further walks. -/
namespace PV
open PySem PySem.Spec L2
/-- range(i, j) -/
noncomputable def rng2M (f g : M (Bool × D)) : M (List D) := opsM [.ex f, .ex g] fun ds s => match ds with
  | [.int i, .int j] => if gd (-(2 ^ 62) ≤ i ∧ i < 2 ^ 62 ∧ -(2 ^ 62) ≤ j ∧ j < 2 ^ 62) = true then .ok (intsD i (j - i).toNat) s else .stuck
  | _ => .stuck
theorem di_rng2 {X : Cx} {E : WX} {tg a b : Expr} {f g : M (Bool × D)} {p pos : Pos} (hg : Gl X "range") (hm : X.mg "range" = none) (ha : PAd X E [a, b] [.ex f, .ex g]) (hs : starEach [a, b] X.env = [(false, eval a X.env), (false, eval b X.env)] := by rfl) (hs2 : starEach [b] X.env = [(false, eval b X.env)] := by rfl) :
    PI X tg (.Call (.Name "range" p) [a, b] [] pos) (tI X.K E (rng2M f g)) :=
  (pi_range2 hg hm ha hs hs2).imp fun σ H R h => by
    obtain ⟨P, B, ia, s, Fs, r, w⟩ := h
    refine rdOps r w (fun _ _ q => q) fun ds s1 vs H1 Gs Fs1 q ov fr r1 => ?_
    split at q
    · rename_i i j
      split at q
      · rename_i hj
        have hj := gd_iff.mp hj
        cases ov with
        | cons h1 _ _ ov =>
          cases ov with
          | cons h2 _ _ ov =>
            cases ov with
            | nil => exact ⟨i, j, by rw [h1.int_inv, h2.int_inv], hj, q _ H1 P Fs1 (fun b m => m) fr r1 it_range⟩
      · exact q.elim
    · exact q.elim
end PV

/-! PV: range with a step, zip of a text and a sequence, int of a text, dicts of the module. -/
namespace PV
open PySem PySem.Spec L2

/-! ### range(a, b, c) -/
def stepsD (lo c : Int) (n : Nat) : List D := (List.range n).map fun i => .int (lo + (i : Nat) * c)
theorem it_rangeC {K : PySem.W.Frag} {P B : Addr → Prop} {H : Hp} {lo c : Int} {n : Nat} : ItOK K P B (Itc lo c n) (stepsD lo c n) H := by
  refine ⟨fun _ => True, trivial, fun _ _ _ _ => trivial, fun i H1 _ => ⟨fun d e => ?_, fun hl => ?_⟩⟩
  · unfold stepsD at e
    rw [List.getElem?_map] at e
    obtain ⟨k, e1, e2⟩ := Option.map_eq_some_iff.mp e
    obtain ⟨h1, h2⟩ := List.getElem?_eq_some_iff.mp e1
    simp at h1 h2
    subst h2
    refine ⟨h1, fun v H2 y => ?_⟩
    obtain ⟨rfl, rfl⟩ := y
    subst e2
    exact ⟨.inl rfl, [], .int, nofun, nofun⟩
  · show n ≤ i
    simp [stepsD] at hl; omega
noncomputable def rng3D : D → D → D → Option (List D)
  | .int i, .int j, .int c => if gd (c ≠ 0 ∧ c.natAbs < 1073741824 ∧ Builtin.Range.small i j c = true ∧ 0 ≤ Builtin.Range.rangeSize i j c) = true then some (stepsD i c (Builtin.Range.rangeSize i j c).toNat) else none
  | _, _, _ => none
noncomputable def rng3M (f g h : M (Bool × D)) : M (List D) := opsM [.ex f, .ex g, .ex h] fun ds s => match ds with
  | [a, b, c] => (match rng3D a b c with
    | some ds => .ok ds s
    | none => .stuck)
  | _ => .stuck
@[simp] theorem ev_rng3 (f g h : M (Bool × D)) (s : S) : rng3M f g h s = opsM [.ex f, .ex g, .ex h] (fun ds s => match ds with
  | [a, b, c] => (match rng3D a b c with
    | some ds => .ok ds s
    | none => .stuck)
  | _ => .stuck) s := rfl
theorem rng3_inv {a b c : D} {ds : List D} (h : rng3D a b c = some ds) : ∃ i j k : Int, a = .int i ∧ b = .int j ∧ c = .int k ∧ (k ≠ 0 ∧ k.natAbs < 1073741824 ∧ Builtin.Range.small i j k = true ∧ 0 ≤ Builtin.Range.rangeSize i j k) ∧ ds = stepsD i k (Builtin.Range.rangeSize i j k).toNat := by
  unfold rng3D at h
  split at h
  · split at h
    · rename_i hj
      cases h
      exact ⟨_, _, _, rfl, rfl, rfl, gd_iff.mp hj, rfl⟩
    · cases h
  · cases h
theorem di_rng3 {X : Cx} {E : WX} {tg a b c : Expr} {f g h : M (Bool × D)} {p pos : Pos} (hg : Gl X "range") (hm : X.mg "range" = none) (ha : PAd X E [a, b, c] [.ex f, .ex g, .ex h]) (hs : starEach [a, b, c] X.env = (false, eval a X.env) :: starEach [b, c] X.env := by rfl) (hpl : (backTo pos (starEach [b, c] X.env)).any (·.1) = false := by rfl) :
    PI X tg (.Call (.Name "range" p) [a, b, c] [] pos) (tI X.K E (rng3M f g h)) :=
  (pi_range3 hg hm ha hs hpl).imp fun σ H R h => by
    obtain ⟨P, B, ia, s, Fs, r, w⟩ := h
    refine rdOps r w (fun _ _ q => q) fun ds s1 vs H1 Gs Fs1 q ov fr r1 => ?_
    split at q
    · rename_i a b c
      split at q
      · rename_i ds' e
        obtain ⟨i, j, k, rfl, rfl, rfl, hj, rfl⟩ := rng3_inv e
        cases ov with
        | cons h1 _ _ ov =>
          cases ov with
          | cons h2 _ _ ov =>
            cases ov with
            | cons h3 _ _ ov =>
              cases ov with
              | nil => exact ⟨i, j, k, _, by rw [h1.int_inv, h2.int_inv, h3.int_inv], ⟨hj.1, hj.2.1, hj.2.2.1, (Int.toNat_of_nonneg hj.2.2.2).symm⟩, q _ H1 P Fs1 (fun b m => m) fr r1 it_rangeC⟩
      · exact q.elim
    · exact q.elim

/-! ### int(text) -/
def toIntS (d : D) : Option (Bool × D) := match d with
  | .str x => if x.length ≤ 640 then (PySem.intText? x).map fun n => (false, .int n) else none
  | d => toInt d
theorem opd_toIntS {K : PySem.W.Frag} : OpD1 K toIntS fun x H Q => ((∃ i, [x] = [V.int i] ∧ Q (.int i) H) ∨ ∃ k, [x] = [V.bl k] ∧ Q (.int (if k then 1 else 0)) H) ∨ ∃ a n, [x] = [V.str a] ∧ PySem.intText? a = some n ∧ a.length ≤ 640 ∧ Q (.int n) H := by
  intro P B ia s σ H H0 Fs dx q x F Q R o fr e k
  unfold toIntS at e
  split at e
  · split at e
    · rename_i hz
      obtain ⟨n, e1, e2⟩ := Option.map_eq_some_iff.mp e
      cases e2
      exact .inr ⟨_, n, by rw [o.str_inv], e1, hz, k _ _ (.flat .int fr R)⟩
    · cases e
  · exact .inl (opd_toInt R o fr e k)

/-! ### a dict of the module -/
def tget : List (Str × D) → Str → Option D
  | [], _ => none
  | (k, d) :: r, z => if k = z then some d else tget r z
theorem tget_none {z : Str} : ∀ {kvs : List (Str × D)}, tget kvs z = none → z ∉ kvs.map (·.1)
  | [], _ => by simp
  | (k, d) :: r, h => by
    rw [tget] at h
    split at h
    · cases h
    · rename_i hk
      simp only [List.map_cons, List.mem_cons, not_or]
      exact ⟨fun e => hk e.symm, tget_none h⟩
theorem tget_mem {z : Str} {d : D} : ∀ {kvs : List (Str × D)}, tget kvs z = some d → (z, d) ∈ kvs
  | [], h => by cases h
  | (k, d') :: r, h => by
    rw [tget] at h
    split at h
    · rename_i hk
      cases h
      rw [hk]
      exact List.mem_cons_self
    · exact List.mem_cons_of_mem _ (tget_mem h)
structure Gd (K : PySem.W.Frag) (w : World) (mg : Str → Option Value) (x : Str) (kvs : List (Str × D)) : Prop where
  ex : ∃ (a : Addr) (es : Array DictEntry) (n : Nat), mg x = some (.ref a) ∧ KDict K w a es n ∧ (∀ z d, tget kvs z = some d → ∃ u v, PySem.W.nsIn K a z = some (some u) ∧ RelV v u ∧ ∀ H, Rep K H d v []) ∧ ∀ z, tget kvs z = none → PySem.W.nsIn K a z = some none
/-- flat values as the head tells them -/
def dOf : He.Dv → Option D
  | .int i => some (.int i)
  | .str x => some (.str x)
  | _ => none
theorem nsIn_absent {K : PySem.W.Frag} {a : Addr} {P : Params} {ks : List Str} {z : Str} (h : He.dicW K a = some (He.keysIn P ks)) (hz : z ∉ ks) : PySem.W.nsIn K a z = some none := by
  unfold He.dicW at h
  unfold PySem.W.nsIn
  split at h
  · rename_i c es n sl e
    rw [e]
    split at h
    · have h1 := Option.some.inj h
      have key : ∀ (l : List DictEntry) (ks : List Str), l.map He.keyOf = He.keysIn P ks → z ∉ ks → l.find? (·.key.isStr z) = none ∧ l.any (·.refKey) = false := by
        intro l
        induction l with
        | nil => intro ks _ _; exact ⟨rfl, rfl⟩
        | cons en r ih =>
          intro ks h hz
          cases ks with
          | nil => cases h
          | cons k ks =>
            have h1 : He.keyOf en :: r.map He.keyOf = some (k, PyData.keyHash P k) :: He.keysIn P ks := h
            injection h1 with h2 h3
            obtain ⟨g1, g2⟩ := ih ks h3 fun m => hz (List.mem_cons_of_mem _ m)
            unfold He.keyOf at h2
            split at h2
            · rename_i x t q
              have h4 := Option.some.inj h2
              obtain ⟨h5, h6⟩ := Prod.mk.inj h4
              have hne : x ≠ z := fun e => hz (by rw [← e, h5]; exact List.mem_cons_self)
              constructor
              · rw [List.find?_cons_of_neg (by rw [q]; simpa [Value.isStr] using hne)]
                exact g1
              · rw [List.any_cons, g2]
                simp [DictEntry.refKey, q]
            · cases h2
      obtain ⟨g1, g2⟩ := key es.toList ks h1 hz
      simp only [g1, g2]
      rfl
    · cases h
  · cases h
theorem Gd.of {K : PySem.W.Frag} {w : World} {mg : Str → Option Value} {x : Str} {a : Addr} {kvs : List (Str × He.Dv)} {ds : List (Str × D)} (hm : mg x = some (.ref a)) (h : He.dicW K a = some (He.keysIn w.params (kvs.map (·.1)))) (hv : He.valsB K a kvs = true)
    (hd : kvs.map (fun q => (q.1, dOf q.2)) = ds.map fun q => (q.1, some q.2)) : Gd K w mg x ds := by
  obtain ⟨es, n, D⟩ := He.dicW_ok h
  have ek : kvs.map (·.1) = ds.map (·.1) := by
    have := congrArg (List.map Prod.fst) hd
    simpa [List.map_map, Function.comp_def] using this
  refine ⟨a, es, n, hm, D, fun z d e => ?_, fun z e => ?_⟩
  · have hmem := tget_mem e
    have h1 : (z, some d) ∈ kvs.map (fun q => (q.1, dOf q.2)) := by
      rw [hd]
      exact List.mem_map.mpr ⟨_, hmem, rfl⟩
    obtain ⟨q, hq, e2⟩ := List.mem_map.mp h1
    obtain ⟨e3, e4⟩ := Prod.mk.inj e2
    obtain ⟨u, g1, g2⟩ := He.valsB_ok hv hq
    subst e3
    refine ⟨u, _, g1, g2, fun H => ?_⟩
    cases hq2 : q.2 with
    | int i => rw [hq2] at e4; cases e4; exact .int
    | str y => rw [hq2] at e4; cases e4; exact .str
    | _ => rw [hq2] at e4; cases e4
  · exact nsIn_absent h (by rw [ek]; exact tget_none e)
def kinD (neg : Bool) (kvs : List (Str × D)) : D → Option (Bool × D)
  | .str z => some (false, .bl (if neg then !(tget kvs z).isSome else (tget kvs z).isSome))
  | _ => none
def kixD (kvs : List (Str × D)) : D → Option (Bool × D)
  | .str z => (tget kvs z).map fun d => (false, d)
  | _ => none
section
variable {X : Cx} {E : WX} {x : Str} {kvs : List (Str × D)} {o : Opd} {a : Expr} {p pos : Pos}
theorem rd_kin {neg : Bool} {ad : Addr} (h1 : ∀ z d, tget kvs z = some d → ∃ u v, PySem.W.nsIn X.K ad z = some (some u) ∧ RelV v u ∧ ∀ H, Rep X.K H d v []) (h2 : ∀ z, tget kvs z = none → PySem.W.nsIn X.K ad z = some none) :
    OpD1 X.K (kinD neg kvs) fun x H Q => ∃ (z : Str) (r : Option Value), x = .str z ∧ V.ref ad = .ref ad ∧ PySem.W.nsIn X.K ad z = some r ∧ Q (.bl (if neg then !r.isSome else r.isSome)) H := by
  intro P B ia s σ H H0 Fs dx q x F Q R o fr e k
  unfold kinD at e
  split at e
  · rename_i z
    cases e
    cases q : tget kvs z with
    | none =>
      rw [q] at k
      exact ⟨z, none, o.str_inv, rfl, h2 z q, k _ _ (.flat .bl fr R)⟩
    | some d =>
      obtain ⟨u, v, g1, _⟩ := h1 z d q
      rw [q] at k
      exact ⟨z, some u, o.str_inv, rfl, g1, k _ _ (.flat .bl fr R)⟩
  · cases e
theorem rd_kix {ad : Addr} (h1 : ∀ z d, tget kvs z = some d → ∃ u v, PySem.W.nsIn X.K ad z = some (some u) ∧ RelV v u ∧ ∀ H, Rep X.K H d v []) {es : Array DictEntry} {n : Nat} (D : KDict X.K X.w ad es n) :
    OpD1 X.K (kixD kvs) fun x H Q => rIxD X.K X.w (.ref ad) x H Q := by
  intro P B ia s σ H H0 Fs dx q x F Q R o fr e k
  unfold kixD at e
  split at e
  · rename_i z
    obtain ⟨d, e1, e2⟩ := Option.map_eq_some_iff.mp e
    cases e2
    obtain ⟨u, v, g1, g2, g3⟩ := h1 z d e1
    exact ⟨ad, z, v, rfl, o.str_inv, ⟨es, n, u, D.at_, D.lit, g1, g2⟩, k _ _ (.flat (g3 _) fr R)⟩
  · cases e
theorem de_kin (G : Gd X.K X.w X.mg x kvs) (ha : PE X a (rdO X.K E o)) (hg : Gl X x := by rfl) (hd : (x == ("__debug__" : Str)) = false := by decide) (hm : behindInMarks .In (.Name x p) = false := by with_unfolding_all rfl) : PE X (.Compare a [.In] [.Name x p] pos) (tD X.K E (unM (kinD false kvs) o)) := by
  obtain ⟨ad, es, n, e1, D, h1, h2⟩ := G.ex
  exact (pe_cmpR (op_in_kd D) ha (pe_glob hg e1 (v := .ref ad) rfl hd) hm).imp (tD_un (rd_kin (neg := false) h1 h2))
theorem de_knot (G : Gd X.K X.w X.mg x kvs) (ha : PE X a (rdO X.K E o)) (hg : Gl X x := by rfl) (hd : (x == ("__debug__" : Str)) = false := by decide) (hm : behindInMarks .NotIn (.Name x p) = false := by with_unfolding_all rfl) : PE X (.Compare a [.NotIn] [.Name x p] pos) (tD X.K E (unM (kinD true kvs) o)) := by
  obtain ⟨ad, es, n, e1, D, h1, h2⟩ := G.ex
  exact (pe_cmpR (op_notIn_kd D) ha (pe_glob hg e1 (v := .ref ad) rfl hd) hm).imp (tD_un (rd_kin (neg := true) h1 h2))
theorem dt_kin (G : Gd X.K X.w X.mg x kvs) (ha : PE X a (rdO X.K E o)) (hg : Gl X x := by rfl) (hd : (x == ("__debug__" : Str)) = false := by decide) (hm : behindInMarks .In (.Name x p) = false := by with_unfolding_all rfl) : PT X (.Compare a [.In] [.Name x p] pos) (tT X.K E (truB (unM (kinD false kvs) o))) := by
  obtain ⟨ad, es, n, e1, D, h1, h2⟩ := G.ex
  exact (pt_cmpR (op_in_kd D) ha (pe_glob hg e1 (v := .ref ad) rfl hd) hm).imp (tTest_of (tD_un (rd_kin (neg := false) h1 h2)))
theorem dt_knot (G : Gd X.K X.w X.mg x kvs) (ha : PE X a (rdO X.K E o)) (hg : Gl X x := by rfl) (hd : (x == ("__debug__" : Str)) = false := by decide) (hm : behindInMarks .NotIn (.Name x p) = false := by with_unfolding_all rfl) : PT X (.Compare a [.NotIn] [.Name x p] pos) (tT X.K E (truB (unM (kinD true kvs) o))) := by
  obtain ⟨ad, es, n, e1, D, h1, h2⟩ := G.ex
  exact (pt_cmpR (op_notIn_kd D) ha (pe_glob hg e1 (v := .ref ad) rfl hd) hm).imp (tTest_of (tD_un (rd_kin (neg := true) h1 h2)))
theorem de_kix (G : Gd X.K X.w X.mg x kvs) (ha : PE X a (rdO X.K E o)) (hg : Gl X x := by rfl) (hd : (x == ("__debug__" : Str)) = false := by decide) (hs : PlainIx a := by exact fun _ _ => rfl) : PE X (.Subscript (.Name x p) a pos) (tD X.K E (unM (kixD kvs) o)) := by
  obtain ⟨ad, es, n, e1, D, h1, h2⟩ := G.ex
  exact (pe_ix ix_kdict (pe_glob hg e1 (v := .ref ad) rfl hd) ha hs).imp (tD_un (rd_kix h1 D))
end
theorem tabW {fa : List He.Fa} {fn : List He.DefD} {ts : List He.Tab} {w : World} {K : PySem.W.Frag} (c : He.SaysT fa fn ts w K) (i : Nat) {t : He.Tab} (h : ts[i]? = some t := by rfl) : He.dicW K (t.1 K) = some (He.keysIn w.params t.2) := by
  have e : ts.map (fun t => He.dicW K (t.1 K)) = ts.map fun t => some (He.keysIn w.params t.2) := congrArg (fun z : He.AlT => z.2) c
  have e2 : (ts.map fun t => He.dicW K (t.1 K))[i]? = (ts.map fun t => some (He.keysIn w.params t.2))[i]? := by rw [e]
  rw [List.getElem?_map, List.getElem?_map, h] at e2
  exact Option.some.inj e2
end PV

/-! PV: zip(text, list), zip(text, tuple). -/
namespace PV
open PySem PySem.Spec L2 PyProof.Rows

/-- the signs of x and what stands in b at each turn, in new pairs -/
def ItzS (Sq : Hp → List V → Prop) (x : Str) : It :=
  ⟨fun i H => ∃ (ys : List V) (y : V) (c : Nat), Sq H ys ∧ x.cps[i]? = some c ∧ ys[i]? = some y,
    fun i H v H' => ∃ T c y, v = .ref T ∧ H T = none ∧ H' = upd H T (.tup [.str ⟨#[c]⟩, y]) ∧ x.cps[i]? = some c ∧ ∀ ys, Sq H ys → ys[i]? = some y,
    fun i H => ∃ ys : List V, Sq H ys ∧ i ≤ x.cps.size ∧ i ≤ ys.length ∧ (i = x.cps.size ∨ i = ys.length)⟩
structure Src2 (K : PySem.W.Frag) (b i2 : Addr) (Sq : Hp → List V → Prop) (Src : Array Value → Heap → Prop) (It2 : Nat → Heap → Prop) : Prop where
  src : ∀ {X : Cx} {pins : List (Addr × Obj)} {σ : L2.St} {H : Hp} {s : Shared} {ys : List V}, X.K = K → Inv X pins σ H s → Sq H ys → ∃ its : List Value, Vals ys its ∧ Src its.toArray s.heap
  inj : ∀ {X : Cx} {pins : List (Addr × Obj)} {σ : L2.St} {H : Hp} {s : Shared} {ys zs : List V}, X.K = K → Inv X pins σ H s → Sq H ys → Sq H zs → ys = zs
  drw : ∀ (prog : Program) (w : World) (A : Around), A.handled = none → ∀ items : Array Value, Draws prog w A i2 [i2, b] items.size (fun i v => items[i]? = some v) (fun i h => It2 i h ∧ Src items h)
  keep : ∀ i h h', It2 i h → (∀ o, h.get? i2 = some o → h'.get? i2 = some o) → It2 i h'
  obj : ∀ i h, It2 i h → ∃ o, h.get? i2 = some o ∧ ∀ v, o.data ≠ .cell v
theorem src_list {K : PySem.W.Frag} {b i2 : Addr} (hne : b ≠ i2) : Src2 K b i2 (fun H ys => SqL K H b ys) (fun items h => h.IsList b items) (fun i h => h.IsListIter i2 b i) where
  src := fun e I h => by subst e; obtain ⟨its, r, p, _⟩ := I.list h; exact ⟨its, r, p.isList⟩
  inj := fun e I h h' => by subst e; exact I.list_inj h h'
  drw := fun prog w A hh items => .list hh i2 b hne items
  keep := fun i h h' st k => st.at k
  obj := fun i h st => by obtain ⟨o, e, _, d⟩ := st; exact ⟨o, e, fun v q => by rw [d] at q; cases q⟩
theorem src_tup {K : PySem.W.Frag} {b i2 : Addr} (hne : b ≠ i2) : Src2 K b i2 (fun H ys => SqT K H b ys) (fun items h => h.IsTuple b items) (fun i h => h.IsTupleIter i2 b i) where
  src := fun e I h => by subst e; obtain ⟨its, r, p, _⟩ := I.tuple h; exact ⟨its, r, p⟩
  inj := fun e I h h' => by subst e; exact I.tuple_inj h h'
  drw := fun prog w A hh items => .tuple hh i2 b hne items
  keep := fun i h h' st k => st.at k
  obj := fun i h st => by obtain ⟨o, e, _, d⟩ := st; exact ⟨o, e, fun v q => by rw [d] at q; cases q⟩

theorem turn_zipS {P : Program} {w : World} {K : PySem.W.Frag} {elts : List Expr} {kk : Nat} {tpos : Pos} {x : Str} {t : PySem.Tok} {b z TI TO i1 i2 : Addr} {Sq : Hp → List V → Prop} {Src : Array Value → Heap → Prop} {It2 : Nat → Heap → Prop} (S2 : Src2 K b i2 Sq Src It2) (S : ZipSep2 z TI TO i1 i2 [i1] [i2, b]) :
    Turn P w K (.Tuple elts kk tpos) (ItzS Sq x) [z, TI, TO, i1, i2] z (fun i h => IsZip h z TI TO .none ∧ IsTupOf2 h TI (.ref i1) (.ref i2) ∧ (∃ a1 a2, IsTupOf2 h TO a1 a2) ∧ h.IsStrIter i1 (strIterType x) x t i ∧ It2 i h) where
  mem := by simp
  obj := fun i h st c hc => by
    obtain ⟨hz, hTI, ⟨a1, a2, hTO⟩, ⟨o1, e1, _, d1⟩, h2⟩ := st
    have e' : c = z ∨ c = TI ∨ c = TO ∨ c = i1 ∨ c = i2 := by simpa using hc
    rcases e' with q | q | q | q | q
    · rw [q]; exact ⟨_, hz, fun v q => nomatch q⟩
    · rw [q]; exact ⟨_, hTI, fun v q => nomatch q⟩
    · rw [q]; exact ⟨_, hTO, fun v q => nomatch q⟩
    · rw [q]; exact ⟨o1, e1, fun v q => by rw [d1] at q; cases q⟩
    · rw [q]; exact S2.obj i h h2
  keep := fun i h h' st k => by
    obtain ⟨hz, hTI, ⟨a1, a2, hTO⟩, ⟨o1, e1, r1⟩, h2⟩ := st
    exact ⟨k z (by simp) _ hz, k TI (by simp) _ hTI, ⟨a1, a2, k TO (by simp) _ hTO⟩, ⟨o1, k i1 (by simp) _ e1, r1⟩, S2.keep i h h' h2 fun o q => k i2 (by simp) o q⟩
  item := by
    intro X hP hw hK hc i pins s σ H E I hf st hg
    subst hP hw
    obtain ⟨hz, hTI, ⟨a1, a2, hTO⟩, h1, h2⟩ := st
    obtain ⟨ys, y, c, hq, hx, hy⟩ := hg
    obtain ⟨its, rv, hsrc⟩ := S2.src hK I hq
    obtain ⟨u2, hu2, ru2⟩ := rv.get hy
    have hzl : z < s.heap.objs.size := Heap.lt_size hz
    have hl1 : i < x.cps.size := (Array.getElem?_eq_some_iff.mp hx).1
    have hl2 : i < its.toArray.size := by
      have := (List.getElem?_eq_some_iff.mp hu2).1
      simpa using this
    refine wpAny_pyNext_zipD2_item S (Draws.text (show X.A.in1.handled = none from I.ok.hd hc) i1 x t) (S2.drw _ _ _ (show X.A.in1.handled = none from I.ok.hd hc) its.toArray) hz hTI hTO h1 ⟨h2, hsrc⟩ hl1 hl2 fun x1 x2 h' tk p1 p2 z' TO' h1' h2' hT hsz hk => ?_
    obtain ⟨c', ut, hc', rfl⟩ := p1
    rw [hx] at hc'; cases hc'
    have ex2 : x2 = u2 := by
      have p2' : its.toArray[i]? = some x2 := p2
      rw [List.getElem?_toArray] at p2'
      rw [hu2] at p2'; cases p2'; rfl
    subst ex2
    refine ⟨_, rfl, wpAny_letOwnedTupleGo_zip (s := { s with heap := h', toks := tk }) z' fun h'' z'' sb => ?_⟩
    have hT2 : h''.get? s.heap.objs.size = some { cls := .type "tuple", data := .seq #[.str ⟨#[c]⟩ ut, x2] } := (sb.2 _ (Nat.ne_of_gt hzl)).trans hT
    have new : ObjOk X.prog X.w (upd H s.heap.objs.size (.tup [.str ⟨#[c]⟩, y])) h'' s.heap.objs.size (.tup [.str ⟨#[c]⟩, y]) :=
      ⟨by show 2 ≤ sizeLine; decide, [.str ⟨#[c]⟩ ut, x2], .cons ⟨ut, rfl⟩ (.cons ru2 .nil), ⟨_, hT2, rfl, _, rfl⟩⟩
    have I1 : Inv X pins σ (upd H s.heap.objs.size (.tup [.str ⟨#[c]⟩, y])) { s with heap := h'', toks := tk } :=
      I.turnedNew (t' := tk) (ch := [z, TI, TO, i1, i2]) (fun c o hb q => (sb.2 c (fun q' => hb (by simp [q']))).trans (hk c o (fun q' => hb (by simp [q'])) (fun q' => hb (by simp [q'])) (fun q' => hb (by simp [q'])) (fun q' => hb (by simp [q'])) q)) hf (Nat.le_refl _) new
    refine ⟨.ref s.heap.objs.size, _, I1, rfl, ⟨_, c, y, rfl, I.hok.fresh (Nat.le_refl _), rfl, hx, fun l hl => by rw [S2.inj hK I hl hq]; exact hy⟩, ⟨z'', ?_, ⟨.str ⟨#[c]⟩ ut, x2, ?_⟩, ?_, ?_⟩, fun c hcm => ?_⟩
    · exact (sb.2 _ S.TIz).trans (hk _ _ S.TIz S.TITO S.TIi1 S.TIi2 hTI)
    · exact (sb.2 _ S.TOz).trans TO'
    · obtain ⟨o1, e1, r1⟩ := h1'
      exact ⟨o1, (sb.2 _ S.zi1.symm).trans e1, r1⟩
    · exact S2.keep _ _ _ h2'.1 fun o q => (sb.2 _ S.zi2.symm).trans q
    · have hlt : c < s.heap.objs.size := by
        have e' : c = z ∨ c = TI ∨ c = TO ∨ c = i1 ∨ c = i2 := by simpa using hcm
        rcases e' with q | q | q | q | q
        · rw [q]; exact hzl
        · rw [q]; exact Heap.lt_size hTI
        · rw [q]; exact Heap.lt_size hTO
        · rw [q]; obtain ⟨_, e1, _⟩ := h1; exact Heap.lt_size e1
        · rw [q]; obtain ⟨_, e2, _⟩ := S2.obj _ _ h2; exact Heap.lt_size e2
      rw [upd_ne (Nat.ne_of_lt hlt)]
      exact (hf c hcm).1
  done := by
    intro X hP hw hK hc i pins s σ H E I hf st hg
    subst hP hw
    obtain ⟨hz, hTI, ⟨a1, a2, hTO⟩, h1, h2⟩ := st
    obtain ⟨ys, hq, hi1, hi2, hend⟩ := hg
    obtain ⟨its, rv, hsrc⟩ := S2.src hK I hq
    have l2 : its.toArray.size = ys.length := by rw [List.size_toArray, rv.length]
    exact wpAny_pyNext_zipD2_end S (Draws.text (show X.A.in1.handled = none from I.ok.hd hc) i1 x t) (S2.drw _ _ _ (show X.A.in1.handled = none from I.ok.hd hc) its.toArray) hz hTI hTO h1 ⟨h2, hsrc⟩ hi1 (by rw [l2]; exact hi2) (by rw [l2]; exact hend) fun h' tk hk => ⟨rfl, I.turnedL (t' := tk) (ch := [z, TI, TO, i1, i2]) (fun c o hb q =>
      hk c o (fun q' => hb (by simp [q'])) (fun q' => hb (by simp [q'])) (fun q' => hb (by simp [q'])) (fun q' => hb (by simp [q'])) q) hf⟩
  self := fun A i s Q E st h => wpAny_pyIter_zip st.1 h

def iZipS (K : PySem.W.Frag) (ta : TA) : TI := fun σ H R => ta σ H fun vs H1 => ∃ (x : Str) (b : Addr) (ys : List V), vs = [.str x, .ref b] ∧ ((SqL K H1 b ys ∧ R (ItzS (fun H ys => SqL K H b ys) x) H1) ∨ (SqT K H1 b ys ∧ R (ItzS (fun H ys => SqT K H b ys) x) H1))
theorem pi_zipS {X : Cx} {e e2 : Expr} {ta : TA} {p pos tpos : Pos} {elts : List Expr} {kk : Nat} (hg : Gl X "zip") (hm : X.mg "zip" = none) (ha : PA X [e, e2] ta)
    (hs : starEach [e, e2] X.env = (false, eval e X.env) :: starEach [e2] X.env := by rfl) (hpl : (backTo pos (starEach [e2] X.env)).any (·.1) = false := by rfl) :
    PI X (.Tuple elts kk tpos) (.Call (.Name "zip" p) [e, e2] [] pos) (iZipS X.K ta) := by
  refine ⟨fun pins s σ H R I h => ?_⟩
  refine Call_ (ld_blt I hg hm PyProof.Rows.boot_zip (PyProof.Rows.callWith_type1 (thn (ha.run pos pins s σ H _ I h) fun us s1 ⟨vs, H1, I1, r1, q1⟩ => ?_) hs hpl))
  obtain ⟨x, b, ys, ex, q1⟩ := q1
  subst ex
  cases r1 with
  | cons r rr =>
    cases rr with
    | cons r' rr =>
      cases rr
      obtain ⟨t, rfl⟩ := r
      cases r'
      have fresh5 : ∀ c, c ∈ [s1.heap.objs.size + 4, s1.heap.objs.size + 2, s1.heap.objs.size + 3, s1.heap.objs.size, s1.heap.objs.size + 1] → FpOk X pins H1 c := fun c hcm => by
        have e' : c = s1.heap.objs.size + 4 ∨ c = s1.heap.objs.size + 2 ∨ c = s1.heap.objs.size + 3 ∨ c = s1.heap.objs.size ∨ c = s1.heap.objs.size + 1 := by simpa using hcm
        have hle : s1.heap.objs.size ≤ c := by
          rcases e' with z | z | z | z | z
          · rw [z]; exact Nat.le_add_right _ _
          · rw [z]; exact Nat.le_add_right _ _
          · rw [z]; exact Nat.le_add_right _ _
          · rw [z]; exact Nat.le_refl _
          · rw [z]; exact Nat.le_add_right _ _
        exact I1.fpOk hle (I1.hok.fresh hle)
      have sep : b < s1.heap.objs.size → ZipSep2 (s1.heap.objs.size + 4) (s1.heap.objs.size + 2) (s1.heap.objs.size + 3) s1.heap.objs.size (s1.heap.objs.size + 1) [s1.heap.objs.size] [s1.heap.objs.size + 1, b] := fun hb => by
        have D := PySem.W.ktu_apart s1.heap.objs.size b b hb hb
        have mm : ∀ {a c d : Addr}, a ≠ c → a ≠ d → a ∉ [c, d] := fun h1 h2 m => (List.mem_cons.mp m).elim h1 fun m => h2 (List.mem_singleton.mp m)
        exact ⟨D.TIz, D.TOz, D.TITO, D.TIi1, List.mem_cons_self, fun m => D.i1z (List.mem_singleton.mp m).symm, fun m => D.TOi1 (List.mem_singleton.mp m), D.TIi2, List.mem_cons_self, mm D.i2z.symm D.l2z.symm, mm D.TOi2 D.l2TO.symm, mm D.i12 D.l2i1.symm, fun m => D.i12 (List.mem_singleton.mp m).symm⟩
      rcases q1 with ⟨hq, q⟩ | ⟨hq, q⟩
      · obtain ⟨its, rv, p1, _⟩ := I1.list hq
        refine zip_begins2 (begins_text x t) (begins_list b its.toArray) trivial p1.isList fun h' hz hTI hTO h1 h2 hsz hk => wpAny_pyIter_zip hz ?_
        have I2 : Inv X pins σ H1 { s1 with heap := h' } := I1.kept (t' := s1.toks) hk
        exact ⟨s1.heap.objs.size + 4, [s1.heap.objs.size + 4, s1.heap.objs.size + 2, s1.heap.objs.size + 3, s1.heap.objs.size, s1.heap.objs.size + 1], _, _, H1, rfl, I2, turn_zipS (t := t) (src_list (Nat.ne_of_lt (Nat.lt_succ_of_lt p1.lt))) (sep p1.lt), ⟨hz, hTI, ⟨_, _, hTO⟩, ⟨_, h1, rfl, rfl⟩, ⟨_, h2, rfl, rfl⟩⟩, fresh5, q⟩
      · obtain ⟨its, rv, p1, _⟩ := I1.tuple hq
        obtain ⟨o1, ho1, _⟩ := id p1
        have hlt := Heap.lt_size ho1
        refine zip_begins2 (begins_text x t) (begins_tuple b its.toArray) trivial p1 fun h' hz hTI hTO h1 h2 hsz hk => wpAny_pyIter_zip hz ?_
        have I2 : Inv X pins σ H1 { s1 with heap := h' } := I1.kept (t' := s1.toks) hk
        exact ⟨s1.heap.objs.size + 4, [s1.heap.objs.size + 4, s1.heap.objs.size + 2, s1.heap.objs.size + 3, s1.heap.objs.size, s1.heap.objs.size + 1], _, _, H1, rfl, I2, turn_zipS (t := t) (src_tup (Nat.ne_of_lt (Nat.lt_succ_of_lt hlt))) (sep hlt), ⟨hz, hTI, ⟨_, _, hTO⟩, ⟨_, h1, rfl, rfl⟩, ⟨_, h2, rfl, rfl⟩⟩, fresh5, q⟩

/-! ### by values -/
def zipD (x : Str) (ds : List D) : List D := (x.cps.toList.zip ds).map fun q => .tup [.str ⟨#[q.1]⟩, q.2]
theorem zipD_len {x : Str} {ds : List D} : (zipD x ds).length = min x.cps.size ds.length := by simp [zipD]
theorem zipD_get {x : Str} {ds : List D} {i : Nat} {d : D} (e : (zipD x ds)[i]? = some d) : ∃ c y, x.cps[i]? = some c ∧ ds[i]? = some y ∧ d = .tup [.str ⟨#[c]⟩, y] := by
  unfold zipD at e
  rw [List.getElem?_map] at e
  obtain ⟨q, e1, e2⟩ := Option.map_eq_some_iff.mp e
  rw [List.getElem?_zip_eq_some] at e1
  exact ⟨q.1, q.2, by simpa using e1.1, e1.2, e2.symm⟩
theorem it_zipS {K : PySem.W.Frag} {P B : Addr → Prop} {H : Hp} {x : Str} {Sq : Hp → List V → Prop} {ds : List D} {vs : List V} {F : List Addr} (inv : Hp → Prop) (i0 : inv H) (keep : ∀ H1 H2, inv H1 → Fr P H1 H2 → inv H2) (hs : ∀ H, inv H → Sq H vs ∧ Reps K H ds vs F)
    (hp : ∀ a, a ∈ F → P a) (hb : ∀ a, a ∈ F → B a) : ItOK K P B (ItzS Sq x) (zipD x ds) H := by
  refine ⟨inv, i0, keep, fun i H1 q => ⟨fun d e => ?_, fun hl => ?_⟩⟩
  · obtain ⟨c, y, e1, e2, rfl⟩ := zipD_get e
    obtain ⟨h1, h2⟩ := hs H1 q
    obtain ⟨v, G, g1, g2, g3⟩ := h2.get e2
    refine ⟨⟨vs, v, c, h1, e1, g1⟩, fun u H2 w => ?_⟩
    obtain ⟨T, c', y', rfl, hT, rfl, k1, k2⟩ := w
    rw [e1] at k1; cases k1
    have := k2 vs h1
    rw [g1] at this; cases this
    refine ⟨.inr ⟨T, _, hT, rfl⟩, G, .tup (SqT.of upd_same) ?_, fun a m => hp a (g3 a m), fun a m => hb a (g3 a m)⟩
    have := Reps.cons (Rep.str (K := K) (H := upd H1 T (.tup [.str ⟨#[c]⟩, v])) (x := ⟨#[c]⟩)) (Reps.one (g2.keep (H' := upd H1 T (.tup [.str ⟨#[c]⟩, v])) (fun b u h _ => by rw [upd_ne (ne_of_none h hT)]; exact h) fun a m => upd_ne fun e => g2.tr a m (e ▸ hT)))
    exact this
  · obtain ⟨h1, h2⟩ := hs H1 q
    rw [zipD_len, h2.length] at hl
    exact ⟨vs, h1, by omega, by omega, by omega⟩
def zipM (f g : M (Bool × D)) : M (List D) := opsM [.ex f, .ex g] fun ds s => match ds with
  | [.str x, .lst ys] => .ok (zipD x ys) s
  | [.str x, .tup ys] => .ok (zipD x ys) s
  | _ => .stuck
@[simp] theorem ev_zip (f g : M (Bool × D)) (s : S) : zipM f g s = opsM [.ex f, .ex g] (fun ds s => match ds with
  | [.str x, .lst ys] => .ok (zipD x ys) s
  | [.str x, .tup ys] => .ok (zipD x ys) s
  | _ => .stuck) s := rfl
theorem di_zip {X : Cx} {E : WX} {a b : Expr} {f g : M (Bool × D)} {p pos tpos : Pos} {elts : List Expr} {kk : Nat} (hg : Gl X "zip") (hm : X.mg "zip" = none) (ha : PAd X E [a, b] [.ex f, .ex g]) (hs : starEach [a, b] X.env = (false, eval a X.env) :: starEach [b] X.env := by rfl) (hpl : (backTo pos (starEach [b] X.env)).any (·.1) = false := by rfl) :
    PI X (.Tuple elts kk tpos) (.Call (.Name "zip" p) [a, b] [] pos) (tI X.K E (zipM f g)) :=
  (pi_zipS hg hm ha hs hpl).imp fun σ H R h => by
    obtain ⟨P, B, ia, s, Fs, r, w⟩ := h
    refine rdOps r w (fun _ _ q => q) fun ds s1 vs H1 Gs Fs1 q ov fr r1 => ?_
    split at q
    · rename_i x ys
      cases ov with
      | cons h1 _ _ ov =>
        cases ov with
        | cons h2 n2 _ ov =>
          cases ov with
          | nil =>
            rw [h1.str_inv]
            have rp := h2.rep
            have pr := r1.prot rp.tr (n2 rfl)
            have hb := h2.inB
            cases rp with
            | @lst a _ ws G g1 g2 =>
              exact ⟨x, a, ws, rfl, .inl ⟨SqL.of g1, q _ H1 _ Fs1 (fun b m => .inl m) fr pr (it_zipS (fun H' => H' a = some (.lst ws) ∧ Reps X.K H' ys ws G) ⟨g1, g2⟩ (fun H1 H2 q fr => ⟨(fr.p a (.inr List.mem_cons_self)).trans q.1, Reps.keep fr.i q.2 fun b m => fr.p b (.inr (List.mem_cons_of_mem _ m))⟩)
                (fun H q => ⟨SqL.of q.1, q.2⟩) (fun b m => .inr (List.mem_cons_of_mem _ m)) fun b m => hb b (List.mem_cons_of_mem _ m))⟩⟩
    · rename_i x ys
      cases ov with
      | cons h1 _ _ ov =>
        cases ov with
        | cons h2 n2 _ ov =>
          cases ov with
          | nil =>
            rw [h1.str_inv]
            have rp := h2.rep
            have pr := r1.prot rp.tr (n2 rfl)
            have hb := h2.inB
            cases rp with
            | @tup a _ ws _ g1 g2 =>
              exact ⟨x, a, ws, rfl, .inr ⟨g1, q _ H1 _ Fs1 (fun b m => .inl m) fr pr (it_zipS (fun H' => SqT X.K H' a ws ∧ Reps X.K H' ys ws _) ⟨g1, g2⟩ (fun H1 H2 q fr => ⟨sqT_keep q.1 fr.i, Reps.keep fr.i q.2 fun b m => fr.p b (.inr m)⟩)
                (fun H q => q) (fun b m => .inr m) hb)⟩⟩
    · exact q.elim
end PV

/-! Printed by gen.py: the defs of the text by values. -/
namespace K35
open PySem PySem.Spec L2 PV
def top (i : Nat) : Stmt := PySem.Challenge.pw_onescore_k35_texts_of_code.main.body.getD i (.Pass ⟨0, 0, 0, 0⟩)
def d_DIGITS : D := (.str "0123456789")
def d_NAME_CHARACTERS : D := (.str "abcdefghijklmnopqrstuvwxyzABCDEFGHIJKLMNOPQRSTUVWXYZ0123456789_")
def d_SIZE : D := (.int 4294967296)
def kd_SHAPES : List (Str × D) := [("push", (.str "n")), ("load", (.str "s")), ("store", (.str "s")), ("add", (.str "")), ("sub", (.str "")), ("mul", (.str "")), ("less", (.str "")), ("same", (.str "")), ("jump", (.str "g")), ("zero", (.str "g")), ("emit", (.str "es")), ("wait", (.str "ec")), ("input", (.str "s")), ("round", (.str "ng")), ("yes", (.str "n")), ("no", (.str "n")), ("test", (.str "w")), ("stop", (.str ""))]
def kv_SHAPES : List (Str × He.Dv) := [("push", (.str "n")), ("load", (.str "s")), ("store", (.str "s")), ("add", (.str "")), ("sub", (.str "")), ("mul", (.str "")), ("less", (.str "")), ("same", (.str "")), ("jump", (.str "g")), ("zero", (.str "g")), ("emit", (.str "es")), ("wait", (.str "ec")), ("input", (.str "s")), ("round", (.str "ng")), ("yes", (.str "n")), ("no", (.str "n")), ("test", (.str "w")), ("stop", (.str ""))]
def mt_SyntaxProblem (y : Str) : Option Bool := if y = "ScoreError" then some false else if y = "SyntaxProblem" then some true else none
structure Gb (K : PySem.W.Frag) (w : World) (mg : Str → Option Value) : Prop where
  b_abs : mg "abs" = none
  b_all : mg "all" = none
  b_bool : mg "bool" = none
  b_dict : mg "dict" = none
  b_int : mg "int" = none
  b_isinstance : mg "isinstance" = none
  b_len : mg "len" = none
  b_list : mg "list" = none
  b_range : mg "range" = none
  b_str : mg "str" = none
  b_tuple : mg "tuple" = none
  b_zip : mg "zip" = none
  g_DIGITS : Gc K mg "DIGITS" d_DIGITS
  g_NAME_CHARACTERS : Gc K mg "NAME_CHARACTERS" d_NAME_CHARACTERS
  g_SIZE : Gc K mg "SIZE" d_SIZE
  d_SHAPES : Gd K w mg "SHAPES" kd_SHAPES
  x_SyntaxProblem : ∀ (P : Program) (w : World) (base : Heap), X1 P w K mg base 1 "SyntaxProblem" "start" ["self", "start"]
  n_SyntaxProblem : PySem.W.findIn K (.ref (He.ga K "SyntaxProblem")) "start" = some none
  xf_SyntaxProblem : XfC K (He.ga K "SyntaxProblem")
  k_SyntaxProblem : mg "SyntaxProblem" = some (.ref (He.ga K "SyntaxProblem"))
  e_SyntaxProblem : ∀ (y : Str) (b : Bool), mt_SyntaxProblem y = some b → PySem.W.exmOne K (.ref (He.ga K y)) (.ref (He.ga K "SyntaxProblem")) = some b
structure Tab (P : Program) (w : World) (K : PySem.W.Frag) (mg : Str → Option Value) (base : Heap) (k : Nat) (c : Nat → FS) : Prop where
  t0 : Kn P w K mg base k "write_instruction" ["instruction"] [] (c 0)
  t1 : Kn P w K mg base k "write_code" ["code"] [] (c 1)
  t2 : Kn P w K mg base k "is_name" ["word"] [] (c 2)
  t3 : Kn P w K mg base k "number" ["word"] [] (c 3)
  t4 : Kn P w K mg base k "read_choices" ["words"] [] (c 4)
  t5 : Kn P w K mg base k "read_line" ["line"] [] (c 5)
  t6 : Kn P w K mg base k "read_code" ["text"] [] (c 6)
  t7 : Kn P w K mg base k "_law_tape" ["_law_script"] [] (c 7)
  t8 : Kn P w K mg base k "_law_take" ["_law_tape_here", "_law_many"] [0] (c 8)
  t9 : Kn P w K mg base k "_law_is_integer" ["_law_actual"] [] (c 9)
  t10 : Kn P w K mg base k "_law_same_items" ["_law_actual", "_law_expected"] [] (c 10)
  t11 : Kn P w K mg base k "_law_same" ["_law_actual", "_law_expected"] [] (c 11)
  t12 : Kn P w K mg base k "_law_instruction" ["_law_tape_here"] [0] (c 12)
  t13 : Kn P w K mg base k "_law_line" ["_law_one"] [] (c 13)
  t14 : Kn P w K mg base k "_law_bent" ["_law_tape_here", "_law_text"] [0] (c 14)
  t15 : Kn P w K mg base k "_law_read" ["_law_text"] [] (c 15)
  t16 : Kn P w K mg base k "law" ["_law_script"] [] (c 16)
/-- write_instruction -/
abbrev N0 : List Str := ["instruction", "parts", "part", "label", "variable", "goal"]
abbrev p0 : List Str := ["instruction"]
theorem sc0 : FnScope N0 p0 (defScope (top 8)) := ⟨rfl, rfl, rfl, by decide +kernel, rfl, by decide +kernel, by decide +kernel⟩
noncomputable def b0 (c : Nat → FS) : M Fl :=
  (seqM (setM 1 (lstM [(binM ixD (.sl 0) (.ex (constM (.int 0))))]))
    (seqM (forM (itM (sliceM (.sl 0) (some (.ex (constM (.int 1)))) none)) (.nm 2) (iteM (truM (.ex (binM isiD (.sl 2) (.ex (constM (.ty "tuple")))))) (forM (itM (varM 2)) (.tp [(.nm 3), (.nm 4), (.nm 5)]) (dropM (growM extD 1 (lstM [(varM 3), (varM 4), (unM toStr (.sl 5))])))) (dropM (growM appD 1 (unM toStr (.sl 2))))))
    (retM (binM addD (.ex (methS joinD (.ex (constM (.str " "))) [(.sl 1)])) (.ex (constM (.str "\n")))))))
/-- write_code -/
abbrev N1 : List Str := ["code", "instruction"]
abbrev p1 : List Str := ["code"]
theorem sc1 : FnScope N1 p1 (defScope (top 9)) := ⟨rfl, rfl, rfl, by decide +kernel, rfl, by decide +kernel, by decide +kernel⟩
noncomputable def b1 (c : Nat → FS) : M Fl :=
  (retM (methS joinD (.ex (constM (.str ""))) [(.ex (compM (itM (varM 0)) (.nm 1) yesM (callM (c 0) [.ex (varM 1)]) [1]))]))
/-- is_name -/
abbrev N2 : List Str := ["word", "char"]
abbrev p2 : List Str := ["word"]
theorem sc2 : FnScope N2 p2 (defScope (top 10)) := ⟨rfl, rfl, rfl, by decide +kernel, rfl, by decide +kernel, by decide +kernel⟩
noncomputable def b2 (c : Nat → FS) : M Fl :=
  (retM (andV (binM (eqS true) (.sl 0) (.ex (constM (.str "")))) (unM allD (.ex (compM (itM (varM 0)) (.nm 1) yesM (binM (inD false) (.sl 1) (.ex (constM d_NAME_CHARACTERS))) [1])))))
/-- number -/
abbrev N3 : List Str := ["word", "value", "char"]
abbrev p3 : List Str := ["word"]
theorem sc3 : FnScope N3 p3 (defScope (top 11)) := ⟨rfl, rfl, rfl, by decide +kernel, rfl, by decide +kernel, by decide +kernel⟩
noncomputable def b3 (c : Nat → FS) : M Fl :=
  (seqM (iteM (orM (truB (binM (eqS false) (.sl 0) (.ex (constM (.str ""))))) (orM (notM (truM (.ex (unM allD (.ex (compM (itM (varM 0)) (.nm 2) yesM (binM (inD false) (.sl 2) (.ex (constM d_DIGITS))) [2])))))) (orM (andM (truB (binM (eqS false) (.ex (binM ixD (.sl 0) (.ex (constM (.int 0))))) (.ex (constM (.str "0"))))) (truB (binM (eqS true) (.sl 0) (.ex (constM (.str "0")))))) (truB (binM gtD (.ex (unM lenD (.sl 0))) (.ex (constM (.int 10)))))))) (retM (constM .non)) nxM)
    (seqM (setM 1 (unM toIntS (.sl 0)))
    (retM (iteM (truB (binM ltD (.sl 1) (.ex (constM d_SIZE)))) (varM 1) (constM .non)))))
/-- read_choices -/
abbrev N4 : List Str := ["words", "result", "at", "goal"]
abbrev p4 : List Str := ["words"]
theorem sc4 : FnScope N4 p4 (defScope (top 12)) := ⟨rfl, rfl, rfl, by decide +kernel, rfl, by decide +kernel, by decide +kernel⟩
noncomputable def b4 (c : Nat → FS) : M Fl :=
  (seqM (iteM (orM (notM (truM (.sl 0))) (truB (binM (eqS true) (.ex (binM modD (.ex (unM lenD (.sl 0))) (.ex (constM (.int 3))))) (.ex (constM (.int 0)))))) (retM (constM .non)) nxM)
    (seqM (setM 1 (lstM []))
    (seqM (forM (rng3M (constM (.int 0)) (unM lenD (.sl 0)) (constM (.int 3))) (.nm 2) (seqM (setM 3 (callM (c 3) [.ex (binM ixD (.sl 0) (.ex (binM addD (.sl 2) (.ex (constM (.int 2))))))]))
    (seqM (iteM (orM (notM (truM (.ex (callM (c 2) [.ex (binM ixD (.sl 0) (.sl 2))])))) (orM (notM (truM (.ex (callM (c 2) [.ex (binM ixD (.sl 0) (.ex (binM addD (.sl 2) (.ex (constM (.int 1))))))])))) (truB (binM (isD false) (.sl 3) (.ex (constM .non)))))) (retM (constM .non)) nxM)
    (dropM (growM appD 1 (tupM [(binM ixD (.sl 0) (.sl 2)), (binM ixD (.sl 0) (.ex (binM addD (.sl 2) (.ex (constM (.int 1)))))), (varM 3)]))))))
    (retM (unM toTup (.sl 1))))))
/-- read_line -/
abbrev N5 : List Str := ["line", "words", "shape", "choices", "result", "sort", "word", "part"]
abbrev p5 : List Str := ["line"]
theorem sc5 : FnScope N5 p5 (defScope (top 13)) := ⟨rfl, rfl, rfl, by decide +kernel, rfl, by decide +kernel, by decide +kernel⟩
noncomputable def b5 (c : Nat → FS) : M Fl :=
  (seqM (setM 1 (methS splitD (.sl 0) [(.ex (constM (.str " ")))]))
    (seqM (iteM (truB (unM (kinD true kd_SHAPES) (.ex (binM ixD (.sl 1) (.ex (constM (.int 0))))))) (retM (constM .non)) nxM)
    (seqM (setM 2 (unM (kixD kd_SHAPES) (.ex (binM ixD (.sl 1) (.ex (constM (.int 0)))))))
    (seqM (iteM (truB (binM (eqS false) (.ex (binM ixD (.sl 1) (.ex (constM (.int 0))))) (.ex (constM (.str "wait"))))) (seqM (setM 3 (callM (c 4) [.ex (sliceM (.sl 1) (some (.ex (constM (.int 2)))) none)]))
    (retM (iteM (andM (truB (binM (isD true) (.sl 3) (.ex (constM .non)))) (truM (.ex (callM (c 2) [.ex (binM ixD (.sl 1) (.ex (constM (.int 1))))])))) (tupM [(constM (.str "wait")), (binM ixD (.sl 1) (.ex (constM (.int 1)))), (varM 3)]) (constM .non)))) nxM)
    (seqM (iteM (truB (binM (eqS true) (.ex (unM lenD (.sl 1))) (.ex (binM addD (.ex (unM lenD (.sl 2))) (.ex (constM (.int 1))))))) (retM (constM .non)) nxM)
    (seqM (setM 4 (lstM [(binM ixD (.sl 1) (.ex (constM (.int 0))))]))
    (seqM (forM (zipM (varM 2) (sliceM (.sl 1) (some (.ex (constM (.int 1)))) none)) (.tp [(.nm 5), (.nm 6)]) (seqM (setM 7 (iteM (truB (binM (inD false) (.sl 5) (.ex (tupM [(constM (.str "n")), (constM (.str "g"))])))) (callM (c 3) [.ex (varM 6)]) (varM 6)))
    (seqM (iteM (orM (truB (binM (isD false) (.sl 7) (.ex (constM .non)))) (andM (truB (binM (inD true) (.sl 5) (.ex (tupM [(constM (.str "n")), (constM (.str "g"))])))) (notM (truM (.ex (callM (c 2) [.ex (varM 6)])))))) (retM (constM .non)) nxM)
    (seqM (iteM (andM (truB (binM (eqS false) (.sl 5) (.ex (constM (.str "w"))))) (truB (binM (inD true) (.sl 6) (.ex (tupM [(constM (.str "yes")), (constM (.str "no"))]))))) (retM (constM .non)) nxM)
    (dropM (growM appD 4 (varM 7)))))))
    (retM (unM toTup (.sl 4))))))))))
/-- read_code -/
abbrev N6 : List Str := ["text", "result", "start", "end", "instruction"]
abbrev p6 : List Str := ["text"]
theorem sc6 : FnScope N6 p6 (defScope (top 14)) := ⟨rfl, rfl, rfl, by decide +kernel, rfl, by decide +kernel, by decide +kernel⟩
noncomputable def b6 (c : Nat → FS) : M Fl :=
  (seqM (setM 1 (lstM []))
    (seqM (setM 2 (constM (.int 0)))
    (seqM (whileM (truB (binM ltD (.sl 2) (.ex (unM lenD (.sl 0))))) (seqM (setM 3 (methS findD (.sl 0) [(.ex (constM (.str "\n"))), (.sl 2)]))
    (seqM (iteM (truB (binM ltD (.sl 3) (.ex (constM (.int 0))))) (raiseM "SyntaxProblem" ["start"] [.ex (unM lenD (.sl 0))]) nxM)
    (seqM (setM 4 (callM (c 5) [.ex (sliceM (.sl 0) (some (.sl 2)) (some (.sl 3)))]))
    (seqM (iteM (truB (binM (isD false) (.sl 4) (.ex (constM .non)))) (raiseM "SyntaxProblem" ["start"] [.ex (varM 2)]) nxM)
    (seqM (dropM (growM appD 1 (varM 4)))
    (setM 2 (binM addD (.sl 3) (.ex (constM (.int 1)))))))))))
    (retM (unM toTup (.sl 1))))))
/-- _law_tape -/
abbrev N7 : List Str := ["_law_script", "_law_cells", "_law_seed", "_law_cell"]
abbrev p7 : List Str := ["_law_script"]
theorem sc7 : FnScope N7 p7 (defScope (top 16)) := ⟨rfl, rfl, rfl, by decide +kernel, rfl, by decide +kernel, by decide +kernel⟩
noncomputable def b7 (c : Nat → FS) : M Fl :=
  (seqM (setM 1 (compM (itM (varM 0)) (.nm 3) yesM (unM absD (.ex (unM toInt (.sl 3)))) [3]))
    (seqM (setM 2 (constM (.int 7)))
    (seqM (forM (itM (varM 1)) (.nm 3) (setM 2 (binM modD (.ex (unM toInt (.ex (binM addD (.ex (binM mulD (.sl 2) (.ex (constM (.int 31))))) (.sl 3))))) (.ex (constM (.int 2147483647))))))
    (retM (dispM [((constM (.str "cells")), (varM 1)), ((constM (.str "at")), (constM (.int 0))), ((constM (.str "left")), (constM (.int 0))), ((constM (.str "seed")), (varM 2)), ((constM (.str "salt")), (constM (.int 0)))])))))
/-- _law_take -/
abbrev N8 : List Str := ["_law_tape_here", "_law_many", "_law_drawn", "_law_mixed"]
abbrev p8 : List Str := ["_law_tape_here", "_law_many"]
theorem sc8 : FnScope N8 p8 (defScope (top 17)) := ⟨rfl, rfl, rfl, by decide +kernel, rfl, by decide +kernel, by decide +kernel⟩
noncomputable def b8 (c : Nat → FS) : M Fl :=
  (seqM (iteM (andM (truB (binM (eqS false) (.ex (binM ixD (.sl 0) (.ex (constM (.str "left"))))) (.ex (constM (.int 0))))) (truB (binM ltD (.ex (binM ixD (.sl 0) (.ex (constM (.str "at"))))) (.ex (unM lenD (.ex (binM ixD (.sl 0) (.ex (constM (.str "cells")))))))))) (seqM (setItM 0 (constM (.str "left")) (binM ixD (.ex (binM ixD (.sl 0) (.ex (constM (.str "cells"))))) (.ex (binM ixD (.sl 0) (.ex (constM (.str "at")))))))
    (setItM 0 (constM (.str "at")) (binM addD (.ex (binM ixD (.sl 0) (.ex (constM (.str "at"))))) (.ex (constM (.int 1)))))) nxM)
    (seqM (iteM (truB (binM gtD (.ex (binM ixD (.sl 0) (.ex (constM (.str "left"))))) (.ex (constM (.int 0))))) (seqM (setM 2 (binM modD (.ex (unM toInt (.ex (binM ixD (.sl 0) (.ex (constM (.str "left"))))))) (.sl 1)))
    (seqM (setItM 0 (constM (.str "left")) (binM divD (.ex (binM ixD (.sl 0) (.ex (constM (.str "left"))))) (.sl 1)))
    (retM (moveM 2)))) nxM)
    (seqM (setItM 0 (constM (.str "salt")) (binM addD (.ex (binM ixD (.sl 0) (.ex (constM (.str "salt"))))) (.ex (constM (.int 1)))))
    (seqM (setM 3 (binM modD (.ex (unM toInt (.ex (binM addD (.ex (binM mulD (.ex (binM ixD (.sl 0) (.ex (constM (.str "seed"))))) (.ex (constM (.int 48271))))) (.ex (binM mulD (.ex (binM ixD (.sl 0) (.ex (constM (.str "salt"))))) (.ex (constM (.int 69621))))))))) (.ex (constM (.int 2147483647)))))
    (seqM (setM 3 (binM modD (.ex (unM toInt (.ex (binM addD (.ex (binM addD (.ex (binM mulD (.sl 3) (.sl 3))) (.ex (binM mulD (.ex (binM ixD (.sl 0) (.ex (constM (.str "salt"))))) (.ex (constM (.int 40692))))))) (.ex (constM (.int 12345))))))) (.ex (constM (.int 2147483399)))))
    (retM (binM modD (.ex (unM toInt (.sl 3))) (.sl 1))))))))
/-- _law_is_integer -/
abbrev N9 : List Str := ["_law_actual"]
abbrev p9 : List Str := ["_law_actual"]
theorem sc9 : FnScope N9 p9 (defScope (top 18)) := ⟨rfl, rfl, rfl, by decide +kernel, rfl, by decide +kernel, by decide +kernel⟩
noncomputable def b9 (c : Nat → FS) : M Fl :=
  (retM (andV (binM isiD (.sl 0) (.ex (constM (.ty "int")))) (notV (.ex (binM isiD (.sl 0) (.ex (constM (.ty "bool"))))))))
/-- _law_same_items -/
abbrev N10 : List Str := ["_law_actual", "_law_expected", "_law_k"]
abbrev p10 : List Str := ["_law_actual", "_law_expected"]
theorem sc10 : FnScope N10 p10 (defScope (top 19)) := ⟨rfl, rfl, rfl, by decide +kernel, rfl, by decide +kernel, by decide +kernel⟩
noncomputable def b10 (c : Nat → FS) : M Fl :=
  (seqM (iteM (truB (binM (eqS true) (.ex (unM lenD (.sl 0))) (.ex (unM lenD (.sl 1))))) (retM (constM (.bl false))) nxM)
    (seqM (forM (rng1M (unM lenD (.sl 1))) (.nm 2) (iteM (notM (truM (.ex (callM (c 11) [.ex (binM ixD (.sl 0) (.sl 2)), .ex (binM ixD (.sl 1) (.sl 2))])))) (retM (constM (.bl false))) nxM))
    (retM (constM (.bl true)))))
/-- _law_same -/
abbrev N11 : List Str := ["_law_actual", "_law_expected", "_law_key"]
abbrev p11 : List Str := ["_law_actual", "_law_expected"]
theorem sc11 : FnScope N11 p11 (defScope (top 20)) := ⟨rfl, rfl, rfl, by decide +kernel, rfl, by decide +kernel, by decide +kernel⟩
noncomputable def b11 (c : Nat → FS) : M Fl :=
  (seqM (iteM (truB (binM (isD false) (.sl 1) (.ex (constM .non)))) (retM (binM (isD false) (.sl 0) (.ex (constM .non)))) nxM)
    (seqM (iteM (truM (.ex (binM isiD (.sl 1) (.ex (constM (.ty "bool")))))) (retM (andV (binM isiD (.sl 0) (.ex (constM (.ty "bool")))) (binM (eqS false) (.sl 0) (.sl 1)))) nxM)
    (seqM (iteM (truM (.ex (binM isiD (.sl 1) (.ex (constM (.ty "int")))))) (retM (andV (callM (c 9) [.ex (varM 0)]) (binM (eqS false) (.sl 0) (.sl 1)))) nxM)
    (seqM (iteM (truM (.ex (binM isiD (.sl 1) (.ex (constM (.ty "str")))))) (retM (andV (binM isiD (.sl 0) (.ex (constM (.ty "str")))) (binM (eqS false) (.sl 0) (.sl 1)))) nxM)
    (seqM (iteM (truM (.ex (binM isiD (.sl 1) (.ex (constM (.ty "tuple")))))) (retM (andV (binM isiD (.sl 0) (.ex (constM (.ty "tuple")))) (callM (c 10) [.ex (varM 0), .ex (varM 1)]))) nxM)
    (seqM (iteM (truM (.ex (binM isiD (.sl 1) (.ex (constM (.ty "list")))))) (retM (andV (binM isiD (.sl 0) (.ex (constM (.ty "list")))) (callM (c 10) [.ex (varM 0), .ex (varM 1)]))) nxM)
    (seqM (iteM (orM (notM (truM (.ex (binM isiD (.sl 0) (.ex (constM (.ty "dict"))))))) (truB (binM (eqS true) (.ex (unM lenD (.sl 0))) (.ex (unM lenD (.sl 1)))))) (retM (constM (.bl false))) nxM)
    (seqM (forM (itM (varM 1)) (.nm 2) (iteM (orM (truB (binM (inD true) (.sl 2) (.sl 0))) (notM (truM (.ex (callM (c 11) [.ex (binM ixD (.sl 0) (.sl 2)), .ex (binM ixD (.sl 1) (.sl 2))]))))) (retM (constM (.bl false))) nxM))
    (seqM (forM (itM (varM 0)) (.nm 2) (iteM (truM (.ex (binM isiD (.sl 2) (.ex (constM (.ty "bool")))))) (retM (constM (.bl false))) nxM))
    (retM (constM (.bl true))))))))))))
/-- _law_instruction -/
abbrev N12 : List Str := ["_law_tape_here", "_law_name", "_law_goal", "_law_choices", "_law_menu", "_law_k"]
abbrev p12 : List Str := ["_law_tape_here"]
theorem sc12 : FnScope N12 p12 (defScope (top 21)) := ⟨rfl, rfl, rfl, by decide +kernel, rfl, by decide +kernel, by decide +kernel⟩
noncomputable def b12 (c : Nat → FS) : M Fl :=
  (seqM (setM 1 (binM ixD (.ex (lstM [(constM (.str "n")), (constM (.str "m_1")), (constM (.str "Total"))])) (.ex (callM (c 8) [.sl 0, .ex (constM (.int 3))]))))
    (seqM (setM 2 (binM ixD (.ex (lstM [(constM (.int 0)), (constM (.int 7)), (constM (.int 4294967295))])) (.ex (callM (c 8) [.sl 0, .ex (constM (.int 3))]))))
    (seqM (setM 3 (unM toTup (.ex (compM (rng1M (binM addD (.ex (constM (.int 1))) (.ex (callM (c 8) [.sl 0, .ex (constM (.int 3))])))) (.nm 5) yesM (tupM [(binM ixD (.ex (lstM [(constM (.str "go")), (constM (.str "no")), (constM (.str "x9"))])) (.sl 5)), (varM 1), (varM 2)]) [5]))))
    (seqM (setM 4 (lstM [(tupM [(constM (.str "push")), (varM 2)]), (tupM [(constM (.str "load")), (varM 1)]), (tupM [(constM (.str "store")), (varM 1)]), (tupM [(constM (.str "add"))]), (tupM [(constM (.str "sub"))]), (tupM [(constM (.str "mul"))]), (tupM [(constM (.str "less"))]), (tupM [(constM (.str "same"))])]))
    (seqM (setM 4 (binM addD (.sl 4) (.ex (lstM [(tupM [(constM (.str "jump")), (varM 2)]), (tupM [(constM (.str "zero")), (varM 2)]), (tupM [(constM (.str "emit")), (constM (.str "b")), (varM 1)]), (tupM [(constM (.str "wait")), (constM (.str "b")), (varM 3)]), (tupM [(constM (.str "input")), (varM 1)])]))))
    (seqM (setM 4 (binM addD (.sl 4) (.ex (lstM [(tupM [(constM (.str "round")), (constM (.int 3)), (varM 2)]), (tupM [(constM (.str "yes")), (constM (.int 3))]), (tupM [(constM (.str "no")), (constM (.int 12))]), (tupM [(constM (.str "test")), (binM ixD (.ex (lstM [(constM (.str "yes")), (constM (.str "no"))])) (.ex (callM (c 8) [.sl 0, .ex (constM (.int 2))])))]), (tupM [(constM (.str "stop"))])]))))
    (retM (binM ixD (.sl 4) (.ex (callM (c 8) [.sl 0, .ex (constM (.int 18))]))))))))))
/-- _law_line -/
abbrev N13 : List Str := ["_law_one", "_law_words", "_law_part", "_law_choice"]
abbrev p13 : List Str := ["_law_one"]
theorem sc13 : FnScope N13 p13 (defScope (top 22)) := ⟨rfl, rfl, rfl, by decide +kernel, rfl, by decide +kernel, by decide +kernel⟩
noncomputable def b13 (c : Nat → FS) : M Fl :=
  (seqM (setM 1 (lstM [(binM ixD (.sl 0) (.ex (constM (.int 0))))]))
    (seqM (forM (itM (sliceM (.sl 0) (some (.ex (constM (.int 1)))) none)) (.nm 2) (iteM (truM (.ex (binM isiD (.sl 2) (.ex (constM (.ty "tuple")))))) (forM (itM (varM 2)) (.nm 3) (setM 1 (binM addD (.sl 1) (.ex (lstM [(binM ixD (.sl 3) (.ex (constM (.int 0)))), (binM ixD (.sl 3) (.ex (constM (.int 1)))), (unM toStr (.ex (binM ixD (.sl 3) (.ex (constM (.int 2))))))]))))) (dropM (growM appD 1 (unM toStr (.sl 2))))))
    (retM (binM addD (.ex (methS joinD (.ex (constM (.str " "))) [(.sl 1)])) (.ex (constM (.str "\n")))))))
/-- _law_bent -/
abbrev N14 : List Str := ["_law_tape_here", "_law_text", "_law_k", "_law_more"]
abbrev p14 : List Str := ["_law_tape_here", "_law_text"]
theorem sc14 : FnScope N14 p14 (defScope (top 23)) := ⟨rfl, rfl, rfl, by decide +kernel, rfl, by decide +kernel, by decide +kernel⟩
noncomputable def b14 (c : Nat → FS) : M Fl :=
  (seqM (setM 2 (callM (c 8) [.sl 0, .ex (binM addD (.ex (unM lenD (.sl 1))) (.ex (constM (.int 1))))]))
    (seqM (setM 3 (binM ixD (.ex (lstM [(constM (.str "")), (constM (.str " ")), (constM (.str "\n")), (constM (.str "7")), (constM (.str "0")), (constM (.str "x")), (constM (.str "go no 1")), (constM (.str "-")), (constM (.str "4294967296")), (constM (.str "push 1\n")), (constM (.str "yes")), (constM (.str "_"))])) (.ex (callM (c 8) [.sl 0, .ex (constM (.int 12))]))))
    (seqM (iteM (truB (binM (eqS false) (.ex (callM (c 8) [.sl 0, .ex (constM (.int 6))])) (.ex (constM (.int 0))))) (retM (sliceM (.sl 1) none (some (.ex (negM (.ex (constM (.int 1)))))))) nxM)
    (retM (binM addD (.ex (binM addD (.ex (sliceM (.sl 1) none (some (.sl 2)))) (.sl 3))) (.ex (sliceM (.sl 1) (some (.ex (binM addD (.sl 2) (.ex (callM (c 8) [.sl 0, .ex (constM (.int 3))]))))) none)))))))
/-- _law_read -/
abbrev N15 : List Str := ["_law_text", "e"]
abbrev p15 : List Str := ["_law_text"]
theorem sc15 : FnScope N15 p15 (defScope (top 24)) := ⟨rfl, rfl, rfl, by decide +kernel, rfl, by decide +kernel, by decide +kernel⟩
noncomputable def b15 (c : Nat → FS) : M Fl :=
  (tryAsM "SyntaxProblem" "start" 1 mt_SyntaxProblem (fun d => .tup [.str "wrong", d]) (retM (tupM [(constM (.str "code")), (callM (c 6) [.ex (varM 0)])])))
/-- law -/
abbrev N16 : List Str := ["_law_script", "_law_tape_here", "_law_code", "_law_text", "_law_k", "_law_bent_here", "_law_word", "_law_told", "_law_starts", "_law_start", "_law_line_here", "_law_one", "_law_j"]
abbrev p16 : List Str := ["_law_script"]
theorem sc16 : FnScope N16 p16 (defScope (top 25)) := ⟨rfl, rfl, rfl, by decide +kernel, rfl, by decide +kernel, by decide +kernel⟩
noncomputable def b16 (c : Nat → FS) : M Fl :=
  (seqM (setM 1 (callM (c 7) [.ex (varM 0)]))
    (seqM (setM 2 (unM toTup (.ex (compM (rng1M (callM (c 8) [.sl 1, .ex (constM (.int 12))])) (.nm 4) yesM (callM (c 12) [.sl 1]) [4]))))
    (seqM (setM 3 (methS joinD (.ex (constM (.str ""))) [(.ex (compM (itM (varM 2)) (.nm 11) yesM (callM (c 13) [.ex (varM 11)]) [11]))]))
    (seqM (iteM (orM (notM (truM (.ex (callM (c 11) [.ex (callM (c 1) [.ex (varM 2)]), .ex (varM 3)])))) (notM (truM (.ex (callM (c 11) [.ex (callM (c 6) [.ex (varM 3)]), .ex (varM 2)]))))) (retM (constM (.bl false))) nxM)
    (seqM (forM (rng1M (constM (.int 3))) (.nm 4) (seqM (setM 5 (callM (c 14) [.sl 1, .ex (varM 3)]))
    (seqM (asgM (.tp [(.nm 6), (.nm 7)]) (callM (c 15) [.ex (varM 5)]))
    (seqM (iteM (truB (binM (eqS false) (.sl 6) (.ex (constM (.str "code"))))) (seqM (iteM (notM (truM (.ex (callM (c 11) [.ex (methS joinD (.ex (constM (.str ""))) [(.ex (compM (itM (varM 7)) (.nm 11) yesM (callM (c 13) [.ex (varM 11)]) [11]))]), .ex (varM 5)])))) (retM (constM (.bl false))) nxM)
    ctM) nxM)
    (seqM (setM 8 (binM addD (.ex (lstM [(constM (.int 0))])) (.ex (compM (rng1M (unM lenD (.sl 5))) (.nm 12) (truB (binM (eqS false) (.ex (binM ixD (.sl 5) (.sl 12))) (.ex (constM (.str "\n"))))) (binM addD (.sl 12) (.ex (constM (.int 1)))) [12]))))
    (seqM (iteM (andM (truB (binM (eqS true) (.sl 7) (.ex (unM lenD (.sl 5))))) (truB (binM (inD true) (.sl 7) (.sl 8)))) (retM (constM (.bl false))) nxM)
    (seqM (iteM (andM (truB (binM (eqS false) (.sl 7) (.ex (unM lenD (.sl 5))))) (truB (binM (eqS false) (.ex (sliceM (.sl 5) (some (.ex (negM (.ex (constM (.int 1)))))) none)) (.ex (constM (.str "\n")))))) (retM (constM (.bl false))) nxM)
    (seqM (setM 9 (iteM (truB (binM (inD false) (.sl 7) (.sl 8))) (varM 7) (binM ixD (.sl 8) (.ex (negM (.ex (constM (.int 1))))))))
    (seqM (iteM (truB (binM (eqS true) (.ex (binM ixD (.ex (callM (c 15) [.ex (sliceM (.sl 5) none (some (.sl 9)))])) (.ex (constM (.int 0))))) (.ex (constM (.str "code"))))) (retM (constM (.bl false))) nxM)
    (iteM (andM (truB (binM (inD false) (.sl 7) (.sl 8))) (truB (binM ltD (.sl 7) (.ex (unM lenD (.sl 5)))))) (seqM (setM 10 (binM addD (.ex (binM ixD (.ex (methS splitD (.ex (sliceM (.sl 5) (some (.sl 7)) none)) [(.ex (constM (.str "\n")))])) (.ex (constM (.int 0))))) (.ex (constM (.str "\n")))))
    (iteM (truB (binM (inD false) (.sl 10) (.ex (compM (itM (varM 2)) (.nm 11) yesM (callM (c 13) [.ex (varM 11)]) [11])))) (retM (constM (.bl false))) nxM)) nxM))))))))))
    (retM (constM (.bl true))))))))
noncomputable def step (c : Nat → FS) : Nat → FS
  | 0 => runF [] 1 6 (b0 c)
  | 1 => runF [] 1 2 (b1 c)
  | 2 => runF [] 1 2 (b2 c)
  | 3 => runF [] 1 3 (b3 c)
  | 4 => runF [] 1 4 (b4 c)
  | 5 => runF [] 1 8 (b5 c)
  | 6 => runF [] 1 5 (b6 c)
  | 7 => runF [] 1 4 (b7 c)
  | 8 => runF [0] 2 4 (b8 c)
  | 9 => runF [] 1 1 (b9 c)
  | 10 => runF [] 2 3 (b10 c)
  | 11 => runF [] 2 3 (b11 c)
  | 12 => runF [0] 1 6 (b12 c)
  | 13 => runF [] 1 4 (b13 c)
  | 14 => runF [0] 2 4 (b14 c)
  | 15 => runF [] 1 2 (b15 c)
  | 16 => runF [] 1 13 (b16 c)
  | _ => stkF
noncomputable def sem : Nat → Nat → FS
  | 0 => fun _ => stkF
  | n + 1 => step (sem n)
theorem se0 (k : Nat) : sem (k + 1) 0 = runF [] 1 6 (b0 (sem k)) := rfl
theorem se1 (k : Nat) : sem (k + 1) 1 = runF [] 1 2 (b1 (sem k)) := rfl
theorem se2 (k : Nat) : sem (k + 1) 2 = runF [] 1 2 (b2 (sem k)) := rfl
theorem se3 (k : Nat) : sem (k + 1) 3 = runF [] 1 3 (b3 (sem k)) := rfl
theorem se4 (k : Nat) : sem (k + 1) 4 = runF [] 1 4 (b4 (sem k)) := rfl
theorem se5 (k : Nat) : sem (k + 1) 5 = runF [] 1 8 (b5 (sem k)) := rfl
theorem se6 (k : Nat) : sem (k + 1) 6 = runF [] 1 5 (b6 (sem k)) := rfl
theorem se7 (k : Nat) : sem (k + 1) 7 = runF [] 1 4 (b7 (sem k)) := rfl
theorem se8 (k : Nat) : sem (k + 1) 8 = runF [0] 2 4 (b8 (sem k)) := rfl
theorem se9 (k : Nat) : sem (k + 1) 9 = runF [] 1 1 (b9 (sem k)) := rfl
theorem se10 (k : Nat) : sem (k + 1) 10 = runF [] 2 3 (b10 (sem k)) := rfl
theorem se11 (k : Nat) : sem (k + 1) 11 = runF [] 2 3 (b11 (sem k)) := rfl
theorem se12 (k : Nat) : sem (k + 1) 12 = runF [0] 1 6 (b12 (sem k)) := rfl
theorem se13 (k : Nat) : sem (k + 1) 13 = runF [] 1 4 (b13 (sem k)) := rfl
theorem se14 (k : Nat) : sem (k + 1) 14 = runF [0] 2 4 (b14 (sem k)) := rfl
theorem se15 (k : Nat) : sem (k + 1) 15 = runF [] 1 2 (b15 (sem k)) := rfl
theorem se16 (k : Nat) : sem (k + 1) 16 = runF [] 1 13 (b16 (sem k)) := rfl
section
variable {P : Program} {w : World} {K : PySem.W.Frag} {mg : Str → Option Value} {base : Heap} {c : Nat → FS} {k : Nat}
theorem hu1 {k : Nat} {A : Around} (r : Room k A) : A.units + 1 < cLine := by have := r.un; omega
theorem hu65 {k : Nat} {A : Around} (r : Room k A) : A.units + 65 < cLine := by have := r.un; omega
abbrev FnP (K : PySem.W.Frag) (x : Str) (st : Stmt) (f : Addr) (fd : FuncData) : Prop := FunD K x x (defArgs st) (defBody st) (defScope st) [] [] f fd
/-- write_instruction -/
theorem w0 {f : Addr} {fd : FuncData} (F : FnP K "write_instruction" (top 8) f fd) (G : Gb K w mg) (TB : Tab P w K mg base (k + 2) c) : FnOk P w K mg base (L2.CX P w) (k + 3) f fd p0 (spF K [] 1 (runF [] 1 6 (b0 c))) := by
  have nd := sc0.nd
  let sc := defScope (top 8)
  let N := N0
  exact fn_okD (N := N0) (ps := p0) F sc0 (by decide) (by decide) fun cdv A outer s H E hr =>
    (ds_cons (ds_set (i := 1) (de_lst (da_cons (de_ix (or_ix (hu1 hr)) opd_ix (pv 0) de_int) da_nil)) nd)
    (ds_cons (ds_for (passes_of rfl) rfl (di_it (de_slice (pv 0) (pod_some de_int) pod_none)) (dg_name nd) (ds_one (ds_if (dt_tru (de_b2 call_isi opd_isi rfl G.b_isinstance rfl (pv 2) (de_ty G.b_tuple))) (ds_one (ds_for (passes_of rfl) rfl (di_it (de_var (pv 2))) (dg_tup rfl (dgs_cons (dg_name nd) (dgs_cons (dg_name nd) (dgs_cons (dg_name nd) dgs_nil)))) (ds_one (ds_expr (dm_grow (pe_bm PySem.F.plainAttrs_list PySem.F.slot_list_extend PySem.F.type_list_extend mt_extend (pv 1) (pa_cons (de_lst (da_cons (de_var (pv 3)) (da_cons (de_var (pv 4)) (da_cons (de_t1 or_str opd_toStr rfl G.b_str rfl (pv 5)) da_nil)))) pa_nil)) grow_ext))))) (ds_one (ds_expr (dm_grow (pe_bm PySem.F.plainAttrs_list PySem.F.slot_list_append PySem.F.type_list_append mt_append (pv 1) (pa_cons (de_t1 or_str opd_toStr rfl G.b_str rfl (pv 2)) pa_nil)) grow_app))))))
    (ds_one (ds_ret (de_op or_add opd_add (dm_meth1 (pe_join de_str (pv 1)) ops_join) de_str)))))
/-- write_code -/
theorem w1 {f : Addr} {fd : FuncData} (F : FnP K "write_code" (top 9) f fd) (G : Gb K w mg) (TB : Tab P w K mg base (k + 2) c) : FnOk P w K mg base (L2.CX P w) (k + 3) f fd p1 (spF K [] 1 (runF [] 1 2 (b1 c))) := by
  have nd := sc1.nd
  let sc := defScope (top 9)
  let N := N1
  exact fn_okD (N := N1) (ps := p1) F sc1 (by decide) (by decide) fun cdv A outer s H E hr =>
    (ds_one (ds_ret (dm_meth1 (pe_join de_str (dm_comp (pe_lc (own := [("instruction", 1)]) (g := gT _ (.nm 1)) rfl nd (di_it (de_var (pv 0))) (blkOk_by (own := [("instruction", 1)]) (N := N) (sc := sc) (by decide +kernel)) (fun _ _ _ _ _ => (dg_name nd)) (fun _ _ _ _ _ => dts_nil) (fun _ _ _ _ _ => (de_callK TB.t0 hr takes0 (da_cons (de_var (pv 1)) da_nil)))))) ops_join)))
/-- is_name -/
theorem w2 {f : Addr} {fd : FuncData} (F : FnP K "is_name" (top 10) f fd) (G : Gb K w mg) (TB : Tab P w K mg base (k + 2) c) : FnOk P w K mg base (L2.CX P w) (k + 3) f fd p2 (spF K [] 1 (runF [] 1 2 (b2 c))) := by
  have nd := sc2.nd
  let sc := defScope (top 10)
  let N := N2
  exact fn_okD (N := N2) (ps := p2) F sc2 (by decide) (by decide) fun cdv A outer s H E hr =>
    (ds_one (ds_ret (de_and (de_cmp (or_neS hr.units) opd_neS (pv 0) de_str (nomark _)) (de_one (de_b1 (cr_all rfl) opd_all rfl G.b_all rfl (dm_comp (pe_lc (own := [("char", 1)]) (g := gT _ (.nm 1)) rfl nd (di_it (de_var (pv 0))) (blkOk_by (own := [("char", 1)]) (N := N) (sc := sc) (by decide +kernel)) (fun _ _ _ _ _ => (dg_name nd)) (fun _ _ _ _ _ => dts_nil) (fun _ _ _ _ _ => (de_cmp (or_in (hu65 hr)) opd_in (pv 1) (de_glo G.g_NAME_CHARACTERS) (by with_unfolding_all rfl))))))))))
/-- number -/
theorem w3 {f : Addr} {fd : FuncData} (F : FnP K "number" (top 11) f fd) (G : Gb K w mg) (TB : Tab P w K mg base (k + 2) c) : FnOk P w K mg base (L2.CX P w) (k + 3) f fd p3 (spF K [] 1 (runF [] 1 3 (b3 c))) := by
  have nd := sc3.nd
  let sc := defScope (top 11)
  let N := N3
  exact fn_okD (N := N3) (ps := p3) F sc3 (by decide) (by decide) fun cdv A outer s H E hr =>
    (ds_cons (ds_if (dt_w (dw_or (dt_cmp (or_eqS hr.units) opd_eqS (pv 0) de_str (nomark _)) (dw_or (dt_not (dt_tru (de_b1 (cr_all rfl) opd_all rfl G.b_all rfl (dm_comp (pe_lc (own := [("char", 2)]) (g := gT _ (.nm 2)) rfl nd (di_it (de_var (pv 0))) (blkOk_by (own := [("char", 2)]) (N := N) (sc := sc) (by decide +kernel)) (fun _ _ _ _ _ => (dg_name nd)) (fun _ _ _ _ _ => dts_nil) (fun _ _ _ _ _ => (de_cmp (or_in (hu65 hr)) opd_in (pv 2) (de_glo G.g_DIGITS) (by with_unfolding_all rfl)))))))) (dw_or (dt_w (dw_and (dt_cmp (or_eqS hr.units) opd_eqS (de_ix (or_ix (hu1 hr)) opd_ix (pv 0) de_int) de_str (nomark _)) (dw_and1 (dt_cmp (or_neS hr.units) opd_neS (pv 0) de_str (nomark _))))) (dw_or1 (dt_cmp or_gt opd_ord (de_b1 or_len opd_len rfl G.b_len rfl (pv 0)) de_int (nomark _))))))) (ds_one (ds_ret de_non)) ds_nil)
    (ds_cons (ds_set (i := 1) (de_t1 (PV.CallR.or call_int1 call_int_str) opd_toIntS rfl G.b_int rfl (pv 0)) nd)
    (ds_one (ds_ret (de_ite (dt_cmp or_lt opd_ord (pv 1) (de_glo G.g_SIZE) (nomark _)) (de_var (pv 1)) de_non)))))
/-- read_choices -/
theorem w4 {f : Addr} {fd : FuncData} (F : FnP K "read_choices" (top 12) f fd) (G : Gb K w mg) (TB : Tab P w K mg base (k + 2) c) : FnOk P w K mg base (L2.CX P w) (k + 3) f fd p4 (spF K [] 1 (runF [] 1 4 (b4 c))) := by
  have nd := sc4.nd
  let sc := defScope (top 12)
  let N := N4
  exact fn_okD (N := N4) (ps := p4) F sc4 (by decide) (by decide) fun cdv A outer s H E hr =>
    (ds_cons (ds_if (dt_w (dw_or (dt_not (dt_tru (pv 0))) (dw_or1 (dt_cmp (or_neS hr.units) opd_neS (de_op op_mod opd_mod (de_b1 or_len opd_len rfl G.b_len rfl (pv 0)) de_int) de_int (nomark _))))) (ds_one (ds_ret de_non)) ds_nil)
    (ds_cons (ds_set (i := 1) (de_lst da_nil) nd)
    (ds_cons (ds_for (passes_of rfl) rfl (di_rng3 rfl G.b_range (da_cons de_int (da_cons (de_b1 or_len opd_len rfl G.b_len rfl (pv 0)) (da_cons de_int da_nil)))) (dg_name nd) (ds_cons (ds_set (i := 3) (de_callK TB.t3 hr (takes_of rfl rfl rfl rfl) (da_cons (de_ix (or_ix (hu1 hr)) opd_ix (pv 0) (de_op or_add opd_add (pv 2) de_int)) da_nil)) nd)
    (ds_cons (ds_if (dt_w (dw_or (dt_not (dt_tru (de_callK TB.t2 hr (takes_of rfl rfl rfl rfl) (da_cons (de_ix (or_ix (hu1 hr)) opd_ix (pv 0) (pv 2)) da_nil)))) (dw_or (dt_not (dt_tru (de_callK TB.t2 hr (takes_of rfl rfl rfl rfl) (da_cons (de_ix (or_ix (hu1 hr)) opd_ix (pv 0) (de_op or_add opd_add (pv 2) de_int)) da_nil)))) (dw_or1 (dt_cmp op_isN opd_isN (pv 3) de_non (nomark _)))))) (ds_one (ds_ret de_non)) ds_nil)
    (ds_one (ds_expr (dm_grow (pe_bm PySem.F.plainAttrs_list PySem.F.slot_list_append PySem.F.type_list_append mt_append (pv 1) (pa_cons (de_tup (da_cons (de_ix (or_ix (hu1 hr)) opd_ix (pv 0) (pv 2)) (da_cons (de_ix (or_ix (hu1 hr)) opd_ix (pv 0) (de_op or_add opd_add (pv 2) de_int)) (da_cons (de_var (pv 3)) da_nil)))) pa_nil)) grow_app))))))
    (ds_one (ds_ret (de_t1 call_tuple_of opd_toTup rfl G.b_tuple rfl (pv 1)))))))
/-- read_line -/
theorem w5 {f : Addr} {fd : FuncData} (F : FnP K "read_line" (top 13) f fd) (G : Gb K w mg) (TB : Tab P w K mg base (k + 2) c) : FnOk P w K mg base (L2.CX P w) (k + 3) f fd p5 (spF K [] 1 (runF [] 1 8 (b5 c))) := by
  have nd := sc5.nd
  let sc := defScope (top 13)
  let N := N5
  exact fn_okD (N := N5) (ps := p5) F sc5 (by decide) (by decide) fun cdv A outer s H E hr =>
    (ds_cons (ds_set (i := 1) (dm_meth1 (pe_split (pv 0) de_str) ops_split) nd)
    (ds_cons (ds_if (dt_knot G.d_SHAPES (de_ix (or_ix (hu1 hr)) opd_ix (pv 1) de_int)) (ds_one (ds_ret de_non)) ds_nil)
    (ds_cons (ds_set (i := 2) (de_kix G.d_SHAPES (de_ix (or_ix (hu1 hr)) opd_ix (pv 1) de_int)) nd)
    (ds_cons (ds_if (dt_cmp (or_eqS hr.units) opd_eqS (de_ix (or_ix (hu1 hr)) opd_ix (pv 1) de_int) de_str (nomark _)) (ds_cons (ds_set (i := 3) (de_callK TB.t4 hr (takes_of rfl rfl rfl rfl) (da_cons (de_slice (pv 1) (pod_some de_int) pod_none) da_nil)) nd)
    (ds_one (ds_ret (de_ite (dt_w (dw_and (dt_cmp op_notN opd_notN (pv 3) de_non (nomark _)) (dw_and1 (dt_tru (de_callK TB.t2 hr (takes_of rfl rfl rfl rfl) (da_cons (de_ix (or_ix (hu1 hr)) opd_ix (pv 1) de_int) da_nil)))))) (de_tup (da_cons de_str (da_cons (de_ix (or_ix (hu1 hr)) opd_ix (pv 1) de_int) (da_cons (de_var (pv 3)) da_nil)))) de_non)))) ds_nil)
    (ds_cons (ds_if (dt_cmp (or_neS hr.units) opd_neS (de_b1 or_len opd_len rfl G.b_len rfl (pv 1)) (de_op or_add opd_add (de_b1 or_len opd_len rfl G.b_len rfl (pv 2)) de_int) (nomark _)) (ds_one (ds_ret de_non)) ds_nil)
    (ds_cons (ds_set (i := 4) (de_lst (da_cons (de_ix (or_ix (hu1 hr)) opd_ix (pv 1) de_int) da_nil)) nd)
    (ds_cons (ds_for (passes_of rfl) rfl (di_zip rfl G.b_zip (da_cons (de_var (pv 2)) (da_cons (de_slice (pv 1) (pod_some de_int) pod_none) da_nil))) (dg_tup rfl (dgs_cons (dg_name nd) (dgs_cons (dg_name nd) dgs_nil))) (ds_cons (ds_set (i := 7) (de_ite (dt_cmp (or_in (hu65 hr)) opd_in (pv 5) (de_tup (da_cons de_str (da_cons de_str da_nil))) (by with_unfolding_all rfl)) (de_callK TB.t3 hr (takes_of rfl rfl rfl rfl) (da_cons (de_var (pv 6)) da_nil)) (de_var (pv 6))) nd)
    (ds_cons (ds_if (dt_w (dw_or (dt_cmp op_isN opd_isN (pv 7) de_non (nomark _)) (dw_or1 (dt_w (dw_and (dt_cmp (or_notin (hu65 hr)) opd_in (pv 5) (de_tup (da_cons de_str (da_cons de_str da_nil))) (by with_unfolding_all rfl)) (dw_and1 (dt_not (dt_tru (de_callK TB.t2 hr (takes_of rfl rfl rfl rfl) (da_cons (de_var (pv 6)) da_nil)))))))))) (ds_one (ds_ret de_non)) ds_nil)
    (ds_cons (ds_if (dt_w (dw_and (dt_cmp (or_eqS hr.units) opd_eqS (pv 5) de_str (nomark _)) (dw_and1 (dt_cmp (or_notin (hu65 hr)) opd_in (pv 6) (de_tup (da_cons de_str (da_cons de_str da_nil))) (by with_unfolding_all rfl))))) (ds_one (ds_ret de_non)) ds_nil)
    (ds_one (ds_expr (dm_grow (pe_bm PySem.F.plainAttrs_list PySem.F.slot_list_append PySem.F.type_list_append mt_append (pv 4) (pa_cons (de_var (pv 7)) pa_nil)) grow_app)))))))
    (ds_one (ds_ret (de_t1 call_tuple_of opd_toTup rfl G.b_tuple rfl (pv 4)))))))))))
/-- read_code -/
theorem w6 {f : Addr} {fd : FuncData} (F : FnP K "read_code" (top 14) f fd) (G : Gb K w mg) (TB : Tab P w K mg base (k + 2) c) : FnOk P w K mg base (L2.CX P w) (k + 3) f fd p6 (spF K [] 1 (runF [] 1 5 (b6 c))) := by
  have nd := sc6.nd
  let sc := defScope (top 14)
  let N := N6
  exact fn_okD (N := N6) (ps := p6) F sc6 (by decide) (by decide) fun cdv A outer s H E hr =>
    (ds_cons (ds_set (i := 1) (de_lst da_nil) nd)
    (ds_cons (ds_set (i := 2) de_int nd)
    (ds_cons (ds_while (passes_of rfl) (dt_cmp or_lt opd_ord (pv 2) (de_b1 or_len opd_len rfl G.b_len rfl (pv 0)) (nomark _)) (ds_cons (ds_set (i := 3) (dm_methB (pe_bm PySem.F.plainAttrs_str PySem.F.slot_str_find PySem.F.type_str_find mt_find3 (pv 0) (da_cons de_str (da_cons (pv 2) da_nil))) ops_find) nd)
    (ds_cons (ds_if (dt_cmp or_lt opd_ord (pv 3) de_int (nomark _)) (ds_one (ds_raise1 (G.x_SyntaxProblem _ _ _) (hr.mono (by omega)) rfl (takes_of rfl rfl rfl rfl) (da_cons (de_b1 or_len opd_len rfl G.b_len rfl (pv 0)) da_nil))) ds_nil)
    (ds_cons (ds_set (i := 4) (de_callK TB.t5 hr (takes_of rfl rfl rfl rfl) (da_cons (de_slice (pv 0) (pod_some (pv 2)) (pod_some (pv 3))) da_nil)) nd)
    (ds_cons (ds_if (dt_cmp op_isN opd_isN (pv 4) de_non (nomark _)) (ds_one (ds_raise1 (G.x_SyntaxProblem _ _ _) (hr.mono (by omega)) rfl (takes_of rfl rfl rfl rfl) (da_cons (de_var (pv 2)) da_nil))) ds_nil)
    (ds_cons (ds_expr (dm_grow (pe_bm PySem.F.plainAttrs_list PySem.F.slot_list_append PySem.F.type_list_append mt_append (pv 1) (pa_cons (de_var (pv 4)) pa_nil)) grow_app))
    (ds_one (ds_set (i := 2) (de_op or_add opd_add (pv 3) de_int) nd))))))))
    (ds_one (ds_ret (de_t1 call_tuple_of opd_toTup rfl G.b_tuple rfl (pv 1)))))))
/-- _law_tape -/
theorem w7 {f : Addr} {fd : FuncData} (F : FnP K "_law_tape" (top 16) f fd) (G : Gb K w mg) (TB : Tab P w K mg base (k + 2) c) : FnOk P w K mg base (L2.CX P w) (k + 3) f fd p7 (spF K [] 1 (runF [] 1 4 (b7 c))) := by
  have nd := sc7.nd
  let sc := defScope (top 16)
  let N := N7
  exact fn_okD (N := N7) (ps := p7) F sc7 (by decide) (by decide) fun cdv A outer s H E hr =>
    (ds_cons (ds_comp (ps_setLc (i := 1) (own := [("_law_cell", 3)]) (g := gT _ (.nm 3)) rfl nd rfl rfl (sw_true rfl rfl rfl (by decide +kernel)) (di_it (de_var (pv 0))) (blkOk_by (own := [("_law_cell", 3)]) (N := N) (sc := sc) (by decide +kernel)) (fun _ _ _ _ _ => (dg_name nd)) (fun _ _ _ _ _ => dts_nil) (fun _ _ _ _ _ => (de_b1 call_abs opd_abs rfl G.b_abs rfl (de_t1 call_int1 opd_toInt rfl G.b_int rfl (pv 3))))))
    (ds_cons (ds_set (i := 2) de_int nd)
    (ds_cons (ds_for (passes_of rfl) rfl (di_it (de_var (pv 1))) (dg_name nd) (ds_one (ds_set (i := 2) (de_op op_mod opd_mod (de_t1 call_int1 opd_toInt rfl G.b_int rfl (de_op or_add opd_add (de_op op_mul opd_mul (pv 2) de_int) (pv 3))) de_int) nd)))
    (ds_one (ds_ret (dm_disp (pe_disp (pps_cons de_str (de_var (pv 1)) (pps_cons de_str de_int (pps_cons de_str de_int (pps_cons de_str (de_var (pv 2)) (pps_cons de_str de_int pps_nil))))) rfl rfl (List.cons_ne_nil _ _) (by decide))))))))
/-- _law_take -/
theorem w8 {f : Addr} {fd : FuncData} (F : FnP K "_law_take" (top 17) f fd) (G : Gb K w mg) (TB : Tab P w K mg base (k + 2) c) : FnOk P w K mg base (L2.CX P w) (k + 3) f fd p8 (spF K [0] 2 (runF [0] 2 4 (b8 c))) := by
  have nd := sc8.nd
  let sc := defScope (top 17)
  let N := N8
  exact fn_okD (N := N8) (ps := p8) F sc8 (by decide) (by decide) fun cdv A outer s H E hr =>
    (ds_cons (ds_if (dt_w (dw_and (dt_cmp (or_eqS hr.units) opd_eqS (de_ix (or_ix (hu1 hr)) opd_ix (pv 0) de_str) de_int (nomark _)) (dw_and1 (dt_cmp or_lt opd_ord (de_ix (or_ix (hu1 hr)) opd_ix (pv 0) de_str) (de_b1 or_len opd_len rfl G.b_len rfl (de_ix (or_ix (hu1 hr)) opd_ix (pv 0) de_str)) (nomark _))))) (ds_cons (ds_setIt (ps_asg (de_ix (or_ix (hu1 hr)) opd_ix (de_ix (or_ix (hu1 hr)) opd_ix (pv 0) de_str) (de_ix (or_ix (hu1 hr)) opd_ix (pv 0) de_str)) (pg_sub (pv 0) de_str set_list)) (ps_dput (hu1 hr) (pv 0) de_str (de_ix (or_ix (hu1 hr)) opd_ix (de_ix (or_ix (hu1 hr)) opd_ix (pv 0) de_str) (de_ix (or_ix (hu1 hr)) opd_ix (pv 0) de_str)) rfl))
    (ds_one (ds_setIt (ps_asg (de_op or_add opd_add (de_ix (or_ix (hu1 hr)) opd_ix (pv 0) de_str) de_int) (pg_sub (pv 0) de_str set_list)) (ps_dput (hu1 hr) (pv 0) de_str (de_op or_add opd_add (de_ix (or_ix (hu1 hr)) opd_ix (pv 0) de_str) de_int) rfl)))) ds_nil)
    (ds_cons (ds_if (dt_cmp or_gt opd_ord (de_ix (or_ix (hu1 hr)) opd_ix (pv 0) de_str) de_int (nomark _)) (ds_cons (ds_set (i := 2) (de_op op_mod opd_mod (de_t1 call_int1 opd_toInt rfl G.b_int rfl (de_ix (or_ix (hu1 hr)) opd_ix (pv 0) de_str)) (pv 1)) nd)
    (ds_cons (ds_setIt (ps_asg (de_op op_fdiv opd_div (de_ix (or_ix (hu1 hr)) opd_ix (pv 0) de_str) (pv 1)) (pg_sub (pv 0) de_str set_list)) (ps_dput (hu1 hr) (pv 0) de_str (de_op op_fdiv opd_div (de_ix (or_ix (hu1 hr)) opd_ix (pv 0) de_str) (pv 1)) rfl))
    (ds_one (ds_ret (de_move (pv 2)))))) ds_nil)
    (ds_cons (ds_setIt (ps_asg (de_op or_add opd_add (de_ix (or_ix (hu1 hr)) opd_ix (pv 0) de_str) de_int) (pg_sub (pv 0) de_str set_list)) (ps_dput (hu1 hr) (pv 0) de_str (de_op or_add opd_add (de_ix (or_ix (hu1 hr)) opd_ix (pv 0) de_str) de_int) rfl))
    (ds_cons (ds_set (i := 3) (de_op op_mod opd_mod (de_t1 call_int1 opd_toInt rfl G.b_int rfl (de_op or_add opd_add (de_op op_mul opd_mul (de_ix (or_ix (hu1 hr)) opd_ix (pv 0) de_str) de_int) (de_op op_mul opd_mul (de_ix (or_ix (hu1 hr)) opd_ix (pv 0) de_str) de_int))) de_int) nd)
    (ds_cons (ds_set (i := 3) (de_op op_mod opd_mod (de_t1 call_int1 opd_toInt rfl G.b_int rfl (de_op or_add opd_add (de_op or_add opd_add (de_op op_mul opd_mul (pv 3) (pv 3)) (de_op op_mul opd_mul (de_ix (or_ix (hu1 hr)) opd_ix (pv 0) de_str) de_int)) de_int)) de_int) nd)
    (ds_one (ds_ret (de_op op_mod opd_mod (de_t1 call_int1 opd_toInt rfl G.b_int rfl (pv 3)) (pv 1)))))))))
/-- _law_is_integer -/
theorem w9 {f : Addr} {fd : FuncData} (F : FnP K "_law_is_integer" (top 18) f fd) (G : Gb K w mg) (TB : Tab P w K mg base (k + 2) c) : FnOk P w K mg base (L2.CX P w) (k + 3) f fd p9 (spF K [] 1 (runF [] 1 1 (b9 c))) := by
  have nd := sc9.nd
  let sc := defScope (top 18)
  let N := N9
  exact fn_okD (N := N9) (ps := p9) F sc9 (by decide) (by decide) fun cdv A outer s H E hr =>
    (ds_one (ds_ret (de_and (de_b2 call_isi opd_isi rfl G.b_isinstance rfl (pv 0) (de_ty G.b_int)) (de_one (de_not (de_b2 call_isi opd_isi rfl G.b_isinstance rfl (pv 0) (de_ty G.b_bool)))))))
/-- _law_same_items -/
theorem w10 {f : Addr} {fd : FuncData} (F : FnP K "_law_same_items" (top 19) f fd) (G : Gb K w mg) (TB : Tab P w K mg base (k + 2) c) : FnOk P w K mg base (L2.CX P w) (k + 3) f fd p10 (spF K [] 2 (runF [] 2 3 (b10 c))) := by
  have nd := sc10.nd
  let sc := defScope (top 19)
  let N := N10
  exact fn_okD (N := N10) (ps := p10) F sc10 (by decide) (by decide) fun cdv A outer s H E hr =>
    (ds_cons (ds_if (dt_cmp (or_neS hr.units) opd_neS (de_b1 or_len opd_len rfl G.b_len rfl (pv 0)) (de_b1 or_len opd_len rfl G.b_len rfl (pv 1)) (nomark _)) (ds_one (ds_ret de_bl)) ds_nil)
    (ds_cons (ds_for (passes_of rfl) rfl (di_rng1 rfl G.b_range (de_b1 or_len opd_len rfl G.b_len rfl (pv 1))) (dg_name nd) (ds_one (ds_if (dt_not (dt_tru (de_callK TB.t11 hr (takes_of rfl rfl rfl rfl) (da_cons (de_ix (or_ix (hu1 hr)) opd_ix (pv 0) (pv 2)) (da_cons (de_ix (or_ix (hu1 hr)) opd_ix (pv 1) (pv 2)) da_nil))))) (ds_one (ds_ret de_bl)) ds_nil)))
    (ds_one (ds_ret de_bl))))
/-- _law_same -/
theorem w11 {f : Addr} {fd : FuncData} (F : FnP K "_law_same" (top 20) f fd) (G : Gb K w mg) (TB : Tab P w K mg base (k + 2) c) : FnOk P w K mg base (L2.CX P w) (k + 3) f fd p11 (spF K [] 2 (runF [] 2 3 (b11 c))) := by
  have nd := sc11.nd
  let sc := defScope (top 20)
  let N := N11
  exact fn_okD (N := N11) (ps := p11) F sc11 (by decide) (by decide) fun cdv A outer s H E hr =>
    (ds_cons (ds_if (dt_cmp op_isN opd_isN (pv 1) de_non (nomark _)) (ds_one (ds_ret (de_cmp op_isN opd_isN (pv 0) de_non (nomark _)))) ds_nil)
    (ds_cons (ds_if (dt_tru (de_b2 call_isi opd_isi rfl G.b_isinstance rfl (pv 1) (de_ty G.b_bool))) (ds_one (ds_ret (de_and (de_b2 call_isi opd_isi rfl G.b_isinstance rfl (pv 0) (de_ty G.b_bool)) (de_one (de_cmp (or_eqS hr.units) opd_eqS (pv 0) (pv 1) (nomark _)))))) ds_nil)
    (ds_cons (ds_if (dt_tru (de_b2 call_isi opd_isi rfl G.b_isinstance rfl (pv 1) (de_ty G.b_int))) (ds_one (ds_ret (de_and (de_callK TB.t9 hr (takes_of rfl rfl rfl rfl) (da_cons (de_var (pv 0)) da_nil)) (de_one (de_cmp (or_eqS hr.units) opd_eqS (pv 0) (pv 1) (nomark _)))))) ds_nil)
    (ds_cons (ds_if (dt_tru (de_b2 call_isi opd_isi rfl G.b_isinstance rfl (pv 1) (de_ty G.b_str))) (ds_one (ds_ret (de_and (de_b2 call_isi opd_isi rfl G.b_isinstance rfl (pv 0) (de_ty G.b_str)) (de_one (de_cmp (or_eqS hr.units) opd_eqS (pv 0) (pv 1) (nomark _)))))) ds_nil)
    (ds_cons (ds_if (dt_tru (de_b2 call_isi opd_isi rfl G.b_isinstance rfl (pv 1) (de_ty G.b_tuple))) (ds_one (ds_ret (de_and (de_b2 call_isi opd_isi rfl G.b_isinstance rfl (pv 0) (de_ty G.b_tuple)) (de_one (de_callK TB.t10 hr (takes_of rfl rfl rfl rfl) (da_cons (de_var (pv 0)) (da_cons (de_var (pv 1)) da_nil))))))) ds_nil)
    (ds_cons (ds_if (dt_tru (de_b2 call_isi opd_isi rfl G.b_isinstance rfl (pv 1) (de_ty G.b_list))) (ds_one (ds_ret (de_and (de_b2 call_isi opd_isi rfl G.b_isinstance rfl (pv 0) (de_ty G.b_list)) (de_one (de_callK TB.t10 hr (takes_of rfl rfl rfl rfl) (da_cons (de_var (pv 0)) (da_cons (de_var (pv 1)) da_nil))))))) ds_nil)
    (ds_cons (ds_if (dt_w (dw_or (dt_not (dt_tru (de_b2 call_isi opd_isi rfl G.b_isinstance rfl (pv 0) (de_ty G.b_dict)))) (dw_or1 (dt_cmp (or_neS hr.units) opd_neS (de_b1 or_len opd_len rfl G.b_len rfl (pv 0)) (de_b1 or_len opd_len rfl G.b_len rfl (pv 1)) (nomark _))))) (ds_one (ds_ret de_bl)) ds_nil)
    (ds_cons (ds_for (passes_of rfl) rfl (di_it (de_var (pv 1))) (dg_name nd) (ds_one (ds_if (dt_w (dw_or (dt_cmp (or_notin (hu65 hr)) opd_in (pv 2) (pv 0) (by with_unfolding_all rfl)) (dw_or1 (dt_not (dt_tru (de_callK TB.t11 hr (takes_of rfl rfl rfl rfl) (da_cons (de_ix (or_ix (hu1 hr)) opd_ix (pv 0) (pv 2)) (da_cons (de_ix (or_ix (hu1 hr)) opd_ix (pv 1) (pv 2)) da_nil)))))))) (ds_one (ds_ret de_bl)) ds_nil)))
    (ds_cons (ds_for (passes_of rfl) rfl (di_it (de_var (pv 0))) (dg_name nd) (ds_one (ds_if (dt_tru (de_b2 call_isi opd_isi rfl G.b_isinstance rfl (pv 2) (de_ty G.b_bool))) (ds_one (ds_ret de_bl)) ds_nil)))
    (ds_one (ds_ret de_bl)))))))))))
/-- _law_instruction -/
theorem w12 {f : Addr} {fd : FuncData} (F : FnP K "_law_instruction" (top 21) f fd) (G : Gb K w mg) (TB : Tab P w K mg base (k + 2) c) : FnOk P w K mg base (L2.CX P w) (k + 3) f fd p12 (spF K [0] 1 (runF [0] 1 6 (b12 c))) := by
  have nd := sc12.nd
  let sc := defScope (top 21)
  let N := N12
  exact fn_okD (N := N12) (ps := p12) F sc12 (by decide) (by decide) fun cdv A outer s H E hr =>
    (ds_cons (ds_set (i := 1) (de_ix (or_ix (hu1 hr)) opd_ix (de_lst (da_cons de_str (da_cons de_str (da_cons de_str da_nil)))) (de_callK TB.t8 hr (takes_of rfl rfl rfl rfl) (da_cons (pv 0) (da_cons de_int da_nil)))) nd)
    (ds_cons (ds_set (i := 2) (de_ix (or_ix (hu1 hr)) opd_ix (de_lst (da_cons de_int (da_cons de_int (da_cons de_int da_nil)))) (de_callK TB.t8 hr (takes_of rfl rfl rfl rfl) (da_cons (pv 0) (da_cons de_int da_nil)))) nd)
    (ds_cons (ds_set (i := 3) (de_t1 call_tuple_of opd_toTup rfl G.b_tuple rfl (dm_comp (pe_lc (own := [("_law_k", 5)]) (g := gT _ (.nm 5)) rfl nd (di_rng1 rfl G.b_range (de_op or_add opd_add de_int (de_callK TB.t8 hr (takes_of rfl rfl rfl rfl) (da_cons (pv 0) (da_cons de_int da_nil))))) (blkOk_by (own := [("_law_k", 5)]) (N := N) (sc := sc) (by decide +kernel)) (fun _ _ _ _ _ => (dg_name nd)) (fun _ _ _ _ _ => dts_nil) (fun _ _ _ _ _ => (de_tup (da_cons (de_ix (or_ix (hu1 hr)) opd_ix (de_lst (da_cons de_str (da_cons de_str (da_cons de_str da_nil)))) (pv 5)) (da_cons (de_var (pv 1)) (da_cons (de_var (pv 2)) da_nil)))))))) nd)
    (ds_cons (ds_set (i := 4) (de_lst (da_cons (de_tup (da_cons de_str (da_cons (de_var (pv 2)) da_nil))) (da_cons (de_tup (da_cons de_str (da_cons (de_var (pv 1)) da_nil))) (da_cons (de_tup (da_cons de_str (da_cons (de_var (pv 1)) da_nil))) (da_cons (de_tup (da_cons de_str da_nil)) (da_cons (de_tup (da_cons de_str da_nil)) (da_cons (de_tup (da_cons de_str da_nil)) (da_cons (de_tup (da_cons de_str da_nil)) (da_cons (de_tup (da_cons de_str da_nil)) da_nil))))))))) nd)
    (ds_cons (ds_set (i := 4) (de_op or_add opd_add (pv 4) (de_lst (da_cons (de_tup (da_cons de_str (da_cons (de_var (pv 2)) da_nil))) (da_cons (de_tup (da_cons de_str (da_cons (de_var (pv 2)) da_nil))) (da_cons (de_tup (da_cons de_str (da_cons de_str (da_cons (de_var (pv 1)) da_nil)))) (da_cons (de_tup (da_cons de_str (da_cons de_str (da_cons (de_var (pv 3)) da_nil)))) (da_cons (de_tup (da_cons de_str (da_cons (de_var (pv 1)) da_nil))) da_nil))))))) nd)
    (ds_cons (ds_set (i := 4) (de_op or_add opd_add (pv 4) (de_lst (da_cons (de_tup (da_cons de_str (da_cons de_int (da_cons (de_var (pv 2)) da_nil)))) (da_cons (de_tup (da_cons de_str (da_cons de_int da_nil))) (da_cons (de_tup (da_cons de_str (da_cons de_int da_nil))) (da_cons (de_tup (da_cons de_str (da_cons (de_ix (or_ix (hu1 hr)) opd_ix (de_lst (da_cons de_str (da_cons de_str da_nil))) (de_callK TB.t8 hr (takes_of rfl rfl rfl rfl) (da_cons (pv 0) (da_cons de_int da_nil)))) da_nil))) (da_cons (de_tup (da_cons de_str da_nil)) da_nil))))))) nd)
    (ds_one (ds_ret (de_ix (or_ix (hu1 hr)) opd_ix (pv 4) (de_callK TB.t8 hr (takes_of rfl rfl rfl rfl) (da_cons (pv 0) (da_cons de_int da_nil))))))))))))
/-- _law_line -/
theorem w13 {f : Addr} {fd : FuncData} (F : FnP K "_law_line" (top 22) f fd) (G : Gb K w mg) (TB : Tab P w K mg base (k + 2) c) : FnOk P w K mg base (L2.CX P w) (k + 3) f fd p13 (spF K [] 1 (runF [] 1 4 (b13 c))) := by
  have nd := sc13.nd
  let sc := defScope (top 22)
  let N := N13
  exact fn_okD (N := N13) (ps := p13) F sc13 (by decide) (by decide) fun cdv A outer s H E hr =>
    (ds_cons (ds_set (i := 1) (de_lst (da_cons (de_ix (or_ix (hu1 hr)) opd_ix (pv 0) de_int) da_nil)) nd)
    (ds_cons (ds_for (passes_of rfl) rfl (di_it (de_slice (pv 0) (pod_some de_int) pod_none)) (dg_name nd) (ds_one (ds_if (dt_tru (de_b2 call_isi opd_isi rfl G.b_isinstance rfl (pv 2) (de_ty G.b_tuple))) (ds_one (ds_for (passes_of rfl) rfl (di_it (de_var (pv 2))) (dg_name nd) (ds_one (ds_set (i := 1) (de_op or_add opd_add (pv 1) (de_lst (da_cons (de_ix (or_ix (hu1 hr)) opd_ix (pv 3) de_int) (da_cons (de_ix (or_ix (hu1 hr)) opd_ix (pv 3) de_int) (da_cons (de_t1 or_str opd_toStr rfl G.b_str rfl (de_ix (or_ix (hu1 hr)) opd_ix (pv 3) de_int)) da_nil))))) nd)))) (ds_one (ds_expr (dm_grow (pe_bm PySem.F.plainAttrs_list PySem.F.slot_list_append PySem.F.type_list_append mt_append (pv 1) (pa_cons (de_t1 or_str opd_toStr rfl G.b_str rfl (pv 2)) pa_nil)) grow_app))))))
    (ds_one (ds_ret (de_op or_add opd_add (dm_meth1 (pe_join de_str (pv 1)) ops_join) de_str)))))
/-- _law_bent -/
theorem w14 {f : Addr} {fd : FuncData} (F : FnP K "_law_bent" (top 23) f fd) (G : Gb K w mg) (TB : Tab P w K mg base (k + 2) c) : FnOk P w K mg base (L2.CX P w) (k + 3) f fd p14 (spF K [0] 2 (runF [0] 2 4 (b14 c))) := by
  have nd := sc14.nd
  let sc := defScope (top 23)
  let N := N14
  exact fn_okD (N := N14) (ps := p14) F sc14 (by decide) (by decide) fun cdv A outer s H E hr =>
    (ds_cons (ds_set (i := 2) (de_callK TB.t8 hr (takes_of rfl rfl rfl rfl) (da_cons (pv 0) (da_cons (de_op or_add opd_add (de_b1 or_len opd_len rfl G.b_len rfl (pv 1)) de_int) da_nil))) nd)
    (ds_cons (ds_set (i := 3) (de_ix (or_ix (hu1 hr)) opd_ix (de_lst (da_cons de_str (da_cons de_str (da_cons de_str (da_cons de_str (da_cons de_str (da_cons de_str (da_cons de_str (da_cons de_str (da_cons de_str (da_cons de_str (da_cons de_str (da_cons de_str da_nil))))))))))))) (de_callK TB.t8 hr (takes_of rfl rfl rfl rfl) (da_cons (pv 0) (da_cons de_int da_nil)))) nd)
    (ds_cons (ds_if (dt_cmp (or_eqS hr.units) opd_eqS (de_callK TB.t8 hr (takes_of rfl rfl rfl rfl) (da_cons (pv 0) (da_cons de_int da_nil))) de_int (nomark _)) (ds_one (ds_ret (de_slice (pv 1) pod_none (pod_some (de_neg de_int))))) ds_nil)
    (ds_one (ds_ret (de_op or_add opd_add (de_op or_add opd_add (de_slice (pv 1) pod_none (pod_some (pv 2))) (pv 3)) (de_slice (pv 1) (pod_some (de_op or_add opd_add (pv 2) (de_callK TB.t8 hr (takes_of rfl rfl rfl rfl) (da_cons (pv 0) (da_cons de_int da_nil))))) pod_none)))))))
/-- _law_read -/
theorem w15 {f : Addr} {fd : FuncData} (F : FnP K "_law_read" (top 24) f fd) (G : Gb K w mg) (TB : Tab P w K mg base (k + 2) c) : FnOk P w K mg base (L2.CX P w) (k + 3) f fd p15 (spF K [] 1 (runF [] 1 2 (b15 c))) := by
  have nd := sc15.nd
  let sc := defScope (top 24)
  let N := N15
  exact fn_okD (N := N15) (ps := p15) F sc15 (by decide) (by decide) fun cdv A outer s H E hr =>
    (ds_one (ds_tryAs rfl rfl nd rfl rfl ⟨rfl, by decide, .inl G.k_SyntaxProblem⟩ (takes_of rfl rfl rfl rfl) G.e_SyntaxProblem mk_tag (fun W pn xe tk po => (ds_one (ds_ret (de_tup (da_cons de_str (da_cons (de_callK TB.t6 hr tk (da_cons (de_var (pv 0)) da_nil)) da_nil)))))) (fun a oe cls d pn hz hf => pss_one (ps_ret (pe_tup (pa_cons pe_str (pa_cons (pe_xf G.xf_SyntaxProblem G.n_SyntaxProblem hz hf (pv 1)) pa_nil)))))))
/-- law -/
theorem w16 {f : Addr} {fd : FuncData} (F : FnP K "law" (top 25) f fd) (G : Gb K w mg) (TB : Tab P w K mg base (k + 2) c) : FnOk P w K mg base (L2.CX P w) (k + 3) f fd p16 (spF K [] 1 (runF [] 1 13 (b16 c))) := by
  have nd := sc16.nd
  let sc := defScope (top 25)
  let N := N16
  exact fn_okD (N := N16) (ps := p16) F sc16 (by decide) (by decide) fun cdv A outer s H E hr =>
    (ds_cons (ds_set (i := 1) (de_callK TB.t7 hr (takes_of rfl rfl rfl rfl) (da_cons (de_var (pv 0)) da_nil)) nd)
    (ds_cons (ds_set (i := 2) (de_t1 call_tuple_of opd_toTup rfl G.b_tuple rfl (dm_comp (pe_lc (own := [("_law_k", 4)]) (g := gT _ (.nm 4)) rfl nd (di_rng1 rfl G.b_range (de_callK TB.t8 hr (takes_of rfl rfl rfl rfl) (da_cons (pv 1) (da_cons de_int da_nil)))) (blkOk_by (own := [("_law_k", 4)]) (N := N) (sc := sc) (by decide +kernel)) (fun _ _ _ _ _ => (dg_name nd)) (fun _ _ _ _ _ => dts_nil) (fun _ _ _ _ _ => (de_callK TB.t12 hr takes0 (da_cons (pv 1) da_nil)))))) nd)
    (ds_cons (ds_set (i := 3) (dm_meth1 (pe_join de_str (dm_comp (pe_lc (own := [("_law_one", 11)]) (g := gT _ (.nm 11)) rfl nd (di_it (de_var (pv 2))) (blkOk_by (own := [("_law_one", 11)]) (N := N) (sc := sc) (by decide +kernel)) (fun _ _ _ _ _ => (dg_name nd)) (fun _ _ _ _ _ => dts_nil) (fun _ _ _ _ _ => (de_callK TB.t13 hr takes0 (da_cons (de_var (pv 11)) da_nil)))))) ops_join) nd)
    (ds_cons (ds_if (dt_w (dw_or (dt_not (dt_tru (de_callK TB.t11 hr (takes_of rfl rfl rfl rfl) (da_cons (de_callK TB.t1 hr (takes_of rfl rfl rfl rfl) (da_cons (de_var (pv 2)) da_nil)) (da_cons (de_var (pv 3)) da_nil))))) (dw_or1 (dt_not (dt_tru (de_callK TB.t11 hr (takes_of rfl rfl rfl rfl) (da_cons (de_callK TB.t6 hr (takes_of rfl rfl rfl rfl) (da_cons (de_var (pv 3)) da_nil)) (da_cons (de_var (pv 2)) da_nil)))))))) (ds_one (ds_ret de_bl)) ds_nil)
    (ds_cons (ds_for (passes_of rfl) rfl (di_rng1 rfl G.b_range de_int) (dg_name nd) (ds_cons (ds_set (i := 5) (de_callK TB.t14 hr (takes_of rfl rfl rfl rfl) (da_cons (pv 1) (da_cons (de_var (pv 3)) da_nil))) nd)
    (ds_cons (ds_asg (de_callK TB.t15 hr (takes_of rfl rfl rfl rfl) (da_cons (de_var (pv 5)) da_nil)) (dg_tup rfl (dgs_cons (dg_name nd) (dgs_cons (dg_name nd) dgs_nil))))
    (ds_cons (ds_if (dt_cmp (or_eqS hr.units) opd_eqS (pv 6) de_str (nomark _)) (ds_cons (ds_if (dt_not (dt_tru (de_callK TB.t11 hr (takes_of rfl rfl rfl rfl) (da_cons (dm_meth1 (pe_join de_str (dm_comp (pe_lc (own := [("_law_one", 11)]) (g := gT _ (.nm 11)) rfl nd (di_it (de_var (pv 7))) (blkOk_by (own := [("_law_one", 11)]) (N := N) (sc := sc) (by decide +kernel)) (fun _ _ _ _ _ => (dg_name nd)) (fun _ _ _ _ _ => dts_nil) (fun _ _ _ _ _ => (de_callK TB.t13 hr takes0 (da_cons (de_var (pv 11)) da_nil)))))) ops_join) (da_cons (de_var (pv 5)) da_nil))))) (ds_one (ds_ret de_bl)) ds_nil)
    (ds_one ds_continue)) ds_nil)
    (ds_cons (ds_set (i := 8) (de_op or_add opd_add (de_lst (da_cons de_int da_nil)) (dm_comp (pe_lc (own := [("_law_j", 12)]) (g := gT _ (.nm 12)) rfl nd (di_rng1 rfl G.b_range (de_b1 or_len opd_len rfl G.b_len rfl (pv 5))) (blkOk_by (own := [("_law_j", 12)]) (N := N) (sc := sc) (by decide +kernel)) (fun _ _ _ _ _ => (dg_name nd)) (fun _ _ _ _ _ => (pts_one (dt_cmp (or_eqS hr.units) opd_eqS (de_ix (or_ix (hu1 hr)) opd_ix (pv 5) (pv 12)) de_str (nomark _)))) (fun _ _ _ _ _ => (de_op or_add opd_add (pv 12) de_int))))) nd)
    (ds_cons (ds_if (dt_w (dw_and (dt_cmp (or_neS hr.units) opd_neS (pv 7) (de_b1 or_len opd_len rfl G.b_len rfl (pv 5)) (nomark _)) (dw_and1 (dt_cmp (or_notin (hu65 hr)) opd_in (pv 7) (pv 8) (by with_unfolding_all rfl))))) (ds_one (ds_ret de_bl)) ds_nil)
    (ds_cons (ds_if (dt_w (dw_and (dt_cmp (or_eqS hr.units) opd_eqS (pv 7) (de_b1 or_len opd_len rfl G.b_len rfl (pv 5)) (nomark _)) (dw_and1 (dt_cmp (or_eqS hr.units) opd_eqS (de_slice (pv 5) (pod_some (de_neg de_int)) pod_none) de_str (nomark _))))) (ds_one (ds_ret de_bl)) ds_nil)
    (ds_cons (ds_set (i := 9) (de_ite (dt_cmp (or_in (hu65 hr)) opd_in (pv 7) (pv 8) (by with_unfolding_all rfl)) (de_var (pv 7)) (de_ix (or_ix (hu1 hr)) opd_ix (pv 8) (de_neg de_int))) nd)
    (ds_cons (ds_if (dt_cmp (or_neS hr.units) opd_neS (de_ix (or_ix (hu1 hr)) opd_ix (de_callK TB.t15 hr (takes_of rfl rfl rfl rfl) (da_cons (de_slice (pv 5) pod_none (pod_some (pv 9))) da_nil)) de_int) de_str (nomark _)) (ds_one (ds_ret de_bl)) ds_nil)
    (ds_one (ds_if (dt_w (dw_and (dt_cmp (or_in (hu65 hr)) opd_in (pv 7) (pv 8) (by with_unfolding_all rfl)) (dw_and1 (dt_cmp or_lt opd_ord (pv 7) (de_b1 or_len opd_len rfl G.b_len rfl (pv 5)) (nomark _))))) (ds_cons (ds_set (i := 10) (de_op or_add opd_add (de_ix (or_ix (hu1 hr)) opd_ix (dm_meth1 (pe_split (de_slice (pv 5) (pod_some (pv 7)) pod_none) de_str) ops_split) de_int) de_str) nd)
    (ds_one (ds_if (dt_cmp (or_in (hu65 hr)) opd_in (pv 10) (dm_comp (pe_lc (own := [("_law_one", 11)]) (g := gT _ (.nm 11)) rfl nd (di_it (de_var (pv 2))) (blkOk_by (own := [("_law_one", 11)]) (N := N) (sc := sc) (by decide +kernel)) (fun _ _ _ _ _ => (dg_name nd)) (fun _ _ _ _ _ => dts_nil) (fun _ _ _ _ _ => (de_callK TB.t13 hr takes0 (da_cons (de_var (pv 11)) da_nil))))) (by with_unfolding_all rfl)) (ds_one (ds_ret de_bl)) ds_nil))) ds_nil)))))))))))
    (ds_one (ds_ret de_bl)))))))
/-- where the defs stand -/
structure Df (K : PySem.W.Frag) (mg : Str → Option Value) : Prop where
  f0 : ∃ (f : Addr) (fd : FuncData), mg "write_instruction" = some (.ref f) ∧ FnP K "write_instruction" (top 8) f fd
  f1 : ∃ (f : Addr) (fd : FuncData), mg "write_code" = some (.ref f) ∧ FnP K "write_code" (top 9) f fd
  f2 : ∃ (f : Addr) (fd : FuncData), mg "is_name" = some (.ref f) ∧ FnP K "is_name" (top 10) f fd
  f3 : ∃ (f : Addr) (fd : FuncData), mg "number" = some (.ref f) ∧ FnP K "number" (top 11) f fd
  f4 : ∃ (f : Addr) (fd : FuncData), mg "read_choices" = some (.ref f) ∧ FnP K "read_choices" (top 12) f fd
  f5 : ∃ (f : Addr) (fd : FuncData), mg "read_line" = some (.ref f) ∧ FnP K "read_line" (top 13) f fd
  f6 : ∃ (f : Addr) (fd : FuncData), mg "read_code" = some (.ref f) ∧ FnP K "read_code" (top 14) f fd
  f7 : ∃ (f : Addr) (fd : FuncData), mg "_law_tape" = some (.ref f) ∧ FnP K "_law_tape" (top 16) f fd
  f8 : ∃ (f : Addr) (fd : FuncData), mg "_law_take" = some (.ref f) ∧ FnP K "_law_take" (top 17) f fd
  f9 : ∃ (f : Addr) (fd : FuncData), mg "_law_is_integer" = some (.ref f) ∧ FnP K "_law_is_integer" (top 18) f fd
  f10 : ∃ (f : Addr) (fd : FuncData), mg "_law_same_items" = some (.ref f) ∧ FnP K "_law_same_items" (top 19) f fd
  f11 : ∃ (f : Addr) (fd : FuncData), mg "_law_same" = some (.ref f) ∧ FnP K "_law_same" (top 20) f fd
  f12 : ∃ (f : Addr) (fd : FuncData), mg "_law_instruction" = some (.ref f) ∧ FnP K "_law_instruction" (top 21) f fd
  f13 : ∃ (f : Addr) (fd : FuncData), mg "_law_line" = some (.ref f) ∧ FnP K "_law_line" (top 22) f fd
  f14 : ∃ (f : Addr) (fd : FuncData), mg "_law_bent" = some (.ref f) ∧ FnP K "_law_bent" (top 23) f fd
  f15 : ∃ (f : Addr) (fd : FuncData), mg "_law_read" = some (.ref f) ∧ FnP K "_law_read" (top 24) f fd
  f16 : ∃ (f : Addr) (fd : FuncData), mg "law" = some (.ref f) ∧ FnP K "law" (top 25) f fd
theorem bi0 {f : Addr} {fd : FuncData} (F : FnP K "write_instruction" (top 8) f fd) : Binds K fd p0 [] := F.bindsN fun _ _ _ _ _ _ us hl => match us, hl with | [_], _ => rfl
theorem bi1 {f : Addr} {fd : FuncData} (F : FnP K "write_code" (top 9) f fd) : Binds K fd p1 [] := F.bindsN fun _ _ _ _ _ _ us hl => match us, hl with | [_], _ => rfl
theorem bi2 {f : Addr} {fd : FuncData} (F : FnP K "is_name" (top 10) f fd) : Binds K fd p2 [] := F.bindsN fun _ _ _ _ _ _ us hl => match us, hl with | [_], _ => rfl
theorem bi3 {f : Addr} {fd : FuncData} (F : FnP K "number" (top 11) f fd) : Binds K fd p3 [] := F.bindsN fun _ _ _ _ _ _ us hl => match us, hl with | [_], _ => rfl
theorem bi4 {f : Addr} {fd : FuncData} (F : FnP K "read_choices" (top 12) f fd) : Binds K fd p4 [] := F.bindsN fun _ _ _ _ _ _ us hl => match us, hl with | [_], _ => rfl
theorem bi5 {f : Addr} {fd : FuncData} (F : FnP K "read_line" (top 13) f fd) : Binds K fd p5 [] := F.bindsN fun _ _ _ _ _ _ us hl => match us, hl with | [_], _ => rfl
theorem bi6 {f : Addr} {fd : FuncData} (F : FnP K "read_code" (top 14) f fd) : Binds K fd p6 [] := F.bindsN fun _ _ _ _ _ _ us hl => match us, hl with | [_], _ => rfl
theorem bi7 {f : Addr} {fd : FuncData} (F : FnP K "_law_tape" (top 16) f fd) : Binds K fd p7 [] := F.bindsN fun _ _ _ _ _ _ us hl => match us, hl with | [_], _ => rfl
theorem bi8 {f : Addr} {fd : FuncData} (F : FnP K "_law_take" (top 17) f fd) : Binds K fd p8 [] := F.bindsN fun _ _ _ _ _ _ us hl => match us, hl with | [_, _], _ => rfl
theorem bi9 {f : Addr} {fd : FuncData} (F : FnP K "_law_is_integer" (top 18) f fd) : Binds K fd p9 [] := F.bindsN fun _ _ _ _ _ _ us hl => match us, hl with | [_], _ => rfl
theorem bi10 {f : Addr} {fd : FuncData} (F : FnP K "_law_same_items" (top 19) f fd) : Binds K fd p10 [] := F.bindsN fun _ _ _ _ _ _ us hl => match us, hl with | [_, _], _ => rfl
theorem bi11 {f : Addr} {fd : FuncData} (F : FnP K "_law_same" (top 20) f fd) : Binds K fd p11 [] := F.bindsN fun _ _ _ _ _ _ us hl => match us, hl with | [_, _], _ => rfl
theorem bi12 {f : Addr} {fd : FuncData} (F : FnP K "_law_instruction" (top 21) f fd) : Binds K fd p12 [] := F.bindsN fun _ _ _ _ _ _ us hl => match us, hl with | [_], _ => rfl
theorem bi13 {f : Addr} {fd : FuncData} (F : FnP K "_law_line" (top 22) f fd) : Binds K fd p13 [] := F.bindsN fun _ _ _ _ _ _ us hl => match us, hl with | [_], _ => rfl
theorem bi14 {f : Addr} {fd : FuncData} (F : FnP K "_law_bent" (top 23) f fd) : Binds K fd p14 [] := F.bindsN fun _ _ _ _ _ _ us hl => match us, hl with | [_, _], _ => rfl
theorem bi15 {f : Addr} {fd : FuncData} (F : FnP K "_law_read" (top 24) f fd) : Binds K fd p15 [] := F.bindsN fun _ _ _ _ _ _ us hl => match us, hl with | [_], _ => rfl
theorem bi16 {f : Addr} {fd : FuncData} (F : FnP K "law" (top 25) f fd) : Binds K fd p16 [] := F.bindsN fun _ _ _ _ _ _ us hl => match us, hl with | [_], _ => rfl
theorem tab (D : Df K mg) (G : Gb K w mg) : ∀ k : Nat, Tab P w K mg base (k + 2) (sem k)
  | 0 => by
    obtain ⟨f0, fd0, e0, F0⟩ := D.f0
    obtain ⟨f1, fd1, e1, F1⟩ := D.f1
    obtain ⟨f2, fd2, e2, F2⟩ := D.f2
    obtain ⟨f3, fd3, e3, F3⟩ := D.f3
    obtain ⟨f4, fd4, e4, F4⟩ := D.f4
    obtain ⟨f5, fd5, e5, F5⟩ := D.f5
    obtain ⟨f6, fd6, e6, F6⟩ := D.f6
    obtain ⟨f7, fd7, e7, F7⟩ := D.f7
    obtain ⟨f8, fd8, e8, F8⟩ := D.f8
    obtain ⟨f9, fd9, e9, F9⟩ := D.f9
    obtain ⟨f10, fd10, e10, F10⟩ := D.f10
    obtain ⟨f11, fd11, e11, F11⟩ := D.f11
    obtain ⟨f12, fd12, e12, F12⟩ := D.f12
    obtain ⟨f13, fd13, e13, F13⟩ := D.f13
    obtain ⟨f14, fd14, e14, F14⟩ := D.f14
    obtain ⟨f15, fd15, e15, F15⟩ := D.f15
    obtain ⟨f16, fd16, e16, F16⟩ := D.f16
    exact ⟨Kn.zero e0 F0.kp (bi0 F0), Kn.zero e1 F1.kp (bi1 F1), Kn.zero e2 F2.kp (bi2 F2), Kn.zero e3 F3.kp (bi3 F3), Kn.zero e4 F4.kp (bi4 F4), Kn.zero e5 F5.kp (bi5 F5), Kn.zero e6 F6.kp (bi6 F6), Kn.zero e7 F7.kp (bi7 F7), Kn.zero e8 F8.kp (bi8 F8), Kn.zero e9 F9.kp (bi9 F9), Kn.zero e10 F10.kp (bi10 F10), Kn.zero e11 F11.kp (bi11 F11), Kn.zero e12 F12.kp (bi12 F12), Kn.zero e13 F13.kp (bi13 F13), Kn.zero e14 F14.kp (bi14 F14), Kn.zero e15 F15.kp (bi15 F15), Kn.zero e16 F16.kp (bi16 F16)⟩
  | k + 1 => by
    have T := tab D G k
    obtain ⟨f0, fd0, e0, F0⟩ := D.f0
    obtain ⟨f1, fd1, e1, F1⟩ := D.f1
    obtain ⟨f2, fd2, e2, F2⟩ := D.f2
    obtain ⟨f3, fd3, e3, F3⟩ := D.f3
    obtain ⟨f4, fd4, e4, F4⟩ := D.f4
    obtain ⟨f5, fd5, e5, F5⟩ := D.f5
    obtain ⟨f6, fd6, e6, F6⟩ := D.f6
    obtain ⟨f7, fd7, e7, F7⟩ := D.f7
    obtain ⟨f8, fd8, e8, F8⟩ := D.f8
    obtain ⟨f9, fd9, e9, F9⟩ := D.f9
    obtain ⟨f10, fd10, e10, F10⟩ := D.f10
    obtain ⟨f11, fd11, e11, F11⟩ := D.f11
    obtain ⟨f12, fd12, e12, F12⟩ := D.f12
    obtain ⟨f13, fd13, e13, F13⟩ := D.f13
    obtain ⟨f14, fd14, e14, F14⟩ := D.f14
    obtain ⟨f15, fd15, e15, F15⟩ := D.f15
    obtain ⟨f16, fd16, e16, F16⟩ := D.f16
    exact ⟨⟨f0, fd0, e0, F0.kp, bi0 F0, w0 F0 G T⟩, ⟨f1, fd1, e1, F1.kp, bi1 F1, w1 F1 G T⟩, ⟨f2, fd2, e2, F2.kp, bi2 F2, w2 F2 G T⟩, ⟨f3, fd3, e3, F3.kp, bi3 F3, w3 F3 G T⟩, ⟨f4, fd4, e4, F4.kp, bi4 F4, w4 F4 G T⟩, ⟨f5, fd5, e5, F5.kp, bi5 F5, w5 F5 G T⟩, ⟨f6, fd6, e6, F6.kp, bi6 F6, w6 F6 G T⟩, ⟨f7, fd7, e7, F7.kp, bi7 F7, w7 F7 G T⟩, ⟨f8, fd8, e8, F8.kp, bi8 F8, w8 F8 G T⟩, ⟨f9, fd9, e9, F9.kp, bi9 F9, w9 F9 G T⟩, ⟨f10, fd10, e10, F10.kp, bi10 F10, w10 F10 G T⟩, ⟨f11, fd11, e11, F11.kp, bi11 F11, w11 F11 G T⟩, ⟨f12, fd12, e12, F12.kp, bi12 F12, w12 F12 G T⟩, ⟨f13, fd13, e13, F13.kp, bi13 F13, w13 F13 G T⟩, ⟨f14, fd14, e14, F14.kp, bi14 F14, w14 F14 G T⟩, ⟨f15, fd15, e15, F15.kp, bi15 F15, w15 F15 G T⟩, ⟨f16, fd16, e16, F16.kp, bi16 F16, w16 F16 G T⟩⟩
end
def dd0 : He.DefD := ⟨("write_instruction", none), "write_instruction", "write_instruction", defArgs (top 8), defBody (top 8), defScope (top 8), [], []⟩
def dd1 : He.DefD := ⟨("write_code", none), "write_code", "write_code", defArgs (top 9), defBody (top 9), defScope (top 9), [], []⟩
def dd2 : He.DefD := ⟨("is_name", none), "is_name", "is_name", defArgs (top 10), defBody (top 10), defScope (top 10), [], []⟩
def dd3 : He.DefD := ⟨("number", none), "number", "number", defArgs (top 11), defBody (top 11), defScope (top 11), [], []⟩
def dd4 : He.DefD := ⟨("read_choices", none), "read_choices", "read_choices", defArgs (top 12), defBody (top 12), defScope (top 12), [], []⟩
def dd5 : He.DefD := ⟨("read_line", none), "read_line", "read_line", defArgs (top 13), defBody (top 13), defScope (top 13), [], []⟩
def dd6 : He.DefD := ⟨("read_code", none), "read_code", "read_code", defArgs (top 14), defBody (top 14), defScope (top 14), [], []⟩
def dd7 : He.DefD := ⟨("_law_tape", none), "_law_tape", "_law_tape", defArgs (top 16), defBody (top 16), defScope (top 16), [], []⟩
def dd8 : He.DefD := ⟨("_law_take", none), "_law_take", "_law_take", defArgs (top 17), defBody (top 17), defScope (top 17), [], []⟩
def dd9 : He.DefD := ⟨("_law_is_integer", none), "_law_is_integer", "_law_is_integer", defArgs (top 18), defBody (top 18), defScope (top 18), [], []⟩
def dd10 : He.DefD := ⟨("_law_same_items", none), "_law_same_items", "_law_same_items", defArgs (top 19), defBody (top 19), defScope (top 19), [], []⟩
def dd11 : He.DefD := ⟨("_law_same", none), "_law_same", "_law_same", defArgs (top 20), defBody (top 20), defScope (top 20), [], []⟩
def dd12 : He.DefD := ⟨("_law_instruction", none), "_law_instruction", "_law_instruction", defArgs (top 21), defBody (top 21), defScope (top 21), [], []⟩
def dd13 : He.DefD := ⟨("_law_line", none), "_law_line", "_law_line", defArgs (top 22), defBody (top 22), defScope (top 22), [], []⟩
def dd14 : He.DefD := ⟨("_law_bent", none), "_law_bent", "_law_bent", defArgs (top 23), defBody (top 23), defScope (top 23), [], []⟩
def dd15 : He.DefD := ⟨("_law_read", none), "_law_read", "_law_read", defArgs (top 24), defBody (top 24), defScope (top 24), [], []⟩
def dd16 : He.DefD := ⟨("law", none), "law", "law", defArgs (top 25), defBody (top 25), defScope (top 25), [], []⟩
def di_SyntaxProblem : Stmt := inClass (top 4) 0
def dx_SyntaxProblem : He.DefD := ⟨("SyntaxProblem", some "__init__"), "__init__", "SyntaxProblem.__init__", defArgs di_SyntaxProblem, defBody di_SyntaxProblem, defScope di_SyntaxProblem, [], []⟩
def fn : List He.DefD := [dd0, dd1, dd2, dd3, dd4, dd5, dd6, dd7, dd8, dd9, dd10, dd11, dd12, dd13, dd14, dd15, dd16, dx_SyntaxProblem]
def fa : List He.Fa := [.glo "write_instruction", .glo "write_code", .glo "is_name", .glo "number", .glo "read_choices", .glo "read_line", .glo "read_code", .glo "_law_tape", .glo "_law_take", .glo "_law_is_integer", .glo "_law_same_items", .glo "_law_same", .glo "_law_instruction", .glo "_law_line", .glo "_law_bent", .glo "_law_read", .glo "law", .free "abs", .free "all", .free "bool", .free "dict", .free "int", .free "isinstance", .free "len", .free "list", .free "range", .free "str", .free "tuple", .free "zip", .str "DIGITS" "0123456789", .str "NAME_CHARACTERS" "abcdefghijklmnopqrstuvwxyzABCDEFGHIJKLMNOPQRSTUVWXYZ0123456789_", .int "SIZE" 4294967296, .glo "SHAPES", .glo "SyntaxProblem", .noat "SyntaxProblem" "start", .exm "ScoreError" "SyntaxProblem" false, .exm "SyntaxProblem" "SyntaxProblem" true]
def ex (K : PySem.W.Frag) : Bool := true && x1B K "SyntaxProblem" && He.valsB K (He.ga K "SHAPES") kv_SHAPES
def ts : List He.Tab := [(fun K => He.ga K "SHAPES", kv_SHAPES.map (·.1))]
abbrev R : PySem.W.OpenRow := PySem.W.OpenLaw.row PySem.Challenge.rw_onescore_k35_texts_of_code
abbrev hk : PySem.W.Hook := He.hookX 7 fa fn ts [] ex
def ob (s : PySem.W.SharedT) : He.AlX := He.obsX 7 fa fn ts [] ex (HandSHeadRun.getT s)
theorem ob_eq (s : PySem.W.SharedT) : ob s = hk.obs s.abs := He.obsX_eq (HandSHeadRun.getT_eq s)
def lo0 : List PySem.Str := ["SIZE", "SHAPES", "ScoreError", "SyntaxProblem", "DIGITS", "NAME_CHARACTERS", "write_instruction", "write_code", "is_name", "number", "read_choices", "read_line", "read_code", "_law_tape", "_law_take", "_law_is_integer", "_law_same_items", "_law_same", "_law_instruction", "_law_line", "_law_bent", "_law_read"]
def loose : List PySem.Str := lo0
theorem run (w : World) : HandSHeadRun.RunEq R (PySem.W.view R.prog [25]) hk ob 1440 loose w := PySem.W.byRow2 "special-get-raises" (P := fun w => HandSHeadRun.RunEq R (PySem.W.view R.prog [25]) hk ob 1440 loose w) (fun w => by intro os; kernel_rfl) (fun w => by intro os; kernel_rfl) w
theorem facts {P : Program} {w : World} {K : PySem.W.Frag} {h : Heap} {mg : Str → Option Value} (X : K.In h) (G : h.Ns mainGlobals mg) (c : He.SaysX fa fn ts [] ex w h K) : Df K mg ∧ Gb K w mg := by
  have cd := c.t.d
  have hx := c.more
  refine ⟨⟨?_, ?_, ?_, ?_, ?_, ?_, ?_, ?_, ?_, ?_, ?_, ?_, ?_, ?_, ?_, ?_, ?_⟩, ⟨?_, ?_, ?_, ?_, ?_, ?_, ?_, ?_, ?_, ?_, ?_, ?_, ?_, ?_, ?_, ?_, ?_, ?_, ?_, ?_, ?_⟩⟩
  · obtain ⟨fd, F⟩ := cd.def_ 0 (d := dd0) rfl
    exact ⟨_, fd, He.glo_ok X G (cd.fact 0 (f := .glo "write_instruction") rfl), F⟩
  · obtain ⟨fd, F⟩ := cd.def_ 1 (d := dd1) rfl
    exact ⟨_, fd, He.glo_ok X G (cd.fact 1 (f := .glo "write_code") rfl), F⟩
  · obtain ⟨fd, F⟩ := cd.def_ 2 (d := dd2) rfl
    exact ⟨_, fd, He.glo_ok X G (cd.fact 2 (f := .glo "is_name") rfl), F⟩
  · obtain ⟨fd, F⟩ := cd.def_ 3 (d := dd3) rfl
    exact ⟨_, fd, He.glo_ok X G (cd.fact 3 (f := .glo "number") rfl), F⟩
  · obtain ⟨fd, F⟩ := cd.def_ 4 (d := dd4) rfl
    exact ⟨_, fd, He.glo_ok X G (cd.fact 4 (f := .glo "read_choices") rfl), F⟩
  · obtain ⟨fd, F⟩ := cd.def_ 5 (d := dd5) rfl
    exact ⟨_, fd, He.glo_ok X G (cd.fact 5 (f := .glo "read_line") rfl), F⟩
  · obtain ⟨fd, F⟩ := cd.def_ 6 (d := dd6) rfl
    exact ⟨_, fd, He.glo_ok X G (cd.fact 6 (f := .glo "read_code") rfl), F⟩
  · obtain ⟨fd, F⟩ := cd.def_ 7 (d := dd7) rfl
    exact ⟨_, fd, He.glo_ok X G (cd.fact 7 (f := .glo "_law_tape") rfl), F⟩
  · obtain ⟨fd, F⟩ := cd.def_ 8 (d := dd8) rfl
    exact ⟨_, fd, He.glo_ok X G (cd.fact 8 (f := .glo "_law_take") rfl), F⟩
  · obtain ⟨fd, F⟩ := cd.def_ 9 (d := dd9) rfl
    exact ⟨_, fd, He.glo_ok X G (cd.fact 9 (f := .glo "_law_is_integer") rfl), F⟩
  · obtain ⟨fd, F⟩ := cd.def_ 10 (d := dd10) rfl
    exact ⟨_, fd, He.glo_ok X G (cd.fact 10 (f := .glo "_law_same_items") rfl), F⟩
  · obtain ⟨fd, F⟩ := cd.def_ 11 (d := dd11) rfl
    exact ⟨_, fd, He.glo_ok X G (cd.fact 11 (f := .glo "_law_same") rfl), F⟩
  · obtain ⟨fd, F⟩ := cd.def_ 12 (d := dd12) rfl
    exact ⟨_, fd, He.glo_ok X G (cd.fact 12 (f := .glo "_law_instruction") rfl), F⟩
  · obtain ⟨fd, F⟩ := cd.def_ 13 (d := dd13) rfl
    exact ⟨_, fd, He.glo_ok X G (cd.fact 13 (f := .glo "_law_line") rfl), F⟩
  · obtain ⟨fd, F⟩ := cd.def_ 14 (d := dd14) rfl
    exact ⟨_, fd, He.glo_ok X G (cd.fact 14 (f := .glo "_law_bent") rfl), F⟩
  · obtain ⟨fd, F⟩ := cd.def_ 15 (d := dd15) rfl
    exact ⟨_, fd, He.glo_ok X G (cd.fact 15 (f := .glo "_law_read") rfl), F⟩
  · obtain ⟨fd, F⟩ := cd.def_ 16 (d := dd16) rfl
    exact ⟨_, fd, He.glo_ok X G (cd.fact 16 (f := .glo "law") rfl), F⟩
  · exact He.free_ok X G (cd.fact 17 (f := .free "abs") rfl)
  · exact He.free_ok X G (cd.fact 18 (f := .free "all") rfl)
  · exact He.free_ok X G (cd.fact 19 (f := .free "bool") rfl)
  · exact He.free_ok X G (cd.fact 20 (f := .free "dict") rfl)
  · exact He.free_ok X G (cd.fact 21 (f := .free "int") rfl)
  · exact He.free_ok X G (cd.fact 22 (f := .free "isinstance") rfl)
  · exact He.free_ok X G (cd.fact 23 (f := .free "len") rfl)
  · exact He.free_ok X G (cd.fact 24 (f := .free "list") rfl)
  · exact He.free_ok X G (cd.fact 25 (f := .free "range") rfl)
  · exact He.free_ok X G (cd.fact 26 (f := .free "str") rfl)
  · exact He.free_ok X G (cd.fact 27 (f := .free "tuple") rfl)
  · exact He.free_ok X G (cd.fact 28 (f := .free "zip") rfl)
  · exact Gc.str (He.str_ok X G (cd.fact 29 (f := .str "DIGITS" "0123456789") rfl))
  · exact Gc.str (He.str_ok X G (cd.fact 30 (f := .str "NAME_CHARACTERS" "abcdefghijklmnopqrstuvwxyzABCDEFGHIJKLMNOPQRSTUVWXYZ0123456789_") rfl))
  · exact Gc.int (He.int_ok X G (cd.fact 31 (f := .int "SIZE" 4294967296) rfl))
  · have hb : He.valsB K (He.ga K "SHAPES") kv_SHAPES = true := by
      unfold ex at hx
      simp only [Bool.and_eq_true] at hx
      simp only [hx]
    exact Gd.of (He.glo_ok X G (cd.fact 32 (f := .glo "SHAPES") rfl)) (tabW c.t 0 rfl) hb rfl
  · intro P w base
    obtain ⟨fd, F⟩ := cd.def_ 17 (d := dx_SyntaxProblem) rfl
    have hb : x1B K "SyntaxProblem" = true := by
      unfold ex at hx
      simp only [Bool.and_eq_true] at hx
      simp only [hx]
    obtain ⟨h1, h2, h3, h4⟩ := x1B_ok hb
    have S : FnScope ["self", "start"] ["self", "start"] (defScope di_SyntaxProblem) := ⟨rfl, rfl, rfl, by decide +kernel, rfl, by decide +kernel, by decide +kernel⟩
    exact ⟨h1, He.glo_ok X G (cd.fact 33 (f := .glo "SyntaxProblem") rfl), h2, h3, fd, ini1_ok (k := 0) F S rfl rfl h1 (He.noat_ok (cd.fact 34 (f := .noat "SyntaxProblem" "start") rfl)) (fun cdv A outer s H E => pss_one (ps_ost (pv 0) (pv 1))), F.bindsN fun _ _ _ _ _ _ us hl => match us, hl with | [_, _], _ => rfl⟩
  · exact He.noat_ok (cd.fact 34 (f := .noat "SyntaxProblem" "start") rfl)
  · have hb : x1B K "SyntaxProblem" = true := by
      unfold ex at hx
      simp only [Bool.and_eq_true] at hx
      simp only [hx]
    exact (x1B_ok hb).2.2.2
  · exact He.glo_ok X G (cd.fact 33 (f := .glo "SyntaxProblem") rfl)
  · intro y b h
    unfold mt_SyntaxProblem at h
    split at h
    · rename_i e
      subst e
      cases h
      exact He.exm_ok (cd.fact 35 (f := .exm "ScoreError" "SyntaxProblem" false) rfl)
    split at h
    · rename_i e
      subst e
      cases h
      exact He.exm_ok (cd.fact 36 (f := .exm "SyntaxProblem" "SyntaxProblem" true) rfl)
    cases h
end K35
section
open PySem PySem.W PySem.Calls PyProof.Rows
theorem K35.holds_of (k : Nat) (hr : L2.Room (k + 3) PySem.callerA) (hlaw : ∀ ns : List Int, ns.length ≤ 63 → (∀ i ∈ ns, Builtin.Int.intBits i ≤ 1048576) → ∃ fr, K35.sem (k + 1) 16 [.fro (ns.map PV.D.int)] = .ret fr (.bl true) []) : PySem.Challenge.rw_onescore_k35_texts_of_code.Holds := by
  w_on; o_law
  refine HandSHeadRun.head_any (r := OpenLaw.row PySem.Challenge.rw_onescore_k35_texts_of_code) (q := view (OpenLaw.row PySem.Challenge.rw_onescore_k35_texts_of_code).prog [25]) (H := K35.hk) (ob := K35.ob) (M := 1440) (loose := K35.loose) (d := HandSHeadRun.topDef (OpenLaw.row PySem.Challenge.rw_onescore_k35_texts_of_code).prog 25) (kwd := []) K35.ob_eq
    (by kernel_rfl) (fun s => by kernel_rfl) K35.run (by kernel_rfl) (by kernel_rfl) (by kernel_rfl) (by rfl) (by first | assumption | decide +kernel) (by decide +kernel) ⟨rfl, rfl, rfl, rfl, rfl, by decide +kernel⟩ ?hw ?hc
  case hw => w_witness2
  case hc =>
    refine PV.walk_pv (l := PySem.Challenge.rw_onescore_k35_texts_of_code) (k := k + 3) (x := "_law_script") rfl (by kernel_rfl) hr ?_
    intro w mg fa h Y G hmg0
    obtain ⟨K, KX, c⟩ := Y
    have hmg : mg ("law" : PySem.Str) = some (.ref fa) := by
      have e : (HandSHeadRun.topDef (OpenLaw.row PySem.Challenge.rw_onescore_k35_texts_of_code).prog 25).name = ("law" : PySem.Str) := by kernel_rfl
      rw [← e]
      exact hmg0
    obtain ⟨D, Gb⟩ := K35.facts (P := (PySem.Challenge.rw_onescore_k35_texts_of_code).prog) (w := w) KX G c
    obtain ⟨f, fd, e, F⟩ := D.f16
    rw [hmg] at e
    cases e
    have b := L2.FunD.bindsA (ps := ["_law_script"]) F fun _ _ _ _ _ _ us hl => match us, hl with | [_], _ => rfl
    exact ⟨K, fd, _, KX, fun s u => b s [u] rfl, hlaw, fun base _ _ => K35.w16 F Gb (K35.tab D Gb k)⟩
end

/-! k35: lines and their words, in plain Lean. -/
namespace K35
open PySem PySem.Spec L2 PV
/-! ### words -/
def sp (c : Nat) : List Nat → List (List Nat)
  | [] => [[]]
  | x :: r => if x = c then [] :: sp c r else match sp c r with
    | [] => [[x]]
    | w :: ws => (x :: w) :: ws
abbrev jn (c : Nat) (ws : List (List Nat)) : List Nat := TL.joinL [c] ws
theorem sp_ne (c : Nat) : ∀ l : List Nat, sp c l ≠ []
  | [] => by simp [sp]
  | x :: r => by
    rw [sp]
    split
    · simp
    · split <;> simp
theorem jn_cons {c : Nat} {w : List Nat} {ws : List (List Nat)} (h : ws ≠ []) : jn c (w :: ws) = w ++ c :: jn c ws := by
  cases ws with
  | nil => exact absurd rfl h
  | cons q r => rfl
theorem jn_sp (c : Nat) : ∀ l : List Nat, jn c (sp c l) = l
  | [] => rfl
  | x :: r => by
    have ih := jn_sp c r
    rw [sp]
    split
    · rename_i e
      rw [jn_cons (sp_ne c r), ih, e]; rfl
    · cases e : sp c r with
      | nil => exact absurd e (sp_ne c r)
      | cons w ws =>
        rw [e] at ih
        rw [← ih]
        cases ws with
        | nil => rfl
        | cons q qs => rfl
theorem sp_no {c : Nat} : ∀ {p : List Nat}, c ∉ p → sp c p = [p]
  | [], _ => rfl
  | x :: r, h => by
    rw [sp, if_neg (fun e => h (by rw [e]; exact List.mem_cons_self)), sp_no fun m => h (List.mem_cons_of_mem _ m)]
theorem sp_app {c : Nat} {r : List Nat} : ∀ {p : List Nat}, c ∉ p → sp c (p ++ c :: r) = p :: sp c r
  | [], _ => by simp [sp]
  | x :: p, h => by
    rw [List.cons_append, sp, if_neg (fun e => h (by rw [e]; exact List.mem_cons_self)), sp_app fun m => h (List.mem_cons_of_mem _ m)]
theorem sp_jn {c : Nat} : ∀ {ws : List (List Nat)}, ws ≠ [] → (∀ w ∈ ws, c ∉ w) → sp c (jn c ws) = ws
  | [], h, _ => absurd rfl h
  | [w], _, h => sp_no (h w List.mem_cons_self)
  | w :: q :: r, _, h => by
    rw [jn_cons (by simp), sp_app (h w List.mem_cons_self), sp_jn (by simp) fun v m => h v (List.mem_cons_of_mem _ m)]
theorem spl_sp {c : Nat} : ∀ (l acc : List Nat), TL.spl [c] 0 acc l = match sp c l with
    | [] => [acc]
    | w :: ws => (acc ++ w) :: ws
  | [], acc => by simp [TL.spl, sp]
  | x :: r, acc => by
    by_cases e : x = c
    · subst e
      rw [TL.spl_hit (by simp [TL.pre]), sp, if_pos rfl]
      show acc :: TL.spl [x] 0 [] r = _
      rw [spl_sp r []]
      cases e : sp x r with
      | nil => exact absurd e (sp_ne x r)
      | cons w ws => simp
    · have hp : TL.pre [c] (x :: r) = false := by
        simp [TL.pre]
        exact e
      rw [TL.spl_miss hp, sp, if_neg e, spl_sp r (acc ++ [x])]
      cases e : sp c r with
      | nil => exact absurd e (sp_ne c r)
      | cons w ws => simp
theorem split_tx {c : Nat} (hc : c < 256) (l : List Nat) : Txt.split (tx l) (tx [c]) = (sp c l).map tx := by
  have h := SX.split_S (a := l) (b := [c]) (by simp) (by simp [hc])
  rw [show (tx l) = SX.S l from rfl, show (tx [c]) = SX.S [c] from rfl, h, spl_sp]
  cases e : sp c l with
  | nil => exact absurd e (sp_ne c l)
  | cons w ws => rfl
theorem join_tx (c : Nat) (ws : List (List Nat)) : Txt.join (tx [c]) (ws.map tx) = tx (jn c ws) := SX.join_S [c] ws
theorem jn0 : ∀ ws : List (List Nat), TL.joinL [] ws = ws.flatten
  | [] => rfl
  | [w] => by simp [TL.joinL]
  | w :: q :: r => by
    show w ++ ([] ++ TL.joinL [] (q :: r)) = _
    rw [jn0 (q :: r)]; rfl
theorem join_tx0 (ws : List (List Nat)) : Txt.join (tx []) (ws.map tx) = tx ws.flatten := by
  rw [← jn0]; exact SX.join_S [] ws
theorem sp_len (c : Nat) : ∀ l : List Nat, (sp c l).length ≤ l.length + 1
  | [] => by simp [sp]
  | x :: r => by
    have ih := sp_len c r
    rw [sp]
    split
    · simp; omega
    · cases e : sp c r with
      | nil => simp
      | cons w ws => rw [e] at ih; simp at ih ⊢; omega
theorem sp_mem (c : Nat) : ∀ {l w : List Nat}, w ∈ sp c l → w.length ≤ l.length
  | [], w, m => by simp [sp] at m; simp [m]
  | x :: r, w, m => by
    rw [sp] at m
    split at m
    · rcases List.mem_cons.mp m with rfl | m
      · simp
      · have := sp_mem c m; simp; omega
    · cases e : sp c r with
      | nil => exact absurd e (sp_ne c r)
      | cons v vs =>
        rw [e] at m
        have h0 : v.length ≤ r.length := sp_mem c (by rw [e]; exact List.mem_cons_self)
        rcases List.mem_cons.mp m with rfl | m
        · simp; omega
        · have : w.length ≤ r.length := sp_mem c (by rw [e]; exact List.mem_cons_of_mem _ m)
          simp; omega
/-! ### numbers, names -/
def isLet (c : Nat) : Bool := (decide (97 ≤ c) && decide (c ≤ 122)) || (decide (65 ≤ c) && decide (c ≤ 90))
def isDig (c : Nat) : Bool := decide (48 ≤ c) && decide (c ≤ 57)
def nmc (c : Nat) : Bool := isLet c || isDig c || decide (c = 95)
def isNm (w : List Nat) : Bool := decide (w ≠ []) && w.all nmc
def badN (w : List Nat) : Bool := decide (w = []) || !w.all isDig || (decide (w.head? = some 48) && decide (w ≠ [48])) || decide (10 < w.length)
def szB (n : Nat) : Bool := decide (n < 4294967296)
def num? (w : List Nat) : Option Nat := if badN w = true then none else if szB (NumText.digitsVal w) = true then some (NumText.digitsVal w) else none
theorem all_dig {w : List Nat} (h : w.all isDig = true) : NumText.AllDigits w := fun c hc => by
  have := List.all_eq_true.mp h c hc
  simpa [isDig] using this
theorem toNat_ofNat {c : Nat} (h : 48 ≤ c ∧ c ≤ 57) : (Char.ofNat c).toNat = c := by
  have : ∀ n : Nat, n < 58 → 48 ≤ n → (Char.ofNat n).toNat = n := by decide
  exact this c (by omega) h.1
theorem num_back {w : List Nat} {n : Nat} (h : num? w = some n) : TL.numL n = w := by
  unfold num? at h
  split at h
  · cases h
  · rename_i hb
    split at h
    · cases h
      simp only [badN, Bool.not_eq_true, Bool.or_eq_false_iff, decide_eq_false_iff_not, Bool.not_eq_false', Bool.and_eq_false_iff] at hb
      obtain ⟨⟨⟨h1, h2⟩, h3⟩, h4⟩ := hb
      have hd := all_dig h2
      have hm : (w.map Char.ofNat).map Char.toNat = w := by
        rw [List.map_map]
        conv => rhs; rw [← List.map_id w]
        exact List.map_congr_left fun c m => toNat_ofNat (hd c m)
      unfold TL.numL
      cases w with
      | nil => exact absurd rfl h1
      | cons c r =>
        rw [NumText.toDigits_digitsVal r.length (c :: r) rfl hd, hm]
        by_cases hr : r.length = 0
        · exact .inl hr
        · refine .inr ⟨c, r, rfl, ?_⟩
          have hc := hd c List.mem_cons_self
          rcases h3 with h3 | h3
          · have : c ≠ 48 := fun e => h3 (by rw [e]; rfl)
            omega
          · exfalso
            have : (c :: r) = [48] := Decidable.not_not.mp h3
            rw [List.cons.injEq] at this
            exact hr (by rw [this.2]; rfl)
    · cases h
/-! ### instructions -/
inductive Pt where
  | num (n : Nat) | nam (w : List Nat) | chs (cs : List (List Nat × List Nat × Nat))
  deriving DecidableEq
structure Ins where
  w : List Nat
  ps : List Pt
  deriving DecidableEq
def cws (q : List Nat × List Nat × Nat) : List (List Nat) := [q.1, q.2.1, TL.numL q.2.2]
def Pt.ws : Pt → List (List Nat)
  | .num n => [TL.numL n]
  | .nam w => [w]
  | .chs cs => cs.flatMap cws
def Ins.ws (i : Ins) : List (List Nat) := i.w :: i.ps.flatMap Pt.ws
def Ins.ln (i : Ins) : List Nat := jn 32 i.ws
def chs? : List (List Nat) → Option (List (List Nat × List Nat × Nat))
  | [] => some []
  | a :: b :: n :: r => if isNm a = true ∧ isNm b = true then (num? n).bind fun g => (chs? r).map fun cs => (a, b, g) :: cs else none
  | _ => none
def chs1? (ws : List (List Nat)) : Option (List (List Nat × List Nat × Nat)) := if ws = [] then none else chs? ws
def yesW : List Nat := [121, 101, 115]
def noW : List Nat := [110, 111]
def waitW : List Nat := [119, 97, 105, 116]
def part? (s : Nat) (w : List Nat) : Option Pt := if s = 110 ∨ s = 103 then (num? w).map .num else if isNm w = true ∧ (s = 119 → w = yesW ∨ w = noW) then some (.nam w) else none
def parts? : List Nat → List (List Nat) → Option (List Pt)
  | [], _ => some []
  | _, [] => some []
  | s :: ss, w :: ws => (part? s w).bind fun p => (parts? ss ws).map fun ps => p :: ps
def shp (w : List Nat) : Option (List Nat) := match tget kd_SHAPES (tx w) with
  | some (.str x) => some x.cps.toList
  | _ => none
def R0 : List (List Nat) → Option Ins
  | [] => none
  | w :: ws => (shp w).bind fun sh => if w = waitW then (match ws with
      | b :: r => (chs1? r).bind fun cs => if isNm b = true then some ⟨w, [.nam b, .chs cs]⟩ else none
      | [] => none)
    else if ws.length ≠ sh.length then none else (parts? sh ws).map fun ps => ⟨w, ps⟩
def RL (l : List Nat) : Option Ins := R0 (sp 32 l)
theorem chs_back : ∀ {ws : List (List Nat)} {cs : List (List Nat × List Nat × Nat)}, chs? ws = some cs → cs.flatMap cws = ws
  | [], _, h => by cases h; rfl
  | [_], _, h => by cases h
  | [_, _], _, h => by cases h
  | a :: b :: n :: r, cs, h => by
    rw [chs?] at h
    split at h
    · obtain ⟨g, e1, e2⟩ := Option.bind_eq_some_iff.mp h
      obtain ⟨cs', e3, e4⟩ := Option.map_eq_some_iff.mp e2
      subst e4
      rw [List.flatMap_cons, chs_back e3]
      simp [cws, num_back e1]
    · cases h
theorem part_back {s : Nat} {w : List Nat} {p : Pt} (h : part? s w = some p) : p.ws = [w] := by
  unfold part? at h
  split at h
  · obtain ⟨g, e1, e2⟩ := Option.map_eq_some_iff.mp h
    subst e2
    simp [Pt.ws, num_back e1]
  · split at h
    · cases h; rfl
    · cases h
theorem parts_back : ∀ {ss : List Nat} {ws : List (List Nat)} {ps : List Pt}, ws.length = ss.length → parts? ss ws = some ps → ps.flatMap Pt.ws = ws
  | [], [], _, _, h => by cases h; rfl
  | [], _ :: _, _, e, _ => by simp at e
  | _ :: _, [], _, e, _ => by simp at e
  | s :: ss, w :: ws, ps, e, h => by
    rw [parts?] at h
    obtain ⟨p, e1, e2⟩ := Option.bind_eq_some_iff.mp h
    obtain ⟨ps', e3, e4⟩ := Option.map_eq_some_iff.mp e2
    subst e4
    rw [List.flatMap_cons, part_back e1, parts_back (by simpa using e) e3]; rfl
theorem R_back {l : List Nat} {i : Ins} (h : RL l = some i) : i.ln = l := by
  unfold RL at h
  have e : i.ws = sp 32 l := by
    cases hs : sp 32 l with
    | nil => exact absurd hs (sp_ne 32 l)
    | cons w ws =>
      rw [hs, R0.eq_def] at h
      dsimp only at h
      obtain ⟨sh, e1, e2⟩ := Option.bind_eq_some_iff.mp h
      split at e2
      · split at e2
        · rename_i b r
          obtain ⟨cs, e3, e4⟩ := Option.bind_eq_some_iff.mp e2
          split at e4
          · cases e4
            unfold chs1? at e3
            split at e3
            · cases e3
            · simp [Ins.ws, Pt.ws, chs_back e3]
          · cases e4
        · cases e2
      · split at e2
        · cases e2
        · rename_i hl
          obtain ⟨ps, e3, e4⟩ := Option.map_eq_some_iff.mp e2
          subst e4
          simp [Ins.ws, parts_back (Decidable.not_not.mp hl) e3]
  unfold Ins.ln
  rw [e, jn_sp]
/-! ### a text read line by line -/
def lineF (i : Ins) : List Nat := i.ln ++ [10]
def textF (is : List Ins) : List Nat := (is.map lineF).flatten
inductive Rdl (l : List Nat) : Nat → List Ins → Option Nat → Prop
  | fin {i : Nat} : l.length ≤ i → Rdl l i [] none
  | cut {i : Nat} : i < l.length → ¬ nextAt l 10 i < l.length → Rdl l i [] (some l.length)
  | bad {i : Nat} : i < l.length → nextAt l 10 i < l.length → RL ((l.drop i).take (nextAt l 10 i - i)) = none → Rdl l i [] (some i)
  | one {i : Nat} {x : Ins} {xs : List Ins} {o : Option Nat} : i < l.length → nextAt l 10 i < l.length → RL ((l.drop i).take (nextAt l 10 i - i)) = some x → Rdl l (nextAt l 10 i + 1) xs o → Rdl l i (x :: xs) o
theorem nextAt_ge {l : List Nat} {c i : Nat} : i ≤ nextAt l c i := Nat.le_add_right _ _
theorem rd_ex (l : List Nat) : ∀ (n i : Nat), l.length - i ≤ n → ∃ xs o, Rdl l i xs o
  | 0, i, h => ⟨[], none, .fin (by omega)⟩
  | n + 1, i, h => by
    by_cases h1 : l.length ≤ i
    · exact ⟨[], none, .fin h1⟩
    · by_cases h2 : nextAt l 10 i < l.length
      · cases e : RL ((l.drop i).take (nextAt l 10 i - i)) with
        | none => exact ⟨[], _, .bad (by omega) h2 e⟩
        | some x =>
          have := nextAt_ge (l := l) (c := 10) (i := i)
          obtain ⟨xs, o, q⟩ := rd_ex l n (nextAt l 10 i + 1) (by omega)
          exact ⟨_, _, .one (by omega) h2 e q⟩
      · exact ⟨[], _, .cut (by omega) h2⟩
theorem tw_take (p : Nat → Bool) : ∀ l : List Nat, l.take (l.takeWhile p).length = l.takeWhile p
  | [] => rfl
  | x :: r => by
    cases h : p x with
    | true => rw [List.takeWhile_cons_of_pos h, List.length_cons, List.take_succ_cons, tw_take p r]
    | false => rw [List.takeWhile_cons_of_neg (by simp [h])]; rfl
theorem tw_drop (p : Nat → Bool) : ∀ l : List Nat, l.drop (l.takeWhile p).length = l.dropWhile p
  | [] => rfl
  | x :: r => by
    cases h : p x with
    | true => rw [List.takeWhile_cons_of_pos h, List.length_cons, List.drop_succ_cons, tw_drop p r, List.dropWhile_cons_of_pos h]
    | false => rw [List.takeWhile_cons_of_neg (by simp [h]), List.dropWhile_cons_of_neg (by simp [h])]; rfl
theorem tw_mem {p : Nat → Bool} {y : Nat} : ∀ {l : List Nat}, y ∈ l.takeWhile p → p y = true
  | [], m => by simp at m
  | x :: r, m => by
    cases h : p x with
    | true =>
      rw [List.takeWhile_cons_of_pos h] at m
      rcases List.mem_cons.mp m with rfl | m
      · exact h
      · exact tw_mem m
    | false =>
      rw [List.takeWhile_cons_of_neg (by simp [h])] at m
      cases m
theorem dw_head {p : Nat → Bool} {y : Nat} {t : List Nat} : ∀ {l : List Nat}, l.dropWhile p = y :: t → p y = false
  | [], m => by simp at m
  | x :: r, m => by
    cases h : p x with
    | true => rw [List.dropWhile_cons_of_pos h] at m; exact dw_head m
    | false => rw [List.dropWhile_cons_of_neg (by simp [h])] at m; cases m; exact h
/-- where c stands: what is ahead has none, then c -/
theorem nextAt_at {l : List Nat} {c i : Nat} (h : nextAt l c i < l.length) : l.drop i = (l.drop i).take (nextAt l c i - i) ++ c :: l.drop (nextAt l c i + 1) ∧ c ∉ (l.drop i).take (nextAt l c i - i) := by
  have e : nextAt l c i - i = ((l.drop i).takeWhile fun z => decide (z ≠ c)).length := by unfold nextAt; omega
  have h0 := nextAt_ge (l := l) (c := c) (i := i)
  have e1 : (l.drop i).take (nextAt l c i - i) = (l.drop i).takeWhile fun z => decide (z ≠ c) := by
    rw [e]; exact tw_take _ _
  have e2 : (l.drop i).drop (nextAt l c i - i) = (l.drop i).dropWhile fun z => decide (z ≠ c) := by
    rw [e]; exact tw_drop _ _
  rw [List.drop_drop, show i + (nextAt l c i - i) = nextAt l c i from by omega, List.drop_eq_getElem_cons h] at e2
  have h4 := dw_head e2.symm
  have h5 : l[nextAt l c i] = c := by simpa using h4
  constructor
  · rw [e1]
    conv => lhs; rw [← List.takeWhile_append_dropWhile (p := fun z => decide (z ≠ c)) (l := l.drop i)]
    rw [← e2, h5]
  · rw [e1]
    intro m
    have := tw_mem m
    simp at this
theorem nextAt_none {l : List Nat} {c i : Nat} (hi : i ≤ l.length) (h : ¬ nextAt l c i < l.length) : c ∉ l.drop i := by
  have e : ((l.drop i).takeWhile fun z => decide (z ≠ c)).length = (l.drop i).length := by
    have h1 : ((l.drop i).takeWhile fun z => decide (z ≠ c)).length ≤ (l.drop i).length := (List.takeWhile_sublist _).length_le
    unfold nextAt at h
    rw [List.length_drop] at h1 ⊢
    omega
  have e2 : (l.drop i).takeWhile (fun z => decide (z ≠ c)) = l.drop i := (List.takeWhile_sublist _).eq_of_length e
  intro m
  rw [← e2] at m
  have := tw_mem m
  simp at this
theorem nextAt_is {l : List Nat} {c i : Nat} {w r : List Nat} (h : l.drop i = w ++ c :: r) (hw : c ∉ w) : nextAt l c i = i + w.length := by
  unfold nextAt
  rw [h, List.takeWhile_append_of_pos (fun x m => by simpa using fun e : x = c => hw (e ▸ m)), List.takeWhile_cons_of_neg (by simp), List.append_nil]
theorem rd_text {l : List Nat} : ∀ {i : Nat} {xs : List Ins}, i ≤ l.length → Rdl l i xs none → textF xs = l.drop i := by
  intro i xs hi h
  generalize eo : (none : Option Nat) = o at h
  induction h with
  | fin h => rw [List.drop_eq_nil_of_le h]; rfl
  | cut _ _ => cases eo
  | bad _ _ _ => cases eo
  | one h1 h2 h3 _ ih =>
    obtain ⟨e1, _⟩ := nextAt_at h2
    rw [e1, ← ih (by omega) eo, ← R_back h3]
    simp [textF, lineF]
theorem take_cut {L A B : List Nat} {n c : Nat} (h : L = A ++ c :: B) (hn : A.length + 1 ≤ n) : L.take n = A ++ c :: B.take (n - (A.length + 1)) := by
  rw [h, List.take_append, List.take_of_length_le (by omega), show n - A.length = (n - (A.length + 1)) + 1 from by omega, List.take_succ_cons]
/-- where it went wrong: the last line's start, how -/
theorem rd_wrong {l : List Nat} {p : Nat} : ∀ {i : Nat} {xs : List Ins}, Rdl l i xs (some p) → ∃ j, i ≤ j ∧ j < l.length ∧ (j = i ∨ (i < j ∧ l[j - 1]? = some 10)) ∧ Rdl (l.take j) i xs none ∧
    ((p = l.length ∧ 10 ∉ l.drop j) ∨ (p = j ∧ nextAt l 10 j < l.length ∧ RL ((l.drop j).take (nextAt l 10 j - j)) = none)) := by
  intro i xs h
  generalize eo : (some p : Option Nat) = o at h
  induction h with
  | fin h => cases eo
  | @cut i h1 h2 =>
    cases eo
    exact ⟨i, Nat.le_refl _, h1, .inl rfl, .fin (by simp; omega), .inl ⟨rfl, nextAt_none (by omega) h2⟩⟩
  | @bad i h1 h2 h3 =>
    cases eo
    exact ⟨p, Nat.le_refl _, h1, .inl rfl, .fin (by simp; omega), .inr ⟨rfl, h2, h3⟩⟩
  | @one i x xs o h1 h2 h3 _ ih =>
    obtain ⟨j, g1, g2, g3, g4, g5⟩ := ih eo
    have h0 := nextAt_ge (l := l) (c := 10) (i := i)
    obtain ⟨e1, e2⟩ := nextAt_at h2
    have hd : (l.take j).drop i = (l.drop i).take (nextAt l 10 i - i) ++ 10 :: (l.drop (nextAt l 10 i + 1)).take (j - (nextAt l 10 i + 1)) := by
      have hl : ((l.drop i).take (nextAt l 10 i - i)).length = nextAt l 10 i - i := by simp; omega
      rw [List.drop_take, take_cut e1 (by rw [hl]; omega), hl, show j - i - (nextAt l 10 i - i + 1) = j - (nextAt l 10 i + 1) from by omega]
    have hn : nextAt (l.take j) 10 i = nextAt l 10 i := by
      rw [nextAt_is hd e2]; simp; omega
    have h10 : l[nextAt l 10 i]? = some 10 := by
      have := congrArg (fun z => z[nextAt l 10 i - i]?) e1
      simp only [List.getElem?_drop] at this
      rw [show i + (nextAt l 10 i - i) = nextAt l 10 i from by omega] at this
      rw [this, List.getElem?_append_right (by simp; omega)]
      simp
      rw [show min (nextAt l 10 i - i) (l.length - i) = nextAt l 10 i - i from by omega]
      simp
    refine ⟨j, by omega, g2, .inr ⟨by omega, ?_⟩, .one (by simp; omega) (by rw [hn]; simp; omega) ?_ (by rw [hn]; exact g4), g5⟩
    · rcases g3 with g3 | g3
      · rw [g3]; simpa using h10
      · exact g3.2
    · rw [hn, hd]
      rw [List.take_append_of_le_length (by simp; omega), List.take_of_length_le (by simp; omega)]
      exact h3
/-- lines that are read as they were written -/
structure Good (i : Ins) : Prop where
  r : RL i.ln = some i
  nl : 10 ∉ i.ln
theorem rd_good : ∀ (is : List Ins) (l : List Nat) (i : Nat), (∀ x ∈ is, Good x) → l.drop i = textF is → i ≤ l.length → Rdl l i is none
  | [], l, i, _, h, hi => .fin (by
    have := congrArg List.length h
    simp [textF] at this
    omega)
  | x :: is, l, i, g, h, hi => by
    have gx := g x List.mem_cons_self
    have h' : l.drop i = x.ln ++ 10 :: textF is := by rw [h]; simp [textF, lineF]
    have hn := nextAt_is h' gx.nl
    have hl := congrArg List.length h'
    simp at hl
    have ht : (l.drop i).take (nextAt l 10 i - i) = x.ln := by
      rw [hn, h', show i + x.ln.length - i = x.ln.length from by omega]; exact List.take_left
    refine .one (by omega) (by omega) (by rw [ht]; exact gx.r) (rd_good is l _ (fun y m => g y (List.mem_cons_of_mem _ m)) ?_ (by omega))
    rw [hn, show i + x.ln.length + 1 = i + (x.ln.length + 1) from by omega, ← List.drop_drop, h', List.drop_append, List.drop_eq_nil_of_le (by omega)]
    simp
/-! ### starts of lines -/
def starts (l : List Nat) : List Nat := 0 :: ((List.range l.length).filter fun j => decide (l[j]? = some 10)).map (· + 1)
theorem mem_starts {l : List Nat} {p : Nat} : p ∈ starts l ↔ p = 0 ∨ (0 < p ∧ p ≤ l.length ∧ l[p - 1]? = some 10) := by
  unfold starts
  rw [List.mem_cons, List.mem_map]
  constructor
  · rintro (h | ⟨j, h, rfl⟩)
    · exact .inl h
    · obtain ⟨h1, h2⟩ := List.mem_filter.mp h
      refine .inr ⟨by omega, ?_, ?_⟩
      · have := List.mem_range.mp h1; omega
      · simpa using h2
  · rintro (h | ⟨h1, h2, h3⟩)
    · exact .inl h
    · refine .inr ⟨p - 1, List.mem_filter.mpr ⟨List.mem_range.mpr (by omega), by simpa using h3⟩, by omega⟩
theorem starts_last {l : List Nat} {j : Nat} (hj : j ≤ l.length) (hs : j = 0 ∨ (0 < j ∧ l[j - 1]? = some 10)) (hn : 10 ∉ l.drop j) : (starts l)[(starts l).length - 1]? = some j := by
  have ef : (List.range l.length).filter (fun k => decide (l[k]? = some 10)) = (List.range j).filter fun k => decide (l[k]? = some 10) := by
    rw [show l.length = j + (l.length - j) from by omega, List.range_add, List.filter_append]
    have : List.filter (fun k => decide (l[k]? = some 10)) ((List.range (l.length - j)).map fun x => j + x) = [] := by
      rw [List.filter_eq_nil_iff]
      intro k m
      obtain ⟨q, _, rfl⟩ := List.mem_map.mp m
      intro h
      refine hn ?_
      have h : l[j + q]? = some 10 := by simpa using h
      rw [← List.getElem?_drop] at h
      exact List.mem_of_getElem? h
    rw [this, List.append_nil]
  unfold starts
  rw [ef]
  rcases hs with rfl | ⟨h1, h2⟩
  · rfl
  · obtain ⟨m, rfl⟩ : ∃ m, j = m + 1 := ⟨j - 1, by omega⟩
    rw [List.range_succ, List.filter_append]
    have : List.filter (fun k => decide (l[k]? = some 10)) [m] = [m] := by
      rw [List.filter_cons_of_pos (by simpa using h2)]; rfl
    rw [this, List.map_append, ← List.cons_append, List.getElem?_append_right (by simp)]
    simp
end K35

/-! k35: what each def computes. -/
namespace K35
open PySem PySem.Spec L2 PV
theorem c_e : ("" : Str) = tx [] := rfl
theorem c_0 : ("0" : Str) = tx [48] := by decide +kernel
theorem c_sp : (" " : Str) = tx [32] := by decide +kernel
theorem c_nl : ("\n" : Str) = tx [10] := by decide +kernel
theorem c_wait : ("wait" : Str) = tx waitW := by decide +kernel
theorem c_yes : ("yes" : Str) = tx yesW := by decide +kernel
theorem c_no : ("no" : Str) = tx noW := by decide +kernel
theorem c_n : ("n" : Str) = tx [110] := by decide +kernel
theorem c_g : ("g" : Str) = tx [103] := by decide +kernel
theorem c_w : ("w" : Str) = tx [119] := by decide +kernel
theorem digits_eq : ("0123456789" : Str).cps.toList = List.range' 48 10 := by decide +kernel
theorem names_eq : ("abcdefghijklmnopqrstuvwxyzABCDEFGHIJKLMNOPQRSTUVWXYZ0123456789_" : Str).cps.toList = (List.range' 97 26) ++ List.range' 65 26 ++ List.range' 48 10 ++ [95] := by decide +kernel
theorem in_dig {c : Nat} : hasC ("0123456789" : Str) c = isDig c := by
  unfold hasC
  rw [digits_eq, Bool.eq_iff_iff]
  unfold isDig
  simp only [decide_eq_true_eq, List.mem_append, List.mem_range'_1, Bool.or_eq_true, Bool.and_eq_true]
  omega
theorem in_nmc {c : Nat} : hasC ("abcdefghijklmnopqrstuvwxyzABCDEFGHIJKLMNOPQRSTUVWXYZ0123456789_" : Str) c = nmc c := by
  unfold hasC
  rw [names_eq, Bool.eq_iff_iff]
  unfold nmc isLet isDig
  simp only [decide_eq_true_eq, List.mem_append, List.mem_range'_1, Bool.or_eq_true, Bool.and_eq_true, List.mem_singleton]
  omega
theorem bls_map {α : Type} (f : α → Bool) : ∀ l : List α, bls (l.map fun c => D.bl (f c)) = some (l.map f)
  | [] => rfl
  | c :: l => by
    rw [List.map_cons, bls, bls_map f l]; rfl
theorem all_map {α : Type} (f : α → Bool) (l : List α) : (l.map f).all id = l.all f := by
  induction l with
  | nil => rfl
  | cons c l ih => simp
theorem chars2 {y : Str} {x0 : Slot} : ∀ (w : List Nat) (acc : List D), acc.length + w.length ≤ sizeLine → lcL (.nm 2) yesM (binM (inD false) (.sl 2) (.ex (constM (.str y)))) [2] (w.map fun c => .str (tx [c])) acc [x0, none, none] = .ok (acc ++ w.map fun c => D.bl (hasC y c)) [x0, none, none]
  | [], acc, h => by simp [lcL]
  | c :: w, acc, h => by
    have hz : acc.length < sizeLine := by simp at h; omega
    have ih := chars2 (y := y) (x0 := x0) w (acc ++ [D.bl (hasC y c)]) (by simp at h ⊢; omega)
    simp [lcL, killAll, nox, hz, ih]
theorem chars1 {y : Str} {x0 : Slot} : ∀ (w : List Nat) (acc : List D), acc.length + w.length ≤ sizeLine → lcL (.nm 1) yesM (binM (inD false) (.sl 1) (.ex (constM (.str y)))) [1] (w.map fun c => .str (tx [c])) acc [x0, none] = .ok (acc ++ w.map fun c => D.bl (hasC y c)) [x0, none]
  | [], acc, h => by simp [lcL]
  | c :: w, acc, h => by
    have hz : acc.length < sizeLine := by simp at h; omega
    have ih := chars1 (y := y) (x0 := x0) w (acc ++ [D.bl (hasC y c)]) (by simp at h ⊢; omega)
    simp [lcL, killAll, nox, hz, ih]
theorem is_name {k : Nat} {w : List Nat} (hs : w.length ≤ sizeLine) : sem (k + 1) 2 [.str (tx w)] = .ret false (.bl (isNm w)) [] := by
  rw [se2]
  have h := chars1 (y := "abcdefghijklmnopqrstuvwxyzABCDEFGHIJKLMNOPQRSTUVWXYZ0123456789_") (x0 := some (.sh, .str (tx w))) w [] (by simpa using hs)
  have ha : allD (.lst (w.map fun c => D.bl (hasC "abcdefghijklmnopqrstuvwxyzABCDEFGHIJKLMNOPQRSTUVWXYZ0123456789_" c))) = some (false, .bl (w.all nmc)) := by
    show (bls _).map _ = _
    rw [bls_map, Option.map_some, all_map]
    exact congrArg (fun f => some (false, D.bl (w.all f))) (funext fun c => in_nmc)
  refine runF_rt (s := [some (.sh, .str (tx w)), none]) ?_ rfl rfl
  rw [show initS [] 2 [.str (tx w)] = [some (.sh, .str (tx w)), none] from rfl]
  unfold b2 isNm d_NAME_CHARACTERS
  rw [c_e]
  rw [List.nil_append] at h
  by_cases hw : w = []
  · subst hw
    simp [-v_eqT]
  · simp [-v_eqT, hw, t_signs, killAll, h, ha]
theorem toInt_digits {w : List Nat} (h : w.all isDig = true) (h0 : w ≠ []) (hl : w.length ≤ 640) : toIntS (.str (tx w)) = some (false, .int (NumText.digitsVal w : Nat)) := by
  unfold toIntS
  simp only [tx_len]
  rw [if_pos hl, show tx w = SX.S w from rfl, SX.int_S (a := w) (by
    rw [List.all_eq_true] at h ⊢
    intro c m
    exact h c m) h0 (by omega)]
  rfl
def numO : Option Nat → D
  | none => .non
  | some n => .int n
theorem num_test {w : List Nat} (hs : w.length ≤ sizeLine) : (orM (truB (binM (eqS false) (.sl 0) (.ex (constM (.str ""))))) (orM (notM (truM (.ex (unM allD (.ex (compM (itM (varM 0)) (.nm 2) yesM (binM (inD false) (.sl 2) (.ex (constM d_DIGITS))) [2])))))) (orM (andM (truB (binM (eqS false) (.ex (binM ixD (.sl 0) (.ex (constM (.int 0))))) (.ex (constM (.str "0"))))) (truB (binM (eqS true) (.sl 0) (.ex (constM (.str "0")))))) (truB (binM gtD (.ex (unM lenD (.sl 0))) (.ex (constM (.int 10)))))))) [some (.sh, .str (tx w)), none, none] = .ok (badN w) [some (.sh, .str (tx w)), none, none] := by
  have h := chars2 (y := "0123456789") (x0 := some (.sh, .str (tx w))) w [] (by simpa using hs)
  rw [List.nil_append] at h
  have ha : allD (.lst (w.map fun c => D.bl (hasC "0123456789" c))) = some (false, .bl (w.all isDig)) := by
    show (bls _).map _ = _
    rw [bls_map, Option.map_some, all_map]
    exact congrArg (fun f => some (false, D.bl (w.all f))) (funext fun c => in_dig)
  unfold d_DIGITS badN
  rw [c_e, c_0]
  by_cases hw : w = []
  · subst hw; simp [-v_eqT]
  · obtain ⟨c, hc⟩ : ∃ c, w[0]? = some c := ⟨_, List.getElem?_eq_getElem (List.length_pos_iff.mpr hw)⟩
    have hh : w.head? = some c := by rw [List.head?_eq_getElem?]; exact hc
    have hx : ixD (.str (tx w)) (.int (0 : Int)) = some (false, .str (tx [c])) := t_ix (i := 0) hs hc
    have e3 : eqS false (.str (tx w)) (.str (tx [])) = some (false, .bl false) := by rw [t_eq]; simp [hw]
    have e4 : eqS false (.str (tx [c])) (.str (tx [48])) = some (false, .bl (decide (c = 48))) := by rw [t_eq]; simp
    obtain ⟨q, hq⟩ : ∃ q, q = decide (w = [48]) := ⟨_, rfl⟩
    have e1 : eqS true (.str (tx w)) (.str (tx [48])) = some (false, .bl (!q)) := by rw [t_eq, hq]; rfl
    have e2 : (decide (w = []) || !w.all isDig || (decide (w.head? = some 48) && decide (w ≠ [48])) || decide (10 < w.length)) = (!w.all isDig || (decide (c = 48) && !q) || decide (10 < w.length)) := by rw [hh, hq]; simp [hw]
    rw [e2]
    clear hq e2
    have hl : lenD (.str (tx w)) = some (false, .int w.length) := t_len hs
    have h6 : gtD (.int w.length) (.int 10) = some (false, .bl (decide (10 < w.length))) := by
      show some (false, D.bl (decide ((10 : Int) < w.length))) = _
      have : decide ((10 : Int) < w.length) = decide (10 < w.length) := by rw [Bool.eq_iff_iff]; simp; omega
      rw [this]
    generalize decide (10 < w.length) = p at h6 ⊢
    generalize decide (c = 48) = r at e4 ⊢
    generalize w.all isDig = u at ha ⊢
    cases u <;> cases r <;> cases q <;> cases p <;> simp [-v_eqT, -t_eq, -v_ixS, -v_lenS, -v_ordI, t_signs, killAll, h, ha, hx, e3, e1, e4, hl, h6]
end K35

namespace K35
open PySem PySem.Spec L2 PV
theorem lt_size (N : Nat) : ltD (.int (N : Nat)) d_SIZE = some (false, .bl (szB N)) := by
  unfold szB
  show some (false, D.bl (decide ((N : Int) < 4294967296))) = _
  have : decide ((N : Int) < 4294967296) = decide (N < 4294967296) := by
    rw [Bool.eq_iff_iff, decide_eq_true_iff, decide_eq_true_iff]; omega
  rw [this]
theorem number {k : Nat} {w : List Nat} (hs : w.length ≤ sizeLine) : sem (k + 1) 3 [.str (tx w)] = .ret false (numO (num? w)) [] := by
  rw [se3]
  have ht := num_test hs
  unfold b3
  by_cases hb : badN w = true
  · have e : num? w = none := by unfold num?; rw [if_pos hb]
    rw [e]
    refine runF_rt (s := [some (.sh, .str (tx w)), none, none]) ?_ rfl rfl
    rw [show initS [] 3 [.str (tx w)] = [some (.sh, .str (tx w)), none, none] from rfl, ev_seq, ev_ite, ht, hb]
    simp [numO]
  · have hb' : badN w = false := by simpa using hb
    have e : num? w = if szB (NumText.digitsVal w) = true then some (NumText.digitsVal w) else none := by
      unfold num?
      rw [if_neg hb]
    have hb2 := hb'
    unfold badN at hb2
    simp only [Bool.or_eq_false_iff, decide_eq_false_iff_not, Bool.not_eq_false'] at hb2
    have hti := toInt_digits hb2.1.1.2 hb2.1.1.1 (by omega)
    have hlt := lt_size (NumText.digitsVal w)
    rw [e]
    generalize szB (NumText.digitsVal w) = p at hlt ⊢
    generalize NumText.digitsVal w = N at hti hlt ⊢
    generalize d_SIZE = Z at hlt ⊢
    refine runF_rt (s := [some (.sh, .str (tx w)), some (.sh, .int (N : Nat)), none]) ?_ rfl rfl
    rw [show initS [] 3 [.str (tx w)] = [some (.sh, .str (tx w)), none, none] from rfl, ev_seq, ev_ite, ht, hb']
    unfold numO
    cases p <;> simp (implicitDefEqProofs := false) [-v_ordI, -v_ordS, hti, hlt]
end K35

namespace K35
open PySem PySem.Spec L2 PV
/-! ### range of 0, n, 3 -/
theorem fitsL {x : Int} (h0 : 0 ≤ x) (h1 : x ≤ 20000000) : Builtin.Range.rangeFitsLong x = true := by
  unfold Builtin.Range.rangeFitsLong
  rw [Bool.and_eq_true, decide_eq_true_eq, decide_eq_true_eq]
  omega
theorem rng3_eq {n : Nat} (h : n ≤ sizeLine) (h3 : n % 3 = 0) : rng3D (.int 0) (.int n) (.int 3) = some (stepsD 0 3 (n / 3)) := by
  have e : sizeLine = 16777216 := by decide +kernel
  rw [e] at h
  have h2 : Builtin.Range.rangeSize 0 n 3 = ((n / 3 : Nat) : Int) := by
    rw [PyProof.Rows.rangeSize_pos (by decide) (by omega)]
    omega
  have h4 : Builtin.Range.small 0 n 3 = true := by
    have hc : (0 : Int) ≤ (n : Int) ∧ (n : Int) + 2 ≤ 20000000 := by omega
    have hq : (0 : Int) ≤ ((n / 3 : Nat) : Int) ∧ ((n / 3 : Nat) : Int) ≤ 20000000 := by omega
    unfold Builtin.Range.small
    rw [h2, fitsL (Int.le_refl 0) (by decide), fitsL (x := (n : Int)) (by omega) (by omega), fitsL (x := 3) (by decide) (by decide), fitsL hq.1 hq.2, if_pos (by decide), fitsL (x := (n : Int) + (3 - 1)) (by omega) (by omega)]
    simp only [Bool.or_true, Bool.and_true]
  unfold rng3D
  simp only []
  rw [if_pos (gd_yes ⟨by decide, by decide, h4, by rw [h2]; omega⟩), h2, Int.toNat_natCast]
/-- a slot that holds nothing of its own -/
def fre : Slot → Bool
  | none => true
  | some (.sh, _) => true
  | _ => false
theorem put_fre {s : S} {i : Nat} {x : Slot} {d : D} (h : s[i]? = some x) (hf : fre x = true) : (Tg.nm i).put d s = some (s.set i (some (.sh, d))) := by
  rw [Tg.put]
  unfold putS
  rw [h]
  match x, hf with
  | none, _ => rfl
  | some (.sh, _), _ => rfl
/-! ### read_choices -/
abbrev wD (w : List Nat) : D := .str (tx w)
def chD (q : List Nat × List Nat × Nat) : D := .tup [wD q.1, wD q.2.1, .int q.2.2]
def chO : Option (List (List Nat × List Nat × Nat)) → D
  | none => .non
  | some cs => .tup (cs.map chD)
noncomputable def chB (k : Nat) : M Fl := (seqM (setM 3 (callM (sem k 3) [.ex (binM ixD (.sl 0) (.ex (binM addD (.sl 2) (.ex (constM (.int 2))))))]))
    (seqM (iteM (orM (notM (truM (.ex (callM (sem k 2) [.ex (binM ixD (.sl 0) (.sl 2))])))) (orM (notM (truM (.ex (callM (sem k 2) [.ex (binM ixD (.sl 0) (.ex (binM addD (.sl 2) (.ex (constM (.int 1))))))])))) (truB (binM (isD false) (.sl 3) (.ex (constM .non)))))) (retM (constM .non)) nxM)
    (dropM (growM appD 1 (tupM [(binM ixD (.sl 0) (.sl 2)), (binM ixD (.sl 0) (.ex (binM addD (.sl 2) (.ex (constM (.int 1)))))), (varM 3)])))))
theorem ch_one {k i : Nat} {ds acc : List D} {a b n : List Nat} {s3 : Slot} (h3 : fre s3 = true) (ha : a.length ≤ sizeLine) (hb : b.length ≤ sizeLine) (hn : n.length ≤ sizeLine) (hz : acc.length < sizeLine)
    (e0 : atI ds ((i : Int) * 3) = some (wD a)) (e1 : atI ds ((i : Int) * 3 + 1) = some (wD b)) (e2 : atI ds ((i : Int) * 3 + 2) = some (wD n)) :
    chB (k + 1) [some (.sh, .lst ds), some (.ow, .lst acc), some (.sh, .int ((i : Int) * 3)), s3] =
      if isNm a = true ∧ isNm b = true then (match num? n with
        | some g => .ok .nx [some (.sh, .lst ds), some (.ow, .lst (acc ++ [chD (a, b, g)])), some (.sh, .int ((i : Int) * 3)), some (.sh, .int g)]
        | none => .ok (.rt false .non) [some (.sh, .lst ds), some (.ow, .lst acc), some (.sh, .int ((i : Int) * 3)), some (.sh, .non)])
      else .ok (.rt false .non) [some (.sh, .lst ds), some (.ow, .lst acc), some (.sh, .int ((i : Int) * 3)), some (.sh, numO (num? n))] := by
  have n1 := number (k := k) hn
  have n2 := is_name (k := k) ha
  have n3 := is_name (k := k) hb
  have z3 : (3 : Nat) ≤ sizeLine := by decide
  unfold chB chD
  match s3, h3 with
  | none, _ => cases h1 : isNm a <;> cases h2 : isNm b <;> cases h4 : num? n <;> simp (implicitDefEqProofs := false) [e0, e1, e2, n1, n2, n3, h1, h2, h4, numO, z3, hz]
  | some (.sh, d), _ => cases h1 : isNm a <;> cases h2 : isNm b <;> cases h4 : num? n <;> simp (implicitDefEqProofs := false) [e0, e1, e2, n1, n2, n3, h1, h2, h4, numO, z3, hz]
theorem at_word {ws : List (List Nat)} {w : List Nat} {i : Nat} {j : Int} (e : j = (i : Nat)) (h : ws[i]? = some w) : atI (ws.map wD) j = some (wD w) := by
  rw [e, at_nat, List.getElem?_map, h]; rfl
theorem ch_loop {k : Nat} {ws : List (List Nat)} (hw : ∀ w ∈ ws, w.length ≤ sizeLine) : ∀ (rest : List (List Nat)) (i : Nat) (acc : List D) (s2 s3 : Slot), fre s2 = true → fre s3 = true → ws.drop (i * 3) = rest → rest.length % 3 = 0 → acc.length + rest.length ≤ sizeLine →
    match chs? rest with
    | some cs => ∃ s2' s3', forL (.nm 2) (chB (k + 1)) ((List.range' i (rest.length / 3)).map fun j => .int (0 + (j : Nat) * 3)) [some (.sh, .lst (ws.map wD)), some (.ow, .lst acc), s2, s3] = .ok .nx [some (.sh, .lst (ws.map wD)), some (.ow, .lst (acc ++ cs.map chD)), s2', s3']
    | none => ∃ s', forL (.nm 2) (chB (k + 1)) ((List.range' i (rest.length / 3)).map fun j => .int (0 + (j : Nat) * 3)) [some (.sh, .lst (ws.map wD)), some (.ow, .lst acc), s2, s3] = .ok (.rt false .non) s' ∧ outsOf s' [] = some []
  | [], i, acc, s2, s3, f2, f3, hd, hm, hz => ⟨s2, s3, by simp⟩
  | [_], _, _, _, _, _, _, _, hm, _ => by simp at hm
  | [_, _], _, _, _, _, _, _, _, hm, _ => by simp at hm
  | a :: b :: n :: r, i, acc, s2, s3, f2, f3, hd, hm, hz => by
    have g : ∀ j, ws[i * 3 + j]? = (a :: b :: n :: r)[j]? := fun j => by rw [← hd, List.getElem?_drop]
    have ga := g 0
    have gb := g 1
    have gn := g 2
    simp only [List.getElem?_cons_zero, List.getElem?_cons_succ] at ga gb gn
    have ha := hw a (List.mem_of_getElem? ga)
    have hb := hw b (List.mem_of_getElem? gb)
    have hn := hw n (List.mem_of_getElem? gn)
    have e0 := at_word (j := (i : Int) * 3) (by omega) ga
    have e1 := at_word (j := (i : Int) * 3 + 1) (by omega) gb
    have e2 := at_word (j := (i : Int) * 3 + 2) (by omega) gn
    have h1 := ch_one (k := k) (i := i) (acc := acc) f3 ha hb hn (by simp at hz; omega) e0 e1 e2
    have hl : (a :: b :: n :: r).length / 3 = r.length / 3 + 1 := by simp only [List.length_cons]; omega
    have ep : (Tg.nm 2).put (.int (0 + (i : Nat) * 3)) [some (.sh, .lst (ws.map wD)), some (.ow, .lst acc), s2, s3] = some [some (.sh, .lst (ws.map wD)), some (.ow, .lst acc), some (.sh, .int ((i : Int) * 3)), s3] := by
      rw [put_fre (x := s2) rfl f2, Int.zero_add]; rfl
    rw [hl, List.range'_succ, List.map_cons, ev_for1, ep]
    dsimp only
    rw [h1, chs?]
    by_cases hq : isNm a = true ∧ isNm b = true
    · rw [if_pos hq, if_pos hq]
      cases hg : num? n with
      | none => exact ⟨_, rfl, rfl⟩
      | some g =>
        have hd' : ws.drop ((i + 1) * 3) = r := by
          rw [show (i + 1) * 3 = i * 3 + 3 from by omega, ← List.drop_drop, hd]; rfl
        have ih := ch_loop (k := k) hw r (i + 1) (acc ++ [chD (a, b, g)]) (some (.sh, .int ((i : Int) * 3))) (some (.sh, .int g)) rfl rfl hd' (by simp only [List.length_cons] at hm; omega) (by simp at hz ⊢; omega)
        rw [Option.bind_some]
        cases hc : chs? r with
        | none =>
          rw [hc] at ih
          exact ih
        | some cs =>
          rw [hc] at ih
          obtain ⟨s2', s3', ih⟩ := ih
          refine ⟨s2', s3', ?_⟩
          show forL _ _ _ _ = _
          rw [ih]
          simp
    · rw [if_neg hq, if_neg hq]
      exact ⟨_, rfl, rfl⟩
theorem chs_none : ∀ {ws : List (List Nat)}, ws.length % 3 ≠ 0 → chs? ws = none
  | [], h => by simp at h
  | [_], _ => rfl
  | [_, _], _ => rfl
  | a :: b :: n :: r, h => by
    rw [chs?, chs_none (ws := r) (by simp only [List.length_cons] at h; omega)]
    split
    · cases num? n <;> rfl
    · rfl
theorem read_choices {k : Nat} {ws : List (List Nat)} (hw : ∀ w ∈ ws, w.length ≤ sizeLine) (hz : ws.length ≤ sizeLine) : sem (k + 2) 4 [.lst (ws.map wD)] = .ret false (chO (chs1? ws)) [] := by
  rw [se4]
  by_cases h0 : ws = []
  · subst h0
    refine runF_rt (s := [some (.sh, .lst []), none, none, none]) ?_ rfl rfl
    rw [show initS [] 4 [.lst (([] : List (List Nat)).map wD)] = [some (.sh, .lst []), none, none, none] from rfl]
    unfold b4
    simp [chO, chs1?]
  · have he : (ws.map wD).isEmpty = false := by cases ws with | nil => exact absurd rfl h0 | cons _ _ => rfl
    by_cases h3 : ws.length % 3 = 0
    · have hr := rng3_eq hz h3
      have hl := ch_loop (k := k) hw ws 0 [] none none rfl rfl (by simp) h3 (by simpa using hz)
      have h3' : (ws.length : Int) % 3 = 0 := by omega
      have es : stepsD 0 3 (ws.length / 3) = (List.range' 0 (ws.length / 3)).map fun j => .int (0 + (j : Nat) * 3) := by unfold stepsD; rw [List.range_eq_range']
      have ec : chs1? ws = chs? ws := by unfold chs1?; rw [if_neg h0]
      rw [ec]
      have eb : b4 (sem (k + 1)) [some (.sh, .lst (ws.map wD)), none, none, none] = (seqM (forM (rng3M (constM (.int 0)) (unM lenD (.sl 0)) (constM (.int 3))) (.nm 2) (chB (k + 1))) (retM (unM toTup (.sl 1)))) [some (.sh, .lst (ws.map wD)), some (.ow, .lst []), none, none] := by
        unfold b4 chB
        simp [he, h3']
      cases hc : chs? ws with
      | none =>
        rw [hc] at hl
        obtain ⟨s', hl, ho⟩ := hl
        refine runF_rt (s := s') ?_ rfl ho
        rw [show initS [] 4 [.lst (ws.map wD)] = [some (.sh, .lst (ws.map wD)), none, none, none] from rfl, eb]
        rw [← es] at hl
        simp [hr, hl, chO]
      | some cs =>
        rw [hc] at hl
        obtain ⟨s2', s3', hl⟩ := hl
        refine runF_rt (s := [some (.sh, .lst (ws.map wD)), some (.ow, .lst (cs.map chD)), s2', s3']) ?_ rfl rfl
        rw [show initS [] 4 [.lst (ws.map wD)] = [some (.sh, .lst (ws.map wD)), none, none, none] from rfl, eb]
        rw [← es] at hl
        simp [hr, hl, chO, toTup]
    · have ec : chs1? ws = none := by unfold chs1?; rw [if_neg h0, chs_none h3]
      have h3' : ¬ (ws.length : Int) % 3 = 0 := by omega
      rw [ec]
      refine runF_rt (s := [some (.sh, .lst (ws.map wD)), none, none, none]) ?_ rfl rfl
      rw [show initS [] 4 [.lst (ws.map wD)] = [some (.sh, .lst (ws.map wD)), none, none, none] from rfl]
      unfold b4
      simp [he, h3', chO]
end K35

namespace K35
open PySem PySem.Spec L2 PV
theorem kd_strs : (kd_SHAPES.all fun q => match q.2 with | .str x => decide (x.cps.toList.length ≤ 2) | _ => false) = true := by rfl
theorem shapes (z : Str) : tget kd_SHAPES z = none ∨ ∃ sh : List Nat, tget kd_SHAPES z = some (.str (tx sh)) ∧ sh.length ≤ 2 := by
  cases h : tget kd_SHAPES z with
  | none => exact .inl rfl
  | some d =>
    have := List.all_eq_true.mp kd_strs _ (tget_mem h)
    cases d with
    | str x => exact .inr ⟨x.cps.toList, by rw [← tx_of], by simpa using this⟩
    | _ => cases this
def ng (c : Nat) : Bool := decide (c = 110) || decide (c = 103)
def yn (w : List Nat) : Bool := decide (w = yesW) || decide (w = noW)
theorem in_ng {c : Nat} {n : Bool} : inD n (.str (tx [c])) (.tup [.str "n", .str "g"]) = some (false, .bl (if n then !ng c else ng c)) := by
  have e : inV (.str (tx [c])) [.str "n", .str "g"] = ng c := by
    rw [c_n, c_g, Bool.eq_iff_iff]
    show ((tx [110] == tx [c]) || ((tx [103] == tx [c]) || false)) = true ↔ _
    unfold ng
    simp only [Bool.or_eq_true, beq_iff_eq, decide_eq_true_eq, tx_inj, Bool.or_false, List.cons.injEq, and_true]
    constructor <;> rintro (h | h) <;> first | exact .inl h.symm | exact .inr h.symm
  show some (false, D.bl (if n then !inV (.str (tx [c])) [.str "n", .str "g"] else inV (.str (tx [c])) [.str "n", .str "g"])) = _
  rw [e]
theorem in_yn {w : List Nat} {n : Bool} : inD n (.str (tx w)) (.tup [.str "yes", .str "no"]) = some (false, .bl (if n then !yn w else yn w)) := by
  have e : inV (.str (tx w)) [.str "yes", .str "no"] = yn w := by
    rw [c_yes, c_no, Bool.eq_iff_iff]
    show ((tx yesW == tx w) || ((tx noW == tx w) || false)) = true ↔ _
    unfold yn
    simp only [Bool.or_eq_true, beq_iff_eq, decide_eq_true_eq, tx_inj, Bool.or_false]
    constructor <;> rintro (h | h) <;> first | exact .inl h.symm | exact .inr h.symm
  show some (false, D.bl (if n then !inV (.str (tx w)) [.str "yes", .str "no"] else inV (.str (tx w)) [.str "yes", .str "no"])) = _
  rw [e]
def Pt.d : Pt → D
  | .num n => .int n
  | .nam w => wD w
  | .chs cs => .tup (cs.map chD)
def Ins.d (i : Ins) : D := .tup (wD i.w :: i.ps.map Pt.d)
def inO : Option Ins → D
  | none => .non
  | some i => i.d
theorem part_eq {c : Nat} {w : List Nat} : part? c w = if ng c = true then (num? w).map .num else if isNm w = true ∧ (decide (c = 119) && !yn w) = false then some (.nam w) else none := by
  unfold part? ng yn
  by_cases h1 : c = 110 ∨ c = 103
  · rw [if_pos h1, if_pos (c := (decide (c = 110) || decide (c = 103)) = true) (by simpa using h1)]
  · rw [if_neg h1, if_neg (c := (decide (c = 110) || decide (c = 103)) = true) (by simpa using h1)]
    congr 1
    simp only [Bool.and_eq_false_iff, decide_eq_false_iff_not, Bool.not_eq_false', Bool.or_eq_true, decide_eq_true_eq, eq_iff_iff]
    constructor
    · rintro ⟨h, q⟩
      refine ⟨h, ?_⟩
      by_cases hc : c = 119
      · exact .inr (q hc)
      · exact .inl hc
    · rintro ⟨h, q⟩
      exact ⟨h, fun hc => q.elim (fun z => absurd hc z) id⟩
noncomputable def ptB (k : Nat) : M Fl := (seqM (setM 7 (iteM (truB (binM (inD false) (.sl 5) (.ex (tupM [(constM (.str "n")), (constM (.str "g"))])))) (callM (sem k 3) [.ex (varM 6)]) (varM 6)))
    (seqM (iteM (orM (truB (binM (isD false) (.sl 7) (.ex (constM .non)))) (andM (truB (binM (inD true) (.sl 5) (.ex (tupM [(constM (.str "n")), (constM (.str "g"))])))) (notM (truM (.ex (callM (sem k 2) [.ex (varM 6)])))))) (retM (constM .non)) nxM)
    (seqM (iteM (andM (truB (binM (eqS false) (.sl 5) (.ex (constM (.str "w"))))) (truB (binM (inD true) (.sl 6) (.ex (tupM [(constM (.str "yes")), (constM (.str "no"))]))))) (retM (constM .non)) nxM)
    (dropM (growM appD 4 (varM 7))))))
theorem pt_one {k c : Nat} {w : List Nat} {acc : List D} {x0 x1 x2 x3 s7 : Slot} (h7 : fre s7 = true) (hw : w.length ≤ sizeLine) (hz : acc.length < sizeLine) : match part? c w with
    | some p => ptB (k + 1) [x0, x1, x2, x3, some (.ow, .lst acc), some (.sh, wD [c]), some (.sh, wD w), s7] = .ok .nx [x0, x1, x2, x3, some (.ow, .lst (acc ++ [p.d])), some (.sh, wD [c]), some (.sh, wD w), some (.sh, p.d)]
    | none => ∃ s', ptB (k + 1) [x0, x1, x2, x3, some (.ow, .lst acc), some (.sh, wD [c]), some (.sh, wD w), s7] = .ok (.rt false .non) s' := by
  have n1 := number (k := k) hw
  have n2 := is_name (k := k) hw
  have z2 : (2 : Nat) ≤ sizeLine := by decide
  have e4 : eqS false (.str (tx [c])) (.str (tx [119])) = some (false, .bl (decide (c = 119))) := by rw [t_eq]; simp
  have e5 : ng c = true → c ≠ 119 := by
    intro h q
    subst q
    exact absurd h (by decide)
  rw [part_eq]
  unfold ptB
  rw [c_w]
  cases h1 : ng c with
  | true =>
    have h5 := e5 h1
    rw [if_pos rfl]
    match s7, h7 with
    | none, _ => cases h4 : num? w <;> simp (implicitDefEqProofs := false) [in_ng, in_yn, n1, n2, numO, z2, hz, h1, h4, e4, -t_eq, -v_eqT, Pt.d, h5]
    | some (.sh, d), _ => cases h4 : num? w <;> simp (implicitDefEqProofs := false) [in_ng, in_yn, n1, n2, numO, z2, hz, h1, h4, e4, -t_eq, -v_eqT, Pt.d, h5]
  | false =>
    rw [if_neg (by decide)]
    clear e5
    generalize decide (c = 119) = q at e4 ⊢
    match s7, h7 with
    | none, _ => cases h2 : isNm w <;> cases h3 : yn w <;> cases q <;> simp (implicitDefEqProofs := false) [in_ng, in_yn, n1, n2, z2, hz, h1, h2, h3, e4, -t_eq, -v_eqT, Pt.d]
    | some (.sh, d), _ => cases h2 : isNm w <;> cases h3 : yn w <;> cases q <;> simp (implicitDefEqProofs := false) [in_ng, in_yn, n1, n2, z2, hz, h1, h2, h3, e4, -t_eq, -v_eqT, Pt.d]
theorem put_tp2 {s : S} {i j : Nat} {x y : Slot} {a b : D} (hi : s[i]? = some x) (hf : fre x = true) (hj : s[j]? = some y) (hg : fre y = true) (hij : i ≠ j) : (Tg.tp [.nm i, .nm j]).put (.tup [a, b]) s = some ((s.set i (some (.sh, a))).set j (some (.sh, b))) := by
  simp only [Tg.put, Tg.puts]
  have e1 := put_fre (d := a) hi hf
  rw [Tg.put] at e1
  rw [e1]
  simp only [Option.bind_some]
  have e2 := put_fre (s := s.set i (some (.sh, a))) (d := b) (i := j) (x := y) (by rw [List.getElem?_set_ne hij]; exact hj) hg
  rw [Tg.put] at e2
  rw [e2]
  rfl
theorem zip_words (sh : List Nat) (ws : List (List Nat)) : zipD (tx sh) (ws.map wD) = (sh.zip ws).map fun q => .tup [wD [q.1], wD q.2] := by
  unfold zipD
  rw [tx_list, ← List.map_id sh, List.zip_map, List.map_map]
  simp only [List.map_id]
  rfl
theorem pt_loop {k : Nat} {x0 x1 x2 x3 : Slot} : ∀ (sh : List Nat) (ws : List (List Nat)) (acc : List D) (s5 s6 s7 : Slot), fre s5 = true → fre s6 = true → fre s7 = true → (∀ w ∈ ws, w.length ≤ sizeLine) → acc.length + sh.length ≤ sizeLine →
    match parts? sh ws with
    | some ps => ∃ s5' s6' s7', forL (.tp [.nm 5, .nm 6]) (ptB (k + 1)) ((sh.zip ws).map fun q => .tup [wD [q.1], wD q.2]) [x0, x1, x2, x3, some (.ow, .lst acc), s5, s6, s7] = .ok .nx [x0, x1, x2, x3, some (.ow, .lst (acc ++ ps.map Pt.d)), s5', s6', s7']
    | none => ∃ s', forL (.tp [.nm 5, .nm 6]) (ptB (k + 1)) ((sh.zip ws).map fun q => .tup [wD [q.1], wD q.2]) [x0, x1, x2, x3, some (.ow, .lst acc), s5, s6, s7] = .ok (.rt false .non) s'
  | [], ws, acc, s5, s6, s7, _, _, _, _, _ => ⟨s5, s6, s7, by simp⟩
  | _ :: _, [], acc, s5, s6, s7, _, _, _, _, _ => ⟨s5, s6, s7, by simp⟩
  | c :: sh, w :: ws, acc, s5, s6, s7, f5, f6, f7, hw, hz => by
    have ep : (Tg.tp [.nm 5, .nm 6]).put (.tup [wD [c], wD w]) [x0, x1, x2, x3, some (.ow, .lst acc), s5, s6, s7] = some [x0, x1, x2, x3, some (.ow, .lst acc), some (.sh, wD [c]), some (.sh, wD w), s7] := put_tp2 (x := s5) (y := s6) rfl f5 rfl f6 (by decide)
    have h1 := pt_one (k := k) (c := c) (w := w) (acc := acc) (x0 := x0) (x1 := x1) (x2 := x2) (x3 := x3) f7 (hw w List.mem_cons_self) (by simp at hz; omega)
    rw [List.zip_cons_cons, List.map_cons, ev_for1]
    dsimp only
    rw [ep]
    dsimp only
    rw [parts?]
    cases hp : part? c w with
    | none =>
      rw [hp] at h1
      obtain ⟨s', h1⟩ := h1
      refine ⟨s', ?_⟩
      rw [h1]; rfl
    | some p =>
      rw [hp] at h1
      dsimp only at h1
      have ih := pt_loop (k := k) (x0 := x0) (x1 := x1) (x2 := x2) (x3 := x3) sh ws (acc ++ [p.d]) (some (.sh, wD [c])) (some (.sh, wD w)) (some (.sh, p.d)) rfl rfl rfl (fun v m => hw v (List.mem_cons_of_mem _ m)) (by simp at hz ⊢; omega)
      rw [h1, Option.bind_some]
      cases hq : parts? sh ws with
      | none => rw [hq] at ih; exact ih
      | some ps =>
        rw [hq] at ih
        obtain ⟨a, b, c', ih⟩ := ih
        refine ⟨a, b, c', ?_⟩
        show forL _ _ _ _ = _
        rw [ih]
        simp
end K35

namespace K35
open PySem PySem.Spec L2 PV
theorem kin_some {w sh : List Nat} (h : tget kd_SHAPES (tx w) = some (.str (tx sh))) : kinD true kd_SHAPES (.str (tx w)) = some (false, .bl false) := by
  show some (false, D.bl (if true = true then !(tget kd_SHAPES (tx w)).isSome else _)) = _
  rw [h]; rfl
theorem kin_none {w : List Nat} (h : tget kd_SHAPES (tx w) = none) : kinD true kd_SHAPES (.str (tx w)) = some (false, .bl true) := by
  show some (false, D.bl (if true = true then !(tget kd_SHAPES (tx w)).isSome else _)) = _
  rw [h]; rfl
theorem kix_some {w sh : List Nat} (h : tget kd_SHAPES (tx w) = some (.str (tx sh))) : kixD kd_SHAPES (.str (tx w)) = some (false, .str (tx sh)) := by
  show (tget kd_SHAPES (tx w)).map _ = _
  rw [h]; rfl
theorem sl_n {ds : List D} {n : Nat} : sliceD (some ((n : Nat) : Int)) none (.lst ds) = some (true, .lst (ds.drop n)) := by
  show some (true, D.lst (cutL ds (some (n : Int)) none)) = _
  unfold cutL
  rw [HT.sIx_nat, HT.sIx_none]
  by_cases h : n ≤ ds.length
  · rw [Nat.min_eq_left h, List.take_of_length_le (by simp)]
  · rw [Nat.min_eq_right (by omega), List.drop_of_length_le (Nat.le_refl _), List.drop_of_length_le (by omega)]; simp
theorem split_words {l : List Nat} (h : l.length + 2 ≤ sizeLine) : splitD (tx l) [.str (tx [32])] = some (true, .lst ((sp 32 l).map wD)) := by
  have e : splitD (tx l) [.str (tx [32])] = if ((tx [32]).length == 0) = false ∧ (tx l).length + 2 ≤ sizeLine then some (true, .lst ((Txt.split (tx l) (tx [32])).map D.str)) else none := rfl
  rw [e, if_pos ⟨by decide +kernel, by simpa using h⟩, split_tx (by decide), List.map_map]
  rfl
theorem read_line {k : Nat} {l : List Nat} (hl : l.length + 2 ≤ sizeLine) : sem (k + 3) 5 [.str (tx l)] = .ret false (inO (RL l)) [] := by
  rw [se5]
  have hs := split_words hl
  have hm : ∀ v ∈ sp 32 l, v.length ≤ sizeLine := fun v m => by have := sp_mem 32 m; omega
  have hn := sp_len 32 l
  unfold RL
  cases hw : sp 32 l with
  | nil => exact absurd hw (sp_ne 32 l)
  | cons w ws =>
    rw [hw] at hs hm hn
    have hws : ∀ v ∈ ws, v.length ≤ sizeLine := fun v m => hm v (List.mem_cons_of_mem _ m)
    have hwl : ws.length ≤ sizeLine := by simp at hn; omega
    have i0 : initS [] 8 [.str (tx l)] = [some (.sh, .str (tx l)), none, none, none, none, none, none, none] := rfl
    rw [List.map_cons] at hs
    have a0 : atI (wD w :: ws.map wD) 0 = some (wD w) := at_nat (n := 0)
    have d1 : sliceD (some (1 : Int)) none (.lst (wD w :: ws.map wD)) = some (true, .lst (ws.map wD)) := sl_n (n := 1)
    have d2 : sliceD (some (2 : Int)) none (.lst (wD w :: ws.map wD)) = some (true, .lst ((ws.drop 1).map wD)) := by
      rw [List.map_drop]; exact sl_n (n := 2)
    rcases shapes (tx w) with hsh | ⟨sh, hsh, hsl⟩
    · have e : R0 (w :: ws) = none := by
        have : shp w = none := by unfold shp; rw [hsh]
        show (shp w).bind _ = none
        rw [this]; rfl
      rw [e]
      refine runF_rt (s := [some (.sh, .str (tx l)), some (.ow, .lst (wD w :: ws.map wD)), none, none, none, none, none, none]) ?_ rfl rfl
      rw [i0]
      unfold b5
      rw [c_sp]
      simp (implicitDefEqProofs := false) [hs, a0, kin_none hsh, inO]
    · have hsw : shp w = some sh := by unfold shp; rw [hsh]; rfl
      have e : R0 (w :: ws) = if w = waitW then (match ws with
        | b :: r => (chs1? r).bind fun cs => if isNm b = true then some ⟨w, [.nam b, .chs cs]⟩ else none
        | [] => none)
        else if ws.length ≠ sh.length then none else (parts? sh ws).map fun ps => ⟨w, ps⟩ := by
        show (shp w).bind _ = _
        rw [hsw]; rfl
      rw [e]
      by_cases hwt : w = waitW
      · rw [if_pos hwt]
        have z3 : (3 : Nat) ≤ sizeLine := by decide
        have ew : ∀ d : D, eqS false (.str (tx w)) (.str (tx waitW)) = some (false, .bl true) := fun _ => by rw [t_eq, hwt]; rfl
        have ew := ew .non
        have rc := read_choices (k := k) (ws := ws.drop 1) (fun v m => hws v (List.mem_of_mem_drop m)) (by simp; omega)
        cases ws with
        | nil =>
          refine runF_rt (s := [some (.sh, .str (tx l)), some (.ow, .lst [wD w]), some (.sh, .str (tx sh)), some (.sh, .non), none, none, none, none]) ?_ rfl rfl
          rw [i0]
          unfold b5
          rw [c_sp, c_wait]
          simp only [List.map_nil, List.drop_nil] at *
          simp (implicitDefEqProofs := false) [hs, a0, kin_some hsh, kix_some hsh, inO, -t_eq, -v_eqT, ew, d2, rc, chs1?, chO]
        | cons b r =>
          have a1 : atI (wD w :: wD b :: r.map wD) 1 = some (wD b) := at_nat (n := 1)
          have nb := is_name (k := k + 1) (hws b List.mem_cons_self)
          simp only [List.map_cons, List.drop_succ_cons, List.drop_zero] at *
          cases hc : chs1? r with
          | none =>
            rw [hc] at rc
            refine runF_rt (s := [some (.sh, .str (tx l)), some (.ow, .lst (wD w :: wD b :: r.map wD)), some (.sh, .str (tx sh)), some (.sh, .non), none, none, none, none]) ?_ rfl rfl
            rw [i0]
            unfold b5
            rw [c_sp, c_wait]
            simp (implicitDefEqProofs := false) [hs, a0, kin_some hsh, kix_some hsh, inO, -t_eq, -v_eqT, ew, d2, rc, chO]
          | some cs =>
            rw [hc] at rc
            cases hb : isNm b with
            | true =>
              have er : inO ((some cs).bind fun cs => if isNm b = true then some ⟨w, [.nam b, .chs cs]⟩ else none) = .tup [wD waitW, wD b, .tup (cs.map chD)] := by
                rw [Option.bind_some, if_pos hb, hwt]; rfl
              rw [hb] at er
              rw [er]
              refine runF_rt (s := [some (.sh, .str (tx l)), some (.ow, .lst (wD w :: wD b :: r.map wD)), some (.sh, .str (tx sh)), some (.sh, .tup (cs.map chD)), none, none, none, none]) ?_ rfl rfl
              rw [i0]
              unfold b5
              rw [c_sp, c_wait]
              simp (implicitDefEqProofs := false) [hs, a0, a1, kin_some hsh, kix_some hsh, -t_eq, -v_eqT, ew, d2, rc, chO, nb, hb, z3]
            | false =>
              refine runF_rt (s := [some (.sh, .str (tx l)), some (.ow, .lst (wD w :: wD b :: r.map wD)), some (.sh, .str (tx sh)), some (.sh, .tup (cs.map chD)), none, none, none, none]) ?_ rfl rfl
              rw [i0]
              unfold b5
              rw [c_sp, c_wait]
              simp (implicitDefEqProofs := false) [hs, a0, a1, kin_some hsh, kix_some hsh, inO, -t_eq, -v_eqT, ew, d2, rc, chO, nb, hb, z3]
      · rw [if_neg hwt]
        have ew : eqS false (.str (tx w)) (.str (tx waitW)) = some (false, .bl false) := by rw [t_eq]; simp [hwt]
        have hlen : lenD (.str (tx sh)) = some (false, .int sh.length) := t_len (Nat.le_trans hsl (by decide))
        by_cases hc : ws.length ≠ sh.length
        · rw [if_pos hc]
          have hc' : ¬ (ws.length : Int) = sh.length := by omega
          refine runF_rt (s := [some (.sh, .str (tx l)), some (.ow, .lst (wD w :: ws.map wD)), some (.sh, .str (tx sh)), none, none, none, none, none]) ?_ rfl rfl
          rw [i0]
          unfold b5
          rw [c_sp, c_wait]
          simp (implicitDefEqProofs := false) [hs, a0, kin_some hsh, kix_some hsh, inO, -t_eq, -v_eqT, ew, hlen, hc', hc]
        · rw [if_neg hc]
          have hc' : (ws.length : Int) = sh.length := by omega
          have z1 : (1 : Nat) ≤ sizeLine := by decide
          have hp := pt_loop (k := k + 1) (x0 := some (.sh, .str (tx l))) (x1 := some (.ow, .lst (wD w :: ws.map wD))) (x2 := some (.sh, .str (tx sh))) (x3 := none) sh ws [wD w] none none none rfl rfl rfl hws (by simp; exact Nat.le_trans (Nat.add_le_add_left hsl 1) (by decide))
          have eb : b5 (sem (k + 2)) [some (.sh, .str (tx l)), none, none, none, none, none, none, none] = (seqM (forM (zipM (varM 2) (sliceM (.sl 1) (some (.ex (constM (.int 1)))) none)) (.tp [(.nm 5), (.nm 6)]) (ptB (k + 1 + 1))) (retM (unM toTup (.sl 4)))) [some (.sh, .str (tx l)), some (.ow, .lst (wD w :: ws.map wD)), some (.sh, .str (tx sh)), none, some (.ow, .lst [wD w]), none, none, none] := by
            unfold b5 ptB
            rw [c_sp, c_wait]
            simp (implicitDefEqProofs := false) [hs, a0, kin_some hsh, kix_some hsh, -t_eq, -v_eqT, ew, hlen, hc', z1]
          have ez := zip_words sh ws
          cases hq : parts? sh ws with
          | none =>
            rw [hq] at hp
            obtain ⟨s', hp⟩ := hp
            refine runF_rt (s := s') ?_ rfl rfl
            rw [i0, eb]
            simp (implicitDefEqProofs := false) [d1, ez, hp, inO]
          | some ps =>
            rw [hq] at hp
            obtain ⟨s5, s6, s7, hp⟩ := hp
            refine runF_rt (s := [some (.sh, .str (tx l)), some (.ow, .lst (wD w :: ws.map wD)), some (.sh, .str (tx sh)), none, some (.ow, .lst (wD w :: ps.map Pt.d)), s5, s6, s7]) ?_ rfl rfl
            rw [i0, eb]
            simp (implicitDefEqProofs := false) [d1, ez, hp, inO, toTup, Ins.d]
end K35

namespace K35
open PySem PySem.Spec L2 PV
theorem runF_exc {ios : List Nat} {n m : Nat} {f : M Fl} {ds : List D} {x : Exn} {s : S} {outs : List D} (e : f (initS ios m ds) = .exc x s) (hn : ds.length = n) (ho : outsOf s ios = some outs) : runF ios n m f ds = .exc x outs := by
  unfold runF
  rw [if_pos hn, e]
  simp only [ho]
def wrong (p : Nat) : Exn := ⟨"SyntaxProblem", [("start", .int p)]⟩
noncomputable def rcC : M Bool := (truB (binM ltD (.sl 2) (.ex (unM lenD (.sl 0)))))
noncomputable def rcB (k : Nat) : M Fl := (seqM (setM 3 (methS findD (.sl 0) [(.ex (constM (.str "\n"))), (.sl 2)]))
    (seqM (iteM (truB (binM ltD (.sl 3) (.ex (constM (.int 0))))) (raiseM "SyntaxProblem" ["start"] [.ex (unM lenD (.sl 0))]) nxM)
    (seqM (setM 4 (callM (sem k 5) [.ex (sliceM (.sl 0) (some (.sl 2)) (some (.sl 3)))]))
    (seqM (iteM (truB (binM (isD false) (.sl 4) (.ex (constM .non)))) (raiseM "SyntaxProblem" ["start"] [.ex (varM 2)]) nxM)
    (seqM (dropM (growM appD 1 (varM 4)))
    (setM 2 (binM addD (.sl 3) (.ex (constM (.int 1))))))))))
theorem isD_ins {g : Bool} {i : Ins} : isD g i.d .non = some (false, .bl g) := isN_tup
theorem rc_loop {k : Nat} {l : List Nat} (hl : l.length + 2 ≤ sizeLine) {i : Nat} {xs : List Ins} {o : Option Nat} (h : Rdl l i xs o) : ∀ (acc : List D) (s3 s4 : Slot), fre s3 = true → fre s4 = true → i ≤ l.length → acc.length + (l.length - i) ≤ sizeLine →
    match (generalizing := false) o with
    | none => ∃ s2 s3' s4', whileM rcC (rcB (k + 3)) [some (.sh, .str (tx l)), some (.ow, .lst acc), some (.sh, .int i), s3, s4] = .ok .nx [some (.sh, .str (tx l)), some (.ow, .lst (acc ++ xs.map Ins.d)), s2, s3', s4']
    | some p => ∃ s', whileM rcC (rcB (k + 3)) [some (.sh, .str (tx l)), some (.ow, .lst acc), some (.sh, .int i), s3, s4] = .exc (wrong p) s' := by
  have hs : l.length ≤ sizeLine := by omega
  induction h with
  | @fin i hi =>
    intro acc s3 s4 f3 f4 h1 h2
    refine ⟨some (.sh, .int i), s3, s4, ?_⟩
    have hi' : ¬ i < l.length := by omega
    rw [whileM_eq]
    unfold wstep rcC
    simp (implicitDefEqProofs := false) [t_len hs, hi']
  | @cut i h1 h2 =>
    intro acc s3 s4 f3 f4 h3 h4
    have hf := t_find (l := l) (c := 10) (i := i) h3
    rw [if_neg h2] at hf
    have e : whileM rcC (rcB (k + 3)) [some (.sh, .str (tx l)), some (.ow, .lst acc), some (.sh, .int i), s3, s4] = .exc (wrong l.length) [some (.sh, .str (tx l)), some (.ow, .lst acc), some (.sh, .int i), some (.sh, .int (-1)), s4] := by
      rw [whileM_eq]
      unfold wstep rcC rcB wrong
      rw [c_nl]
      match s3, f3 with
      | none, _ => simp (implicitDefEqProofs := false) [t_len hs, h1, hf, raiseM, Opd.isEx]
      | some (.sh, d), _ => simp (implicitDefEqProofs := false) [t_len hs, h1, hf, raiseM, Opd.isEx]
    exact ⟨_, e⟩
  | @bad i h1 h2 h3 =>
    intro acc s3 s4 f3 f4 h4 h5
    have hf := t_find (l := l) (c := 10) (i := i) h4
    rw [if_pos h2] at hf
    have hsl := t_slice (j := nextAt l 10 i) hs h4
    have hlen : ((l.drop i).take (nextAt l 10 i - i)).length + 2 ≤ sizeLine := by simp; omega
    have hr := read_line (k := k) hlen
    rw [h3] at hr
    have hneg : ¬ ((nextAt l 10 i : Nat) : Int) < 0 := by omega
    generalize nextAt l 10 i = j at *
    have e : whileM rcC (rcB (k + 3)) [some (.sh, .str (tx l)), some (.ow, .lst acc), some (.sh, .int i), s3, s4] = .exc (wrong i) [some (.sh, .str (tx l)), some (.ow, .lst acc), some (.sh, .int i), some (.sh, .int j), some (.sh, .non)] := by
      rw [whileM_eq]
      unfold wstep rcC rcB wrong
      rw [c_nl]
      match s3, f3, s4, f4 with
      | none, _, none, _ => simp (implicitDefEqProofs := false) [t_len hs, h1, hf, hsl, hr, hneg, inO, raiseM, Opd.isEx]
      | some (.sh, d), _, none, _ => simp (implicitDefEqProofs := false) [t_len hs, h1, hf, hsl, hr, hneg, inO, raiseM, Opd.isEx]
      | none, _, some (.sh, e), _ => simp (implicitDefEqProofs := false) [t_len hs, h1, hf, hsl, hr, hneg, inO, raiseM, Opd.isEx]
      | some (.sh, d), _, some (.sh, e), _ => simp (implicitDefEqProofs := false) [t_len hs, h1, hf, hsl, hr, hneg, inO, raiseM, Opd.isEx]
    exact ⟨_, e⟩
  | @one i x xs o h1 h2 h3 _ ih =>
    intro acc s3 s4 f3 f4 h4 h5
    have h0 := nextAt_ge (l := l) (c := 10) (i := i)
    have hf := t_find (l := l) (c := 10) (i := i) h4
    rw [if_pos h2] at hf
    have hsl := t_slice (j := nextAt l 10 i) hs h4
    have hlen : ((l.drop i).take (nextAt l 10 i - i)).length + 2 ≤ sizeLine := by simp; omega
    have hr := read_line (k := k) hlen
    rw [h3] at hr
    have hneg : ¬ ((nextAt l 10 i : Nat) : Int) < 0 := by omega
    have hz : acc.length < sizeLine := by omega
    have ih := ih (acc ++ [x.d]) (some (.sh, .int (nextAt l 10 i : Nat))) (some (.sh, x.d)) rfl rfl (by omega) (by simp; omega)
    generalize nextAt l 10 i = j at *
    have e : whileM rcC (rcB (k + 3)) [some (.sh, .str (tx l)), some (.ow, .lst acc), some (.sh, .int i), s3, s4] = whileM rcC (rcB (k + 3)) [some (.sh, .str (tx l)), some (.ow, .lst (acc ++ [x.d])), some (.sh, .int ((j + 1 : Nat) : Int)), some (.sh, .int j), some (.sh, x.d)] := by
      conv => lhs; rw [whileM_eq]
      unfold wstep
      generalize whileM rcC (rcB (k + 3)) = W
      unfold rcC rcB
      rw [c_nl]
      match s3, f3, s4, f4 with
      | none, _, none, _ => simp (implicitDefEqProofs := false) [t_len hs, h1, hf, hsl, hr, hneg, inO, isD_ins, hz]
      | some (.sh, d), _, none, _ => simp (implicitDefEqProofs := false) [t_len hs, h1, hf, hsl, hr, hneg, inO, isD_ins, hz]
      | none, _, some (.sh, e), _ => simp (implicitDefEqProofs := false) [t_len hs, h1, hf, hsl, hr, hneg, inO, isD_ins, hz]
      | some (.sh, d), _, some (.sh, e), _ => simp (implicitDefEqProofs := false) [t_len hs, h1, hf, hsl, hr, hneg, inO, isD_ins, hz]
    cases o with
    | none =>
      obtain ⟨a, b, c, ih⟩ := ih
      refine ⟨a, b, c, ?_⟩
      rw [e, ih]
      simp
    | some p =>
      obtain ⟨s', ih⟩ := ih
      exact ⟨s', by rw [e, ih]⟩
theorem rc_eq (k : Nat) : b6 (sem (k + 3)) = (seqM (setM 1 (lstM [])) (seqM (setM 2 (constM (.int 0))) (seqM (whileM rcC (rcB (k + 3))) (retM (unM toTup (.sl 1)))))) := rfl
theorem read_code_ok {k : Nat} {l : List Nat} (hl : l.length + 2 ≤ sizeLine) {xs : List Ins} (h : Rdl l 0 xs none) : sem (k + 4) 6 [.str (tx l)] = .ret false (.tup (xs.map Ins.d)) [] := by
  rw [se6, rc_eq]
  obtain ⟨a, b, c, e⟩ := rc_loop (k := k) hl h [] none none rfl rfl (Nat.zero_le _) (by simp; omega)
  refine runF_rt (s := [some (.sh, .str (tx l)), some (.ow, .lst (xs.map Ins.d)), a, b, c]) ?_ rfl rfl
  rw [show initS [] 5 [.str (tx l)] = [some (.sh, .str (tx l)), none, none, none, none] from rfl]
  rw [List.nil_append] at e
  have e' : whileM rcC (rcB (k + 3)) [some (.sh, .str (tx l)), some (.ow, .lst []), some (.sh, .int 0), none, none] = _ := e
  generalize whileM rcC (rcB (k + 3)) = W at *
  simp (implicitDefEqProofs := false) [e', toTup]
theorem read_code_wrong {k p : Nat} {l : List Nat} (hl : l.length + 2 ≤ sizeLine) {xs : List Ins} (h : Rdl l 0 xs (some p)) : sem (k + 4) 6 [.str (tx l)] = .exc (wrong p) [] := by
  rw [se6, rc_eq]
  obtain ⟨s', e⟩ := rc_loop (k := k) hl h [] none none rfl rfl (Nat.zero_le _) (by simp; omega)
  refine runF_exc (s := s') ?_ rfl rfl
  rw [show initS [] 5 [.str (tx l)] = [some (.sh, .str (tx l)), none, none, none, none] from rfl]
  have e' : whileM rcC (rcB (k + 3)) [some (.sh, .str (tx l)), some (.ow, .lst []), some (.sh, .int 0), none, none] = _ := e
  generalize whileM rcC (rcB (k + 3)) = W at *
  simp (implicitDefEqProofs := false) [e']
end K35

namespace K35
open PySem PySem.Spec L2 PV
def Pt.ok : Pt → Prop
  | .num n => szB n = true
  | .nam _ => True
  | .chs cs => ∀ q ∈ cs, szB q.2.2 = true
def Ins.ok (i : Ins) : Prop := ∀ p ∈ i.ps, p.ok
theorem toStr_num {n : Nat} (h : szB n = true) : toStr (.int (n : Nat)) = some (false, wD (TL.numL n)) := by
  have hn : n < 2 ^ 1920 := by
    have : n < 4294967296 := by unfold szB at h; exact of_decide_eq_true h
    exact Nat.lt_trans this (by decide)
  have hl : (n : Int).natAbs.log2 < 1920 := by
    rw [Int.natAbs_natCast]
    by_cases h0 : n = 0
    · subst h0; decide
    · exact (Nat.log2_lt h0).mpr hn
  show (if (n : Int).natAbs.log2 < 1920 then some (false, D.str (toString (n : Int))) else none) = _
  rw [if_pos hl]
  exact congrArg (fun z => some (false, D.str z)) (SX.num_S n)
theorem toStr_str {x : Str} : toStr (.str x) = some (false, .str x) := rfl
theorem jn_len {c : Nat} : ∀ {ws : List (List Nat)}, ws ≠ [] → (jn c ws).length + 1 = (ws.map (·.length)).sum + ws.length
  | [], h => absurd rfl h
  | [w], _ => by simp [jn, TL.joinL]
  | w :: q :: r, _ => by
    have ih := jn_len (c := c) (ws := q :: r) (by simp)
    rw [jn_cons (by simp)]
    simp only [List.length_append, List.length_cons, List.map_cons, List.sum_cons] at ih ⊢
    omega
theorem txts_words (ws : List (List Nat)) : txts (ws.map wD) = some (ws.map tx) := by
  have h := txts_map (ws.map tx)
  rw [List.map_map] at h
  exact h
theorem join_words {ws : List (List Nat)} (h0 : ws ≠ []) (h : (jn 32 ws).length + 2 ≤ sizeLine) : joinD (tx [32]) [.lst (ws.map wD)] = some (false, .str (tx (jn 32 ws))) := by
  have e : sizeLine = 16777216 := by decide +kernel
  have hj := jn_len (c := 32) h0
  have hm : (ws.map tx).map (·.length) = ws.map (·.length) := by rw [List.map_map]; exact List.map_congr_left fun w _ => tx_len w
  unfold joinD
  simp only [txts_words, Option.bind_some]
  rw [hm, tx_len, List.length_map, if_pos (by simp; omega), join_tx]
theorem put_tp3 {s : S} {i j k : Nat} {x y z : Slot} {a b c : D} (hi : s[i]? = some x) (hf : fre x = true) (hj : s[j]? = some y) (hg : fre y = true) (hk : s[k]? = some z) (hh : fre z = true) (hij : i ≠ j) (hik : i ≠ k) (hjk : j ≠ k) :
    (Tg.tp [.nm i, .nm j, .nm k]).put (.tup [a, b, c]) s = some (((s.set i (some (.sh, a))).set j (some (.sh, b))).set k (some (.sh, c))) := by
  simp only [Tg.put, Tg.puts]
  have e1 := put_fre (d := a) hi hf
  rw [Tg.put] at e1
  rw [e1]
  simp only [Option.bind_some]
  have e2 := put_fre (s := s.set i (some (.sh, a))) (d := b) (i := j) (x := y) (by rw [List.getElem?_set_ne hij]; exact hj) hg
  rw [Tg.put] at e2
  rw [e2]
  simp only [Option.bind_some]
  have e3 := put_fre (s := (s.set i (some (.sh, a))).set j (some (.sh, b))) (d := c) (i := k) (x := z) (by rw [List.getElem?_set_ne hjk, List.getElem?_set_ne hik]; exact hk) hh
  rw [Tg.put] at e3
  rw [e3]
  rfl
/-! ### write_instruction -/
noncomputable def wcB : M Fl := (dropM (growM extD 1 (lstM [(varM 3), (varM 4), (unM toStr (.sl 5))])))
theorem wc_loop {x0 x2 : Slot} : ∀ (cs : List (List Nat × List Nat × Nat)) (ws : List (List Nat)) (s3 s4 s5 : Slot), fre s3 = true → fre s4 = true → fre s5 = true → (∀ q ∈ cs, szB q.2.2 = true) → ws.length + (cs.flatMap cws).length ≤ sizeLine →
    ∃ s3' s4' s5', fre s3' = true ∧ fre s4' = true ∧ fre s5' = true ∧ forL (.tp [.nm 3, .nm 4, .nm 5]) wcB (cs.map chD) [x0, some (.ow, .lst (ws.map wD)), x2, s3, s4, s5] = .ok .nx [x0, some (.ow, .lst ((ws ++ cs.flatMap cws).map wD)), x2, s3', s4', s5']
  | [], ws, s3, s4, s5, f3, f4, f5, _, _ => ⟨s3, s4, s5, f3, f4, f5, by simp⟩
  | q :: cs, ws, s3, s4, s5, f3, f4, f5, hq, hz => by
    have hn := toStr_num (hq q List.mem_cons_self)
    have z3 : (3 : Nat) ≤ sizeLine := by decide
    have hz1 : ws.length + 3 ≤ sizeLine := by simp [cws] at hz; omega
    obtain ⟨a, b, c, fa, fb, fc, ih⟩ := wc_loop (x0 := x0) (x2 := x2) cs (ws ++ cws q) (some (.sh, wD q.1)) (some (.sh, wD q.2.1)) (some (.sh, .int q.2.2)) rfl rfl rfl (fun z m => hq z (List.mem_cons_of_mem _ m)) (by simp [cws] at hz ⊢; omega)
    refine ⟨a, b, c, fa, fb, fc, ?_⟩
    rw [List.map_cons, ev_for1, show chD q = .tup [wD q.1, wD q.2.1, .int q.2.2] from rfl, put_tp3 (x := s3) (y := s4) (z := s5) rfl f3 rfl f4 rfl f5 (by decide) (by decide) (by decide)]
    dsimp only
    have e : wcB (((([x0, some (.ow, .lst (ws.map wD)), x2, s3, s4, s5] : S).set 3 (some (.sh, wD q.1))).set 4 (some (.sh, wD q.2.1))).set 5 (some (.sh, .int q.2.2))) = .ok .nx [x0, some (.ow, .lst ((ws ++ cws q).map wD)), x2, some (.sh, wD q.1), some (.sh, wD q.2.1), some (.sh, .int q.2.2)] := by
      unfold wcB
      simp (implicitDefEqProofs := false) [hn, z3, extD, hz1, cws]
    rw [e, Res.bind_ok]
    show forL _ _ _ _ = _
    rw [ih]
    simp
noncomputable def wiB : M Fl := (iteM (truM (.ex (binM isiD (.sl 2) (.ex (constM (.ty "tuple")))))) (forM (itM (varM 2)) (.tp [(.nm 3), (.nm 4), (.nm 5)]) wcB) (dropM (growM appD 1 (unM toStr (.sl 2)))))
theorem wi_loop {x0 : Slot} : ∀ (ps : List Pt) (ws : List (List Nat)) (s2 s3 s4 s5 : Slot), fre s2 = true → fre s3 = true → fre s4 = true → fre s5 = true → (∀ p ∈ ps, p.ok) → ws.length + (ps.flatMap Pt.ws).length ≤ sizeLine →
    ∃ s2' s3' s4' s5', forL (.nm 2) wiB (ps.map Pt.d) [x0, some (.ow, .lst (ws.map wD)), s2, s3, s4, s5] = .ok .nx [x0, some (.ow, .lst ((ws ++ ps.flatMap Pt.ws).map wD)), s2', s3', s4', s5']
  | [], ws, s2, s3, s4, s5, f2, f3, f4, f5, _, _ => ⟨s2, s3, s4, s5, by simp⟩
  | p :: ps, ws, s2, s3, s4, s5, f2, f3, f4, f5, hp, hz => by
    have hp0 := hp p List.mem_cons_self
    have ep : (Tg.nm 2).put p.d [x0, some (.ow, .lst (ws.map wD)), s2, s3, s4, s5] = some [x0, some (.ow, .lst (ws.map wD)), some (.sh, p.d), s3, s4, s5] := put_fre (x := s2) rfl f2
    have key : ∃ s3' s4' s5', fre s3' = true ∧ fre s4' = true ∧ fre s5' = true ∧ wiB [x0, some (.ow, .lst (ws.map wD)), some (.sh, p.d), s3, s4, s5] = .ok .nx [x0, some (.ow, .lst ((ws ++ p.ws).map wD)), some (.sh, p.d), s3', s4', s5'] := by
      cases p with
      | num n =>
        have hn := toStr_num (n := n) hp0
        have hz1 : ws.length < sizeLine := by simp [Pt.ws] at hz; omega
        refine ⟨s3, s4, s5, f3, f4, f5, ?_⟩
        unfold wiB Pt.d Pt.ws
        simp (implicitDefEqProofs := false) [hn, hz1]
      | nam w =>
        have hz1 : ws.length < sizeLine := by simp [Pt.ws] at hz; omega
        refine ⟨s3, s4, s5, f3, f4, f5, ?_⟩
        unfold wiB Pt.d Pt.ws
        simp (implicitDefEqProofs := false) [toStr_str, hz1]
      | chs cs =>
        obtain ⟨a, b, c, fa, fb, fc, h⟩ := wc_loop (x0 := x0) (x2 := some (.sh, .tup (cs.map chD))) cs ws s3 s4 s5 f3 f4 f5 hp0 (by simp [Pt.ws] at hz; simp; omega)
        refine ⟨a, b, c, fa, fb, fc, ?_⟩
        unfold wiB Pt.d Pt.ws
        simp (implicitDefEqProofs := false) [h]
    obtain ⟨a, b, c, fa, fb, fc, h⟩ := key
    obtain ⟨d2, d3, d4, d5, ih⟩ := wi_loop (x0 := x0) ps (ws ++ p.ws) (some (.sh, p.d)) a b c rfl fa fb fc (fun z m => hp z (List.mem_cons_of_mem _ m)) (by simp at hz ⊢; omega)
    refine ⟨d2, d3, d4, d5, ?_⟩
    rw [List.map_cons, ev_for1, ep]
    dsimp only
    rw [h, Res.bind_ok]
    show forL _ _ _ _ = _
    rw [ih]
    simp
theorem sl_t {d : D} {ds : List D} : sliceD (some (1 : Int)) none (.tup (d :: ds)) = some (false, .tup ds) := by
  show some (false, D.tup (cutL (d :: ds) (some ((1 : Nat) : Int)) none)) = _
  unfold cutL
  rw [HT.sIx_nat, HT.sIx_none, Nat.min_eq_left (by simp), List.take_of_length_le (by simp)]
  rfl
theorem ws_len (i : Ins) : i.ws.length ≤ i.ln.length + 1 := by
  have := jn_len (c := 32) (ws := i.ws) (by simp [Ins.ws])
  unfold Ins.ln
  omega
theorem write_instr {k : Nat} {i : Ins} (hi : i.ok) (hz : i.ln.length + 2 ≤ sizeLine) : sem (k + 1) 0 [i.d] = .ret false (.str (tx (lineF i))) [] := by
  rw [se0]
  have hw := ws_len i
  obtain ⟨a, b, c, d, h⟩ := wi_loop (x0 := some (.sh, i.d)) i.ps [i.w] none none none none rfl rfl rfl rfl hi (by simp [Ins.ws] at hw ⊢; omega)
  have hj := join_words (ws := i.ws) (by simp [Ins.ws]) hz
  have z1 : (1 : Nat) ≤ sizeLine := by decide
  have a0 : atI (wD i.w :: i.ps.map Pt.d) 0 = some (wD i.w) := at_nat (n := 0)
  have ha : addD (.str (tx i.ln)) (.str (tx [10])) = some (false, .str (tx (lineF i))) := by
    rw [v_addS, if_pos (by simp; omega)]
    exact congrArg (fun z => some (false, D.str z)) (SX.S_cat i.ln [10])
  refine runF_rt (s := [some (.sh, i.d), some (.ow, .lst (i.ws.map wD)), a, b, c, d]) ?_ rfl rfl
  rw [show initS [] 6 [i.d] = [some (.sh, i.d), none, none, none, none, none] from rfl]
  have e0 : b0 (sem k) = (seqM (setM 1 (lstM [(binM ixD (.sl 0) (.ex (constM (.int 0))))])) (seqM (forM (itM (sliceM (.sl 0) (some (.ex (constM (.int 1)))) none)) (.nm 2) wiB) (retM (binM addD (.ex (methS joinD (.ex (constM (.str " "))) [(.sl 1)])) (.ex (constM (.str "\n"))))))) := rfl
  rw [e0, c_sp, c_nl]
  have h' : forL (.nm 2) wiB (i.ps.map Pt.d) [some (.sh, .tup (wD i.w :: i.ps.map Pt.d)), some (.ow, .lst [wD i.w]), none, none, none, none] = .ok .nx [some (.sh, .tup (wD i.w :: i.ps.map Pt.d)), some (.ow, .lst (i.ws.map wD)), a, b, c, d] := h
  unfold Ins.d
  unfold Ins.ln at ha
  generalize i.ws.map wD = W at hj h' ⊢
  simp (implicitDefEqProofs := false) [-v_addS, z1, a0, sl_t, h', hj, ha]
end K35

namespace K35
open PySem PySem.Spec L2 PV
/-! ### _law_line -/
noncomputable def lcB : M Fl := (setM 1 (binM addD (.sl 1) (.ex (lstM [(binM ixD (.sl 3) (.ex (constM (.int 0)))), (binM ixD (.sl 3) (.ex (constM (.int 1)))), (unM toStr (.ex (binM ixD (.sl 3) (.ex (constM (.int 2))))))]))))
theorem lc_loop {x0 x2 : Slot} : ∀ (cs : List (List Nat × List Nat × Nat)) (ws : List (List Nat)) (s3 : Slot), fre s3 = true → (∀ q ∈ cs, szB q.2.2 = true) → ws.length + (cs.flatMap cws).length ≤ sizeLine →
    ∃ s3', fre s3' = true ∧ forL (.nm 3) lcB (cs.map chD) [x0, some (.ow, .lst (ws.map wD)), x2, s3] = .ok .nx [x0, some (.ow, .lst ((ws ++ cs.flatMap cws).map wD)), x2, s3']
  | [], ws, s3, f3, _, _ => ⟨s3, f3, by simp⟩
  | q :: cs, ws, s3, f3, hq, hz => by
    have hn := toStr_num (hq q List.mem_cons_self)
    have z3 : (3 : Nat) ≤ sizeLine := by decide
    have hz1 : ws.length + 3 ≤ sizeLine := by simp [cws] at hz; omega
    obtain ⟨a, fa, ih⟩ := lc_loop (x0 := x0) (x2 := x2) cs (ws ++ cws q) (some (.sh, chD q)) rfl (fun z m => hq z (List.mem_cons_of_mem _ m)) (by simp [cws] at hz ⊢; omega)
    refine ⟨a, fa, ?_⟩
    rw [List.map_cons, ev_for1, put_fre (x := s3) rfl f3]
    dsimp only
    have e : lcB (([x0, some (.ow, .lst (ws.map wD)), x2, s3] : S).set 3 (some (.sh, chD q))) = .ok .nx [x0, some (.ow, .lst ((ws ++ cws q).map wD)), x2, some (.sh, chD q)] := by
      have a0 : atI [wD q.1, wD q.2.1, D.int q.2.2] 0 = some (wD q.1) := rfl
      have a1 : atI [wD q.1, wD q.2.1, D.int q.2.2] 1 = some (wD q.2.1) := rfl
      have a2 : atI [wD q.1, wD q.2.1, D.int q.2.2] 2 = some (.int q.2.2) := rfl
      unfold lcB chD
      simp (implicitDefEqProofs := false) [hn, z3, hz1, cws, a0, a1, a2]
    rw [e, Res.bind_ok]
    show forL _ _ _ _ = _
    rw [ih]
    simp
noncomputable def llB : M Fl := (iteM (truM (.ex (binM isiD (.sl 2) (.ex (constM (.ty "tuple")))))) (forM (itM (varM 2)) (.nm 3) lcB) (dropM (growM appD 1 (unM toStr (.sl 2)))))
theorem ll_loop {x0 : Slot} : ∀ (ps : List Pt) (ws : List (List Nat)) (s2 s3 : Slot), fre s2 = true → fre s3 = true → (∀ p ∈ ps, p.ok) → ws.length + (ps.flatMap Pt.ws).length ≤ sizeLine →
    ∃ s2' s3', forL (.nm 2) llB (ps.map Pt.d) [x0, some (.ow, .lst (ws.map wD)), s2, s3] = .ok .nx [x0, some (.ow, .lst ((ws ++ ps.flatMap Pt.ws).map wD)), s2', s3']
  | [], ws, s2, s3, f2, f3, _, _ => ⟨s2, s3, by simp⟩
  | p :: ps, ws, s2, s3, f2, f3, hp, hz => by
    have hp0 := hp p List.mem_cons_self
    have ep : (Tg.nm 2).put p.d [x0, some (.ow, .lst (ws.map wD)), s2, s3] = some [x0, some (.ow, .lst (ws.map wD)), some (.sh, p.d), s3] := put_fre (x := s2) rfl f2
    have key : ∃ s3', fre s3' = true ∧ llB [x0, some (.ow, .lst (ws.map wD)), some (.sh, p.d), s3] = .ok .nx [x0, some (.ow, .lst ((ws ++ p.ws).map wD)), some (.sh, p.d), s3'] := by
      cases p with
      | num n =>
        have hn := toStr_num (n := n) hp0
        have hz1 : ws.length < sizeLine := by simp [Pt.ws] at hz; omega
        refine ⟨s3, f3, ?_⟩
        unfold llB Pt.d Pt.ws
        simp (implicitDefEqProofs := false) [hn, hz1]
      | nam w =>
        have hz1 : ws.length < sizeLine := by simp [Pt.ws] at hz; omega
        refine ⟨s3, f3, ?_⟩
        unfold llB Pt.d Pt.ws
        simp (implicitDefEqProofs := false) [toStr_str, hz1]
      | chs cs =>
        obtain ⟨a, fa, h⟩ := lc_loop (x0 := x0) (x2 := some (.sh, .tup (cs.map chD))) cs ws s3 f3 hp0 (by simp [Pt.ws] at hz; simp; omega)
        refine ⟨a, fa, ?_⟩
        unfold llB Pt.d Pt.ws
        simp (implicitDefEqProofs := false) [h]
    obtain ⟨a, fa, h⟩ := key
    obtain ⟨d2, d3, ih⟩ := ll_loop (x0 := x0) ps (ws ++ p.ws) (some (.sh, p.d)) a rfl fa (fun z m => hp z (List.mem_cons_of_mem _ m)) (by simp at hz ⊢; omega)
    refine ⟨d2, d3, ?_⟩
    rw [List.map_cons, ev_for1, ep]
    dsimp only
    rw [h, Res.bind_ok]
    show forL _ _ _ _ = _
    rw [ih]
    simp
theorem law_line {k : Nat} {i : Ins} (hi : i.ok) (hz : i.ln.length + 2 ≤ sizeLine) : sem (k + 1) 13 [i.d] = .ret false (.str (tx (lineF i))) [] := by
  rw [se13]
  have hw := ws_len i
  obtain ⟨a, b, h⟩ := ll_loop (x0 := some (.sh, i.d)) i.ps [i.w] none none rfl rfl hi (by simp [Ins.ws] at hw ⊢; omega)
  have hj := join_words (ws := i.ws) (by simp [Ins.ws]) hz
  have z1 : (1 : Nat) ≤ sizeLine := by decide
  have a0 : atI (wD i.w :: i.ps.map Pt.d) 0 = some (wD i.w) := at_nat (n := 0)
  have ha : addD (.str (tx i.ln)) (.str (tx [10])) = some (false, .str (tx (lineF i))) := by
    rw [v_addS, if_pos (by simp; omega)]
    exact congrArg (fun z => some (false, D.str z)) (SX.S_cat i.ln [10])
  refine runF_rt (s := [some (.sh, i.d), some (.ow, .lst (i.ws.map wD)), a, b]) ?_ rfl rfl
  rw [show initS [] 4 [i.d] = [some (.sh, i.d), none, none, none] from rfl]
  have e0 : b13 (sem k) = (seqM (setM 1 (lstM [(binM ixD (.sl 0) (.ex (constM (.int 0))))])) (seqM (forM (itM (sliceM (.sl 0) (some (.ex (constM (.int 1)))) none)) (.nm 2) llB) (retM (binM addD (.ex (methS joinD (.ex (constM (.str " "))) [(.sl 1)])) (.ex (constM (.str "\n"))))))) := rfl
  rw [e0, c_sp, c_nl]
  have h' : forL (.nm 2) llB (i.ps.map Pt.d) [some (.sh, .tup (wD i.w :: i.ps.map Pt.d)), some (.ow, .lst [wD i.w]), none, none] = .ok .nx [some (.sh, .tup (wD i.w :: i.ps.map Pt.d)), some (.ow, .lst (i.ws.map wD)), a, b] := h
  unfold Ins.d
  unfold Ins.ln at ha
  generalize i.ws.map wD = W at hj h' ⊢
  simp (implicitDefEqProofs := false) [-v_addS, z1, a0, sl_t, h', hj, ha]
/-! ### texts of lines -/
theorem join_lines {is : List Ins} (h : (textF is).length + is.length + 2 ≤ sizeLine) : joinD (tx []) [.lst (is.map fun i => wD (lineF i))] = some (false, .str (tx (textF is))) := by
  have e : sizeLine = 16777216 := by decide +kernel
  have ht := txts_words (is.map lineF)
  rw [List.map_map] at ht
  have hm : ((is.map lineF).map tx).map (·.length) = (is.map lineF).map (·.length) := by rw [List.map_map (g := fun x : Str => x.length)]; exact List.map_congr_left fun w _ => tx_len w
  have hs : ((is.map lineF).map (·.length)).sum = (textF is).length := by unfold textF; rw [List.length_flatten]
  show (txts (is.map (wD ∘ lineF))).bind _ = _
  rw [ht, Option.bind_some, hm, hs, tx_len, if_pos (by simp; omega), join_tx0]
  rfl
/-- a comprehension of lines at slot i of s -/
theorem line_comp {k f i n : Nat} {s : S} (hi : s[i]? = some none) (hf : ∀ x : Ins, x.ok → x.ln.length + 2 ≤ sizeLine → sem (k + 1) f [x.d] = .ret false (.str (tx (lineF x))) []) : ∀ (is : List Ins) (acc : List D), (∀ x ∈ is, x.ok ∧ x.ln.length + 2 ≤ sizeLine) → acc.length + is.length ≤ sizeLine →
    lcL (.nm i) yesM (callM (sem (k + 1) f) [.ex (varM i)]) [i] (is.map Ins.d) acc s = .ok (acc ++ is.map fun x => wD (lineF x)) s
  | [], acc, _, _ => by simp [lcL]
  | x :: is, acc, hx, hz => by
    have h1 := hx x List.mem_cons_self
    have ih := line_comp (n := n) hi hf is (acc ++ [wD (lineF x)]) (fun y m => hx y (List.mem_cons_of_mem _ m)) (by simp at hz ⊢; omega)
    have hlt : acc.length < sizeLine := by simp at hz; omega
    have e1 : (Tg.nm i).put x.d s = some (s.set i (some (.sh, x.d))) := put_fre hi rfl
    have hl : i < s.length := (List.getElem?_eq_some_iff.mp hi).1
    have e2 : (s.set i (some (.sh, x.d)))[i]? = some (some (.sh, x.d)) := List.getElem?_set_self hl
    have e3 : (callM (sem (k + 1) f) [.ex (varM i)]) (s.set i (some (.sh, x.d))) = .ok (false, .str (tx (lineF x))) (s.set i (some (.sh, x.d))) := by
      simp (implicitDefEqProofs := false) [e2, hf x h1.1 h1.2, hl]
    have e4 : (s.set i (some (.sh, x.d))).set i none = s := by
      rw [List.set_set]
      refine List.ext_getElem? fun j => ?_
      by_cases hj : i = j
      · subst hj; rw [List.getElem?_set_self hl, hi]
      · rw [List.getElem?_set_ne hj]
    rw [List.map_cons, lcL, e1]
    simp (implicitDefEqProofs := false) only [ev_yes, nox, Res.bind_ok, if_true, e3, hlt, killAll, e4]
    rw [ih]
    simp
theorem write_code {k : Nat} {is : List Ins} (h : ∀ x ∈ is, x.ok ∧ x.ln.length + 2 ≤ sizeLine) (hz : (textF is).length + is.length + 2 ≤ sizeLine) : sem (k + 2) 1 [.tup (is.map Ins.d)] = .ret false (.str (tx (textF is))) [] := by
  rw [se1]
  have hc := line_comp (k := k) (f := 0) (i := 1) (n := 0) (s := [some (.sh, .tup (is.map Ins.d)), none]) rfl (fun x h1 h2 => write_instr h1 h2) is [] h (by simp; omega)
  have hj := join_lines hz
  refine runF_rt (s := [some (.sh, .tup (is.map Ins.d)), none]) ?_ rfl rfl
  rw [show initS [] 2 [.tup (is.map Ins.d)] = [some (.sh, .tup (is.map Ins.d)), none] from rfl]
  unfold b1
  rw [c_e]
  rw [List.nil_append] at hc
  simp (implicitDefEqProofs := false) [-ev_call, killAll, hc, hj]
end K35

namespace K35
open PySem PySem.Spec L2 PV
/-! ### the drawn instructions -/
theorem take {k : Nat} {d : D} {m : Int} (h : Tape d) (h3 : 0 < m) (h4 : m < 1073741824) : ∃ (r : Int) (d' : D), 0 ≤ r ∧ r < m ∧ Tape d' ∧ sem (k + 1) 8 [d, .int m] = .ret false (.int r) [d'] := take_run h h3 h4
abbrev cp (x : Str) : List Nat := x.cps.toList
def namesL : List (List Nat) := [cp "n", cp "m_1", cp "Total"]
def goalsL : List Nat := [0, 7, 4294967295]
def testsL : List (List Nat) := [cp "yes", cp "no"]
def labsL : List (List Nat) := [cp "go", cp "no", cp "x9"]
def chF (m : Nat) (nm : List Nat) (g : Nat) : List (List Nat × List Nat × Nat) := (labsL.take m).map fun a => (a, nm, g)
def menuF (nm : List Nat) (g : Nat) (cs : List (List Nat × List Nat × Nat)) (t : List Nat) : List Ins :=
  [⟨cp "push", [.num g]⟩, ⟨cp "load", [.nam nm]⟩, ⟨cp "store", [.nam nm]⟩, ⟨cp "add", []⟩, ⟨cp "sub", []⟩, ⟨cp "mul", []⟩, ⟨cp "less", []⟩, ⟨cp "same", []⟩,
   ⟨cp "jump", [.num g]⟩, ⟨cp "zero", [.num g]⟩, ⟨cp "emit", [.nam (cp "b"), .nam nm]⟩, ⟨cp "wait", [.nam (cp "b"), .chs cs]⟩, ⟨cp "input", [.nam nm]⟩,
   ⟨cp "round", [.num 3, .num g]⟩, ⟨cp "yes", [.num 3]⟩, ⟨cp "no", [.num 12]⟩, ⟨cp "test", [.nam t]⟩, ⟨cp "stop", []⟩]
def okP : Pt → Bool
  | .num n => szB n
  | .nam _ => true
  | .chs cs => cs.all fun q => szB q.2.2
def goodB (x : Ins) : Bool := decide (RL x.ln = some x) && (!x.ln.contains 10 && (x.ps.all okP && (decide (x.ps.length ≤ 3) && decide (x.ln.length ≤ 70))))
theorem all_good : (namesL.all fun nm => goalsL.all fun g => [1, 2, 3].all fun m => testsL.all fun t => (menuF nm g (chF m nm g) t).all goodB) = true := by decide +kernel
structure GoodX (x : Ins) : Prop where
  g : Good x
  ok : x.ok
  few : x.ps.length ≤ 3
  len : x.ln.length ≤ 70
theorem good_of {x : Ins} (h : goodB x = true) : GoodX x := by
  unfold goodB at h
  simp only [Bool.and_eq_true, decide_eq_true_eq, Bool.not_eq_true', List.contains_eq_mem, decide_eq_false_iff_not] at h
  refine ⟨⟨h.1, h.2.1⟩, fun p m => ?_, h.2.2.2.1, h.2.2.2.2⟩
  have := List.all_eq_true.mp h.2.2.1 p m
  cases p with
  | num n => exact this
  | nam w => trivial
  | chs cs => exact fun q hq => List.all_eq_true.mp this q hq
theorem pick {α : Type} {f : α → D} {xs : List α} {r : Int} (h0 : 0 ≤ r) (h1 : r < xs.length) : ∃ x, x ∈ xs ∧ ixD (.lst (xs.map f)) (.int r) = some (false, f x) := by
  obtain ⟨n, rfl⟩ := Int.eq_ofNat_of_zero_le h0
  have hn : n < xs.length := by omega
  refine ⟨xs[n], List.getElem_mem hn, ?_⟩
  rw [v_ixL, at_nat, List.getElem?_map, List.getElem?_eq_getElem hn]; rfl
noncomputable def inA (k : Nat) : M Fl := (seqM (setM 1 (binM ixD (.ex (lstM [(constM (.str "n")), (constM (.str "m_1")), (constM (.str "Total"))])) (.ex (callM (sem k 8) [.sl 0, .ex (constM (.int 3))]))))
    (setM 2 (binM ixD (.ex (lstM [(constM (.int 0)), (constM (.int 7)), (constM (.int 4294967295))])) (.ex (callM (sem k 8) [.sl 0, .ex (constM (.int 3))])))))
noncomputable def inC (k : Nat) : M Fl := (setM 3 (unM toTup (.ex (compM (rng1M (binM addD (.ex (constM (.int 1))) (.ex (callM (sem k 8) [.sl 0, .ex (constM (.int 3))])))) (.nm 5) yesM (tupM [(binM ixD (.ex (lstM [(constM (.str "go")), (constM (.str "no")), (constM (.str "x9"))])) (.sl 5)), (varM 1), (varM 2)]) [5]))))
noncomputable def inM (k : Nat) : M Fl := (seqM (setM 4 (lstM [(tupM [(constM (.str "push")), (varM 2)]), (tupM [(constM (.str "load")), (varM 1)]), (tupM [(constM (.str "store")), (varM 1)]), (tupM [(constM (.str "add"))]), (tupM [(constM (.str "sub"))]), (tupM [(constM (.str "mul"))]), (tupM [(constM (.str "less"))]), (tupM [(constM (.str "same"))])]))
    (seqM (setM 4 (binM addD (.sl 4) (.ex (lstM [(tupM [(constM (.str "jump")), (varM 2)]), (tupM [(constM (.str "zero")), (varM 2)]), (tupM [(constM (.str "emit")), (constM (.str "b")), (varM 1)]), (tupM [(constM (.str "wait")), (constM (.str "b")), (varM 3)]), (tupM [(constM (.str "input")), (varM 1)])]))))
    (seqM (setM 4 (binM addD (.sl 4) (.ex (lstM [(tupM [(constM (.str "round")), (constM (.int 3)), (varM 2)]), (tupM [(constM (.str "yes")), (constM (.int 3))]), (tupM [(constM (.str "no")), (constM (.int 12))]), (tupM [(constM (.str "test")), (binM ixD (.ex (lstM [(constM (.str "yes")), (constM (.str "no"))])) (.ex (callM (sem k 8) [.sl 0, .ex (constM (.int 2))])))]), (tupM [(constM (.str "stop"))])]))))
    (retM (binM ixD (.sl 4) (.ex (callM (sem k 8) [.sl 0, .ex (constM (.int 18))])))))))
theorem in_a {k : Nat} {d : D} (h : Tape d) : ∃ (nm : List Nat) (g : Nat) (d' : D), nm ∈ namesL ∧ g ∈ goalsL ∧ Tape d' ∧ inA (k + 1) [some (.io, d), none, none, none, none, none] = .ok .nx [some (.io, d'), some (.sh, wD nm), some (.sh, .int g), none, none, none] := by
  obtain ⟨r1, d1, a1, b1, t1, e1⟩ := take (k := k) (m := 3) h (by decide) (by decide)
  obtain ⟨r2, d2, a2, b2, t2, e2⟩ := take (k := k) (m := 3) t1 (by decide) (by decide)
  obtain ⟨nm, hn, p1⟩ := pick (f := wD) (xs := namesL) a1 b1
  obtain ⟨g, hg, p2⟩ := pick (f := fun n : Nat => D.int n) (xs := goalsL) a2 b2
  have p1' : ixD (.lst [.str "n", .str "m_1", .str "Total"]) (.int r1) = some (false, wD nm) := p1
  have p2' : ixD (.lst [.int 0, .int 7, .int 4294967295]) (.int r2) = some (false, .int g) := p2
  have z3 : (3 : Nat) ≤ sizeLine := by decide
  refine ⟨nm, g, d2, hn, hg, t2, ?_⟩
  unfold inA
  simp (implicitDefEqProofs := false) [-v_ixL, e1, e2, p1', p2', z3]
theorem in_c {k : Nat} {d : D} {nm : List Nat} {g : Nat} (h : Tape d) : ∃ (m : Nat) (d' : D), m ∈ [1, 2, 3] ∧ Tape d' ∧ inC (k + 1) [some (.io, d), some (.sh, wD nm), some (.sh, .int g), none, none, none] = .ok .nx [some (.io, d'), some (.sh, wD nm), some (.sh, .int g), some (.sh, .tup ((chF m nm g).map chD)), none, none] := by
  obtain ⟨r1, d1, a1, b1, t1, e1⟩ := take (k := k) (m := 3) h (by decide) (by decide)
  have z3 : (3 : Nat) ≤ sizeLine := by decide
  have z0 : (0 : Nat) < sizeLine := by decide
  have z1 : (1 : Nat) < sizeLine := by decide
  have z2 : (2 : Nat) < sizeLine := by decide
  have i0 : ixD (.lst [.str "go", .str "no", .str "x9"]) (.int 0) = some (false, wD (cp "go")) := rfl
  have i1 : ixD (.lst [.str "go", .str "no", .str "x9"]) (.int 1) = some (false, wD (cp "no")) := rfl
  have i2 : ixD (.lst [.str "go", .str "no", .str "x9"]) (.int 2) = some (false, wD (cp "x9")) := rfl
  have hr : r1 = 0 ∨ r1 = 1 ∨ r1 = 2 := by omega
  rcases hr with rfl | rfl | rfl
  · have r : rngD (.int 1) = some [.int 0] := by rw [rng_int (by decide) (by decide)]; rfl
    have hc : (chF 1 nm g).map chD = [.tup [wD (cp "go"), wD nm, .int g]] := rfl
    refine ⟨1, d1, by simp, t1, ?_⟩
    rw [hc]
    unfold inC
    simp (implicitDefEqProofs := false) [-v_ixL, e1, z3, z0, r, i0, i1, i2, lcL, killAll, nox, toTup]
  · have r : rngD (.int 2) = some [.int 0, .int 1] := by rw [rng_int (by decide) (by decide)]; rfl
    have hc : (chF 2 nm g).map chD = [.tup [wD (cp "go"), wD nm, .int g], .tup [wD (cp "no"), wD nm, .int g]] := rfl
    refine ⟨2, d1, by simp, t1, ?_⟩
    rw [hc]
    unfold inC
    simp (implicitDefEqProofs := false) [-v_ixL, e1, z3, z0, z1, r, i0, i1, i2, lcL, killAll, nox, toTup]
  · have r : rngD (.int 3) = some [.int 0, .int 1, .int 2] := by rw [rng_int (by decide) (by decide)]; rfl
    have hc : (chF 3 nm g).map chD = [.tup [wD (cp "go"), wD nm, .int g], .tup [wD (cp "no"), wD nm, .int g], .tup [wD (cp "x9"), wD nm, .int g]] := rfl
    refine ⟨3, d1, by simp, t1, ?_⟩
    rw [hc]
    unfold inC
    simp (implicitDefEqProofs := false) [-v_ixL, e1, z3, z0, z1, z2, r, i0, i1, i2, lcL, killAll, nox, toTup]
theorem in_m {k : Nat} {d : D} {nm : List Nat} {g m : Nat} (h : Tape d) : ∃ (t : List Nat) (x : Ins) (d' : D) (s : S), t ∈ testsL ∧ x ∈ menuF nm g (chF m nm g) t ∧ Tape d' ∧ inM (k + 1) [some (.io, d), some (.sh, wD nm), some (.sh, .int g), some (.sh, .tup ((chF m nm g).map chD)), none, none] = .ok (.rt false x.d) (some (.io, d') :: s) := by
  obtain ⟨r1, d1, a1, b1, t1, e1⟩ := take (k := k) (m := 2) h (by decide) (by decide)
  obtain ⟨r2, d2, a2, b2, t2, e2⟩ := take (k := k) (m := 18) t1 (by decide) (by decide)
  obtain ⟨t, ht, p1⟩ := pick (f := wD) (xs := testsL) a1 b1
  obtain ⟨x, hx, p2⟩ := pick (f := Ins.d) (xs := menuF nm g (chF m nm g) t) a2 b2
  have p1' : ixD (.lst [.str "yes", .str "no"]) (.int r1) = some (false, wD t) := p1
  have z1 : (1 : Nat) ≤ sizeLine := by decide
  have z2 : (2 : Nat) ≤ sizeLine := by decide
  have z3 : (3 : Nat) ≤ sizeLine := by decide
  have z5 : (5 : Nat) ≤ sizeLine := by decide
  have z8 : (8 : Nat) ≤ sizeLine := by decide
  have z13 : (13 : Nat) ≤ sizeLine := by decide
  have z18 : (18 : Nat) ≤ sizeLine := by decide
  generalize hC : D.tup ((chF m nm g).map chD) = C at *
  have em : (menuF nm g (chF m nm g) t).map Ins.d = [.tup [.str "push", .int g], .tup [.str "load", wD nm], .tup [.str "store", wD nm], .tup [.str "add"], .tup [.str "sub"], .tup [.str "mul"], .tup [.str "less"], .tup [.str "same"],
     .tup [.str "jump", .int g], .tup [.str "zero", .int g], .tup [.str "emit", .str "b", wD nm], .tup [.str "wait", .str "b", C], .tup [.str "input", wD nm],
     .tup [.str "round", .int 3, .int g], .tup [.str "yes", .int 3], .tup [.str "no", .int 12], .tup [.str "test", wD t], .tup [.str "stop"]] := by
    subst hC; rfl
  rw [em] at p2
  refine ⟨t, x, d2, [some (.sh, wD nm), some (.sh, .int g), some (.sh, C), some (.ow, .lst ((menuF nm g (chF m nm g) t).map Ins.d)), none], ht, hx, t2, ?_⟩
  rw [em]
  unfold inM
  simp (implicitDefEqProofs := false) [-v_ixL, e1, e2, p1', p2, z1, z2, z3, z5, z8, z13, z18]
theorem instr {k : Nat} {d : D} (h : Tape d) : ∃ (x : Ins) (d' : D), GoodX x ∧ Tape d' ∧ sem (k + 2) 12 [d] = .ret false x.d [d'] := by
  obtain ⟨nm, g, d1, hn, hg, t1, e1⟩ := in_a (k := k) h
  obtain ⟨m, d2, hm, t2, e2⟩ := in_c (k := k) (nm := nm) (g := g) t1
  obtain ⟨t, x, d3, s, ht, hx, t3, e3⟩ := in_m (k := k) (nm := nm) (g := g) (m := m) t2
  have hg2 := List.all_eq_true.mp (List.all_eq_true.mp (List.all_eq_true.mp (List.all_eq_true.mp (List.all_eq_true.mp all_good nm hn) g hg) m hm) t ht) x hx
  refine ⟨x, d3, good_of hg2, t3, ?_⟩
  rw [se12]
  refine runF_rt (s := some (.io, d3) :: s) ?_ rfl rfl
  rw [show initS [0] 6 [d] = [some (.io, d), none, none, none, none, none] from rfl]
  have eb : b12 (sem (k + 1)) [some (.io, d), none, none, none, none, none] = (inA (k + 1) [some (.io, d), none, none, none, none, none]).bind fun fl s' => match fl with
    | .nx => seqM (inC (k + 1)) (inM (k + 1)) s'
    | fl => .ok fl s' := by
    unfold inA
    rw [ev_seq]
    show seqM _ (seqM _ _) _ = _
    rw [ev_seq]
    cases (setM 1 (binM ixD (.ex (lstM [(constM (.str "n")), (constM (.str "m_1")), (constM (.str "Total"))])) (.ex (callM (sem (k + 1) 8) [.sl 0, .ex (constM (.int 3))])))) [some (.io, d), none, none, none, none, none] with
    | ok fl s => cases fl <;> rfl
    | exc x s => rfl
    | stuck => rfl
  rw [eb, e1, Res.bind_ok]
  show seqM (inC (k + 1)) (inM (k + 1)) _ = _
  rw [ev_seq, e2, Res.bind_ok]
  exact e3
end K35

namespace K35
open PySem PySem.Spec L2 PV
/-! ### bent texts, reading with both ends -/
theorem cut_tx {l : List Nat} (lo hi : Option Int) (hl : l.length ≤ sizeLine) : sliceD lo hi (.str (tx l)) = some (false, .str (tx (cutL l lo hi))) := by
  show (if (tx l).length ≤ sizeLine then some (false, D.str (cutS (tx l) lo hi)) else none) = _
  rw [if_pos (by simpa using hl)]
  have : cutS (tx l) lo hi = tx (cutL l lo hi) := by
    unfold cutS cutL
    rw [tx_len]; rfl
  rw [this]
theorem cutL_len {α : Type} (l : List α) (lo hi : Option Int) : (cutL l lo hi).length ≤ l.length := by
  unfold cutL; simp; omega
theorem add_tx {a b : List Nat} (h : a.length + b.length ≤ sizeLine) : addD (.str (tx a)) (.str (tx b)) = some (false, .str (tx (a ++ b))) := by
  rw [v_addS, if_pos (by simpa using h)]
  exact congrArg (fun z => some (false, D.str z)) (SX.S_cat a b)
@[simp] theorem ev_sl_h (a h : Opd) (s : S) : sliceM a none (some h) s = opsM [a, .ex (intM h)] (fun ds s => match ds with
    | [x, .int j] => (match sliceD none (some j) x with | some r => .ok r s | none => .stuck)
    | _ => .stuck) s := rfl
def moreL : List (List Nat) := [cp "", cp " ", cp "\n", cp "7", cp "0", cp "x", cp "go no 1", cp "-", cp "4294967296", cp "push 1\n", cp "yes", cp "_"]
theorem more_len : ∀ w ∈ moreL, w.length ≤ 10 := by decide +kernel
theorem bent {k : Nat} {d : D} {l : List Nat} (h : Tape d) (hl : l.length ≤ 3000) : ∃ (m : List Nat) (d' : D), m.length ≤ 7000 ∧ Tape d' ∧ sem (k + 2) 14 [d, .str (tx l)] = .ret false (.str (tx m)) [d'] := by
  have hz : l.length ≤ sizeLine := Nat.le_trans hl (by decide)
  obtain ⟨r1, d1, a1, b1, t1, e1⟩ := take (k := k) (m := (l.length : Int) + 1) h (by omega) (by omega)
  obtain ⟨r2, d2, a2, b2, t2, e2⟩ := take (k := k) (m := 12) t1 (by decide) (by decide)
  obtain ⟨r3, d3, a3, b3, t3, e3⟩ := take (k := k) (m := 6) t2 (by decide) (by decide)
  obtain ⟨w, hw, p⟩ := pick (f := wD) (xs := moreL) a2 b2
  have p' : ixD (.lst [.str "", .str " ", .str "\n", .str "7", .str "0", .str "x", .str "go no 1", .str "-", .str "4294967296", .str "push 1\n", .str "yes", .str "_"]) (.int r2) = some (false, wD w) := p
  have hwl := more_len w hw
  have z12 : (12 : Nat) ≤ sizeLine := by decide
  have i0 : initS [0] 4 [d, .str (tx l)] = [some (.io, d), some (.sh, .str (tx l)), none, none] := rfl
  by_cases h0 : r3 = 0
  · subst h0
    have c1 := cut_tx none (some (-1)) hz
    have q1 := cutL_len l none (some (-1))
    refine ⟨cutL l none (some (-1)), d3, by omega, t3, ?_⟩
    rw [se14]
    refine runF_rt (s := [some (.io, d3), some (.sh, .str (tx l)), some (.sh, .int r1), some (.sh, wD w)]) ?_ rfl rfl
    rw [i0]
    unfold b14
    simp (implicitDefEqProofs := false) [-v_ixL, t_len hz, e1, e2, e3, p', z12, c1]
  · obtain ⟨r4, d4, a4, b4', t4, e4⟩ := take (k := k) (m := 3) t3 (by decide) (by decide)
    have c1 := cut_tx none (some r1) hz
    have c2 := cut_tx (some (r1 + r4)) none hz
    have q1 := cutL_len l none (some r1)
    have q2 := cutL_len l (some (r1 + r4)) none
    have z7 : (7000 : Nat) ≤ sizeLine := by decide
    have s1 := add_tx (a := cutL l none (some r1)) (b := w) (by omega)
    have s2 := add_tx (a := cutL l none (some r1) ++ w) (b := cutL l (some (r1 + r4)) none) (by simp; omega)
    refine ⟨(cutL l none (some r1) ++ w) ++ cutL l (some (r1 + r4)) none, d4, by simp; omega, t4, ?_⟩
    rw [se14]
    refine runF_rt (s := [some (.io, d4), some (.sh, .str (tx l)), some (.sh, .int r1), some (.sh, wD w)]) ?_ rfl rfl
    rw [i0]
    unfold b14
    simp (implicitDefEqProofs := false) [-v_ixL, -v_addS, t_len hz, e1, e2, e3, e4, p', z12, c1, c2, s1, s2, h0]
theorem read_ok {k : Nat} {l : List Nat} (hl : l.length + 2 ≤ sizeLine) {xs : List Ins} (h : Rdl l 0 xs none) : sem (k + 5) 15 [.str (tx l)] = .ret false (.tup [.str "code", .tup (xs.map Ins.d)]) [] := by
  rw [se15]
  have e := read_code_ok (k := k) hl h
  have z2 : (2 : Nat) ≤ sizeLine := by decide
  refine runF_rt (s := [some (.sh, .str (tx l)), none]) ?_ rfl rfl
  rw [show initS [] 2 [.str (tx l)] = [some (.sh, .str (tx l)), none] from rfl]
  unfold b15 tryAsM
  simp (implicitDefEqProofs := false) [e, z2]
theorem mt_yes : mt_SyntaxProblem "SyntaxProblem" = some true := by decide +kernel
theorem read_wrong {k p : Nat} {l : List Nat} (hl : l.length + 2 ≤ sizeLine) {xs : List Ins} (h : Rdl l 0 xs (some p)) : sem (k + 5) 15 [.str (tx l)] = .ret false (.tup [.str "wrong", .int p]) [] := by
  rw [se15]
  have e := read_code_wrong (k := k) hl h
  refine runF_rt (s := [some (.sh, .str (tx l)), none]) ?_ rfl rfl
  rw [show initS [] 2 [.str (tx l)] = [some (.sh, .str (tx l)), none] from rfl]
  have eb : (retM (tupM [(constM (.str "code")), (callM (sem (k + 4) 6) [.ex (varM 0)])])) [some (.sh, .str (tx l)), none] = .exc (wrong p) [some (.sh, .str (tx l)), none] := by
    simp (implicitDefEqProofs := false) [e]
  have el : (wrong p).fs.lookup ("start" : Str) = some (D.int p) := by
    show (match ("start" : Str) == ("start" : Str) with | true => some (D.int p) | false => none) = _
    rw [beq_self_eq_true]
  unfold b15 tryAsM
  rw [eb]
  dsimp only
  rw [show (wrong p).cls = ("SyntaxProblem" : Str) from rfl, mt_yes, el]
  rfl
end K35

namespace K35
open PySem PySem.Spec L2 PV
/-! ### x in a list -/
theorem flts_ints : ∀ ps : List Nat, flts (ps.map fun j => D.int (j : Nat)) = some (ps.map fun j => V.int (j : Nat))
  | [] => rfl
  | p :: ps => by
    rw [List.map_cons, flts, flts_ints ps]; rfl
theorem in_ints {n : Bool} {p : Nat} {ps : List Nat} : inD n (.int p) (.lst (ps.map fun j => D.int (j : Nat))) = some (false, .bl (if n then !decide (p ∈ ps) else decide (p ∈ ps))) := by
  have e : inV (.int p) (ps.map fun j => V.int (j : Nat)) = decide (p ∈ ps) := by
    unfold inV
    rw [Bool.eq_iff_iff, List.any_eq_true, decide_eq_true_eq]
    constructor
    · rintro ⟨y, m, h⟩
      obtain ⟨j, mj, rfl⟩ := List.mem_map.mp m
      have h : ((j : Int) == (p : Int)) = true := h
      have : j = p := by rw [beq_iff_eq] at h; omega
      exact this ▸ mj
    · intro m
      exact ⟨_, List.mem_map.mpr ⟨p, m, rfl⟩, by show ((p : Int) == (p : Int)) = true; simp⟩
  unfold inD
  simp only [flts_ints]
  rw [show (D.int (p : Nat)).flt = some (V.int (p : Nat)) from rfl]
  simp only [Option.bind_some, Option.map_some, e]
theorem flts_words : ∀ ws : List (List Nat), flts (ws.map wD) = some (ws.map fun w => V.str (tx w))
  | [] => rfl
  | w :: ws => by
    rw [List.map_cons, flts, flts_words ws]; rfl
theorem in_words {n : Bool} {w : List Nat} {ws : List (List Nat)} : inD n (wD w) (.lst (ws.map wD)) = some (false, .bl (if n then !decide (w ∈ ws) else decide (w ∈ ws))) := by
  have e : inV (.str (tx w)) (ws.map fun w => V.str (tx w)) = decide (w ∈ ws) := by
    unfold inV
    rw [Bool.eq_iff_iff, List.any_eq_true, decide_eq_true_eq]
    constructor
    · rintro ⟨y, m, h⟩
      obtain ⟨v, mj, rfl⟩ := List.mem_map.mp m
      have h : (tx v == tx w) = true := h
      rw [beq_iff_eq, tx_inj] at h
      exact h ▸ mj
    · intro m
      exact ⟨_, List.mem_map.mpr ⟨w, m, rfl⟩, by show (tx w == tx w) = true; simp⟩
  unfold inD
  simp only [flts_words]
  rw [show (D.str (tx w)).flt = some (V.str (tx w)) from rfl]
  simp only [Option.bind_some, Option.map_some, e]
/-! ### what reading gives may be written -/
theorem chs_ok : ∀ {ws : List (List Nat)} {cs : List (List Nat × List Nat × Nat)}, chs? ws = some cs → ∀ q ∈ cs, szB q.2.2 = true
  | [], _, h => by cases h; simp
  | [_], _, h => by cases h
  | [_, _], _, h => by cases h
  | a :: b :: n :: r, cs, h => by
    rw [chs?] at h
    split at h
    · obtain ⟨g, e1, e2⟩ := Option.bind_eq_some_iff.mp h
      obtain ⟨cs', e3, e4⟩ := Option.map_eq_some_iff.mp e2
      subst e4
      intro q m
      rcases List.mem_cons.mp m with rfl | m
      · unfold num? at e1
        split at e1
        · cases e1
        · split at e1
          · rename_i hs
            cases e1; exact hs
          · cases e1
      · exact chs_ok e3 q m
    · cases h
theorem num_ok {w : List Nat} {n : Nat} (h : num? w = some n) : szB n = true := by
  unfold num? at h
  split at h
  · cases h
  · split at h
    · rename_i hs
      cases h; exact hs
    · cases h
theorem part_ok {s : Nat} {w : List Nat} {p : Pt} (h : part? s w = some p) : p.ok := by
  unfold part? at h
  split at h
  · obtain ⟨g, e1, e2⟩ := Option.map_eq_some_iff.mp h
    subst e2
    exact num_ok e1
  · split at h
    · cases h; trivial
    · cases h
theorem parts_ok : ∀ {ss : List Nat} {ws : List (List Nat)} {ps : List Pt}, parts? ss ws = some ps → ∀ p ∈ ps, p.ok
  | [], _, _, h => by cases h; simp
  | _ :: _, [], _, h => by cases h; simp
  | s :: ss, w :: ws, ps, h => by
    rw [parts?] at h
    obtain ⟨p, e1, e2⟩ := Option.bind_eq_some_iff.mp h
    obtain ⟨ps', e3, e4⟩ := Option.map_eq_some_iff.mp e2
    subst e4
    intro q m
    rcases List.mem_cons.mp m with rfl | m
    · exact part_ok e1
    · exact parts_ok e3 q m
theorem R_ok {l : List Nat} {i : Ins} (h : RL l = some i) : i.ok := by
  unfold RL at h
  cases hs : sp 32 l with
  | nil => exact absurd hs (sp_ne 32 l)
  | cons w ws =>
    rw [hs, R0.eq_def] at h
    dsimp only at h
    obtain ⟨sh, e1, e2⟩ := Option.bind_eq_some_iff.mp h
    split at e2
    · split at e2
      · rename_i b r
        obtain ⟨cs, e3, e4⟩ := Option.bind_eq_some_iff.mp e2
        split at e4
        · cases e4
          unfold chs1? at e3
          split at e3
          · cases e3
          · intro p m
            rcases List.mem_cons.mp m with rfl | m
            · trivial
            · rw [List.mem_singleton.mp m]
              exact chs_ok e3
        · cases e4
      · cases e2
    · split at e2
      · cases e2
      · obtain ⟨ps, e3, e4⟩ := Option.map_eq_some_iff.mp e2
        subst e4
        exact parts_ok e3
theorem rd_ok {l : List Nat} {i : Nat} {xs : List Ins} {o : Option Nat} (h : Rdl l i xs o) : ∀ x ∈ xs, x.ok ∧ x.ln.length ≤ l.length := by
  induction h with
  | fin _ => simp
  | cut _ _ => simp
  | bad _ _ _ => simp
  | one h1 h2 h3 _ ih =>
    intro x m
    rcases List.mem_cons.mp m with rfl | m
    · refine ⟨R_ok h3, ?_⟩
      rw [R_back h3]
      simp; omega
    · exact ih x m
theorem rd_len {l : List Nat} {i : Nat} {xs : List Ins} {o : Option Nat} (h : Rdl l i xs o) : i ≤ l.length → xs.length ≤ l.length - i := by
  induction h with
  | fin _ => simp
  | cut _ _ => simp
  | bad _ _ _ => simp
  | @one i x xs o h1 h2 h3 _ ih =>
    intro hi
    have h0 := nextAt_ge (l := l) (c := 10) (i := i)
    have := ih (by omega)
    simp only [List.length_cons]
    omega
/-! ### the code drawn -/
def nio : Slot → Bool
  | some (.io, _) => false
  | _ => true
theorem code_loop {k : Nat} {x0 : Slot} : ∀ (n : Nat) (js : List D) (acc : List D) (d : D), js.length = n → Tape d → acc.length + n ≤ sizeLine → ∃ (is : List Ins) (d' : D), (∀ x ∈ is, GoodX x) ∧ is.length = n ∧ Tape d' ∧
    lcL (.nm 4) yesM (callM (sem (k + 2) 12) [.sl 1]) [4] js acc [x0, some (.ow, d), none, none, none, none, none, none, none, none, none, none, none] = .ok (acc ++ is.map Ins.d) [x0, some (.ow, d'), none, none, none, none, none, none, none, none, none, none, none]
  | 0, js, acc, d, hj, t, _ => by
    cases js with
    | nil => exact ⟨[], d, by simp, rfl, t, by simp [lcL]⟩
    | cons _ _ => simp at hj
  | n + 1, js, acc, d, hj, t, hz => by
    cases js with
    | nil => simp at hj
    | cons j js =>
      obtain ⟨x, d1, gx, t1, e1⟩ := instr (k := k) t
      obtain ⟨is, d2, g2, l2, t2, ih⟩ := code_loop (k := k) (x0 := x0) n js (acc ++ [x.d]) d1 (by simpa using hj) t1 (by simp; omega)
      have hlt : acc.length < sizeLine := by omega
      refine ⟨x :: is, d2, fun y m => ?_, by simp [l2], t2, ?_⟩
      · rcases List.mem_cons.mp m with rfl | m
        · exact gx
        · exact g2 y m
      · have e2 : (callM (sem (k + 2) 12) [.sl 1]) [x0, some (.ow, d), none, none, some (.sh, j), none, none, none, none, none, none, none, none] = .ok (false, x.d) [x0, some (.ow, d1), none, none, some (.sh, j), none, none, none, none, none, none, none, none] := by
          simp (implicitDefEqProofs := false) [e1]
        have e3 : (Tg.nm 4).put j [x0, some (.ow, d), none, none, none, none, none, none, none, none, none, none, none] = some [x0, some (.ow, d), none, none, some (.sh, j), none, none, none, none, none, none, none, none] := by rw [Tg.put]; rfl
        rw [lcL, e3]
        simp (implicitDefEqProofs := false) only [ev_yes, nox, Res.bind_ok, if_true, e2, hlt, killAll]
        show lcL _ _ _ _ _ _ [x0, some (.ow, d1), none, none, none, none, none, none, none, none, none, none, none] = _
        rw [ih]
        simp
theorem lines_len : ∀ {is : List Ins}, (∀ x ∈ is, GoodX x) → (textF is).length ≤ 71 * is.length
  | [], _ => by simp [textF]
  | x :: is, h => by
    have h1 := (h x List.mem_cons_self).len
    have h2 := lines_len (is := is) fun y m => h y (List.mem_cons_of_mem _ m)
    have e : textF (x :: is) = lineF x ++ textF is := by simp [textF]
    rw [e]
    simp [lineF]
    omega
theorem pl_ch {q : List Nat × List Nat × Nat} : pl 2 (chD q) = true := by
  have z3 : (3 : Nat) ≤ sizeLine := by decide
  simp [chD, pl, z3]
theorem pl_pt {p : Pt} (h : p.ws.length ≤ sizeLine) : pl 3 p.d = true := by
  cases p with
  | num n => rfl
  | nam w => rfl
  | chs cs =>
    have hl : ∀ cs : List (List Nat × List Nat × Nat), cs.length ≤ (cs.flatMap cws).length := by
      intro cs
      induction cs with
      | nil => simp
      | cons q cs ih => simp [cws] at ih ⊢; omega
    have := hl cs
    have hp : (Pt.chs cs).ws = cs.flatMap cws := rfl
    rw [hp] at h
    show ((cs.map chD).all (pl 2) && decide ((cs.map chD).length ≤ sizeLine)) = true
    rw [Bool.and_eq_true, List.all_eq_true, decide_eq_true_eq]
    refine ⟨fun d m => ?_, by simp; omega⟩
    obtain ⟨q, _, rfl⟩ := List.mem_map.mp m
    exact pl_ch
theorem pl_ins {x : Ins} (h : GoodX x) : pl 4 x.d = true := by
  have hw := ws_len x
  have hl := h.len
  have z : (100 : Nat) ≤ sizeLine := by decide
  have hp : ∀ p ∈ x.ps, p.ws.length ≤ (x.ps.flatMap Pt.ws).length := by
    intro p m
    obtain ⟨a, b, e⟩ := List.append_of_mem m
    rw [e]; simp; omega
  show ((wD x.w :: x.ps.map Pt.d).all (pl 3) && decide ((wD x.w :: x.ps.map Pt.d).length ≤ sizeLine)) = true
  rw [Bool.and_eq_true, List.all_eq_true, decide_eq_true_eq]
  have hps := h.few
  refine ⟨fun d m => ?_, by simp; omega⟩
  rcases List.mem_cons.mp m with rfl | m
  · rfl
  · obtain ⟨p, mp, rfl⟩ := List.mem_map.mp m
    have := hp p mp
    refine pl_pt ?_
    simp [Ins.ws] at hw
    simp at this
    omega
end K35

namespace K35
open PySem PySem.Spec L2 PV
section
variable {a0 a1 a2 a3 a4 a5 a6 a7 a8 a9 a10 a11 a12 x : Slot} {o : Own} {d e : D}
theorem pu5 (h : nio x = true) : putS [a0, a1, a2, a3, a4, x, a6, a7, a8, a9, a10, a11, a12] 5 o d = some [a0, a1, a2, a3, a4, some (o, d), a6, a7, a8, a9, a10, a11, a12] := by
  match x, h with
  | none, _ => rfl
  | some (.sh, _), _ => rfl
  | some (.ow, _), _ => rfl
theorem pu8 (h : nio x = true) : putS [a0, a1, a2, a3, a4, a5, a6, a7, x, a9, a10, a11, a12] 8 o d = some [a0, a1, a2, a3, a4, a5, a6, a7, some (o, d), a9, a10, a11, a12] := by
  match x, h with
  | none, _ => rfl
  | some (.sh, _), _ => rfl
  | some (.ow, _), _ => rfl
theorem pu9 (h : nio x = true) : putS [a0, a1, a2, a3, a4, a5, a6, a7, a8, x, a10, a11, a12] 9 o d = some [a0, a1, a2, a3, a4, a5, a6, a7, a8, some (o, d), a10, a11, a12] := by
  match x, h with
  | none, _ => rfl
  | some (.sh, _), _ => rfl
  | some (.ow, _), _ => rfl
theorem pu10 (h : nio x = true) : putS [a0, a1, a2, a3, a4, a5, a6, a7, a8, a9, x, a11, a12] 10 o d = some [a0, a1, a2, a3, a4, a5, a6, a7, a8, a9, some (o, d), a11, a12] := by
  match x, h with
  | none, _ => rfl
  | some (.sh, _), _ => rfl
  | some (.ow, _), _ => rfl
theorem pu4 (h : nio x = true) : (Tg.nm 4).put d [a0, a1, a2, a3, x, a5, a6, a7, a8, a9, a10, a11, a12] = some [a0, a1, a2, a3, some (.sh, d), a5, a6, a7, a8, a9, a10, a11, a12] := by
  rw [Tg.put]
  match x, h with
  | none, _ => rfl
  | some (.sh, _), _ => rfl
  | some (.ow, _), _ => rfl
theorem pu67 (h6 : nio a6 = true) (h7 : nio a7 = true) : (Tg.tp [.nm 6, .nm 7]).put (.tup [d, e]) [a0, a1, a2, a3, a4, a5, a6, a7, a8, a9, a10, a11, a12] = some [a0, a1, a2, a3, a4, a5, some (.sh, d), some (.sh, e), a8, a9, a10, a11, a12] := by
  simp only [Tg.put, Tg.puts]
  match a6, h6, a7, h7 with
  | none, _, none, _ => rfl
  | none, _, some (.sh, _), _ => rfl
  | none, _, some (.ow, _), _ => rfl
  | some (.sh, _), _, none, _ => rfl
  | some (.sh, _), _, some (.sh, _), _ => rfl
  | some (.sh, _), _, some (.ow, _), _ => rfl
  | some (.ow, _), _, none, _ => rfl
  | some (.ow, _), _, some (.sh, _), _ => rfl
  | some (.ow, _), _, some (.ow, _), _ => rfl
end
@[simp] theorem ev_asg (t : Tg) (f : M (Bool × D)) (s : S) : asgM t f s = (f s).bind fun r s' => match t.put r.2 s' with
  | some s2 => .ok .nx s2
  | none => .stuck := rfl
theorem same {d : D} {n : Nat} (h : pl n d = true) (hn : n ≤ 5) : sem 12 11 [d, d] = .ret false (.bl true) [] :=
  same_refl (sm := fun k => sem k 11) (it := fun k => sem k 10) (ii := fun k => sem k 9) (fun _ => rfl) (fun _ => rfl) (fun _ => rfl) n 12 d h (by omega)
/-- where lines start, as the law finds it -/
theorem st_comp {m : List Nat} {s : S} (hm : m.length ≤ sizeLine) (h5 : s[5]? = some (some (.sh, .str (tx m)))) (h12 : s[12]? = some none) : ∀ (js : List Nat) (acc : List D), (∀ j ∈ js, j < m.length) → acc.length + js.length ≤ sizeLine →
    lcL (.nm 12) (truB (binM (eqS false) (.ex (binM ixD (.sl 5) (.sl 12))) (.ex (constM (.str (tx [10])))))) (binM addD (.sl 12) (.ex (constM (.int 1)))) [12] (js.map fun j => .int (0 + (j : Nat))) acc s = .ok (acc ++ ((js.filter fun j => decide (m[j]? = some 10)).map (· + 1)).map fun j => D.int (j : Nat)) s
  | [], acc, _, _ => by simp [lcL]
  | j :: js, acc, hj, hz => by
    have hjl := hj j List.mem_cons_self
    obtain ⟨c, hc⟩ : ∃ c, m[j]? = some c := ⟨_, List.getElem?_eq_getElem hjl⟩
    have hx := t_ix hm hc
    have hl : 12 < s.length := (List.getElem?_eq_some_iff.mp h12).1
    have e1 : (Tg.nm 12).put (.int (0 + (j : Nat))) s = some (s.set 12 (some (.sh, .int j))) := by rw [put_fre h12 rfl, Int.zero_add]
    have e2 : (s.set 12 (some (.sh, .int j)))[12]? = some (some (.sh, .int j)) := List.getElem?_set_self hl
    have e3 : (s.set 12 (some (.sh, .int j)))[5]? = some (some (.sh, .str (tx m))) := by rw [List.getElem?_set_ne (by decide)]; exact h5
    have e4 : (s.set 12 (some (.sh, .int j))).set 12 none = s := by
      rw [List.set_set]
      refine List.ext_getElem? fun i => ?_
      by_cases hi : 12 = i
      · subst hi; rw [List.getElem?_set_self hl, h12]
      · rw [List.getElem?_set_ne hi]
    have et : (truB (binM (eqS false) (.ex (binM ixD (.sl 5) (.sl 12))) (.ex (constM (.str (tx [10])))))) (s.set 12 (some (.sh, .int j))) = .ok (decide (c = 10)) (s.set 12 (some (.sh, .int j))) := by
      generalize s.set 12 (some (.sh, .int j)) = s' at *
      simp (implicitDefEqProofs := false) [-v_ixS, -v_eqT, e2, e3, hx]
    have ee : (binM addD (.sl 12) (.ex (constM (.int 1)))) (s.set 12 (some (.sh, .int j))) = .ok (false, .int ((j + 1 : Nat) : Int)) (s.set 12 (some (.sh, .int j))) := by
      generalize s.set 12 (some (.sh, .int j)) = s' at *
      simp (implicitDefEqProofs := false) [e2]
    have hlt : acc.length < sizeLine := by simp at hz; omega
    have hd : (decide (m[j]? = some 10)) = decide (c = 10) := by rw [hc]; simp
    rw [List.map_cons, lcL, e1]
    by_cases h10 : c = 10
    · have ih := st_comp hm h5 h12 js (acc ++ [.int ((j + 1 : Nat) : Int)]) (fun i mi => hj i (List.mem_cons_of_mem _ mi)) (by simp at hz ⊢; omega)
      rw [List.filter_cons_of_pos (by rw [hd]; simpa using h10)]
      simp (implicitDefEqProofs := false) only [et, nox, Res.bind_ok, decide_eq_true h10, if_true, ee, hlt, killAll, e4]
      rw [ih]
      simp
    · have ih := st_comp hm h5 h12 js acc (fun i mi => hj i (List.mem_cons_of_mem _ mi)) (by simp at hz ⊢; omega)
      rw [List.filter_cons_of_neg (by rw [hd]; simpa using h10)]
      simp (implicitDefEqProofs := false) only [et, nox, Res.bind_ok, decide_eq_false h10, killAll, e4]
      rw [if_neg (by decide)]
      exact ih
theorem starts_comp {m : List Nat} {s : S} (hm : m.length ≤ sizeLine) (h5 : s[5]? = some (some (.sh, .str (tx m)))) (h12 : s[12]? = some none) :
    lcL (.nm 12) (truB (binM (eqS false) (.ex (binM ixD (.sl 5) (.sl 12))) (.ex (constM (.str (tx [10])))))) (binM addD (.sl 12) (.ex (constM (.int 1)))) [12] (intsD 0 m.length) [] s = .ok (((starts m).drop 1).map fun j => D.int (j : Nat)) s := by
  have h := st_comp hm h5 h12 (List.range m.length) [] (fun j mj => List.mem_range.mp mj) (by simpa using hm)
  exact h
theorem starts_len {m : List Nat} : (starts m).length ≤ m.length + 1 := by
  unfold starts
  have := (List.filter_sublist (p := fun j => decide (m[j]? = some 10)) (l := List.range m.length)).length_le
  simp at this ⊢
  exact this
theorem last_of {α : Type} {f : α → D} {xs : List α} {x : α} (h : xs[xs.length - 1]? = some x) : ixD (.lst (xs.map f)) (.int (-1)) = some (false, f x) := by
  have hl : xs.length - 1 < xs.length := (List.getElem?_eq_some_iff.mp h).1
  rw [v_ixL]
  unfold atI ixN
  rw [if_neg (by decide)]
  have e : (-1 : Int) + ((xs.map f).length : Int) = ((xs.length - 1 : Nat) : Int) := by simp; omega
  simp only [e, List.length_map]
  rw [if_pos (by omega)]
  simp
  exact ⟨x, by rw [show (-1 + (xs.length : Int)).toNat = xs.length - 1 from by omega]; exact h, rfl⟩
end K35

namespace K35
open PySem PySem.Spec L2 PV
noncomputable def bA : M Fl := (seqM (setM 5 (callM (sem 12 14) [.sl 1, .ex (varM 3)])) (asgM (.tp [(.nm 6), (.nm 7)]) (callM (sem 12 15) [.ex (varM 5)])))
noncomputable def bB : M Fl := (iteM (truB (binM (eqS false) (.sl 6) (.ex (constM (.str "code"))))) (seqM (iteM (notM (truM (.ex (callM (sem 12 11) [.ex (methS joinD (.ex (constM (.str ""))) [(.ex (compM (itM (varM 7)) (.nm 11) yesM (callM (sem 12 13) [.ex (varM 11)]) [11]))]), .ex (varM 5)])))) (retM (constM (.bl false))) nxM)
    ctM) nxM)
noncomputable def bC : M Fl := (setM 8 (binM addD (.ex (lstM [(constM (.int 0))])) (.ex (compM (rng1M (unM lenD (.sl 5))) (.nm 12) (truB (binM (eqS false) (.ex (binM ixD (.sl 5) (.sl 12))) (.ex (constM (.str "\n"))))) (binM addD (.sl 12) (.ex (constM (.int 1)))) [12]))))
noncomputable def bD : M Fl := (iteM (andM (truB (binM (eqS true) (.sl 7) (.ex (unM lenD (.sl 5))))) (truB (binM (inD true) (.sl 7) (.sl 8)))) (retM (constM (.bl false))) nxM)
noncomputable def bE : M Fl := (iteM (andM (truB (binM (eqS false) (.sl 7) (.ex (unM lenD (.sl 5))))) (truB (binM (eqS false) (.ex (sliceM (.sl 5) (some (.ex (negM (.ex (constM (.int 1)))))) none)) (.ex (constM (.str "\n")))))) (retM (constM (.bl false))) nxM)
noncomputable def bF : M Fl := (setM 9 (iteM (truB (binM (inD false) (.sl 7) (.sl 8))) (varM 7) (binM ixD (.sl 8) (.ex (negM (.ex (constM (.int 1))))))))
noncomputable def bG : M Fl := (iteM (truB (binM (eqS true) (.ex (binM ixD (.ex (callM (sem 12 15) [.ex (sliceM (.sl 5) none (some (.sl 9)))])) (.ex (constM (.int 0))))) (.ex (constM (.str "code"))))) (retM (constM (.bl false))) nxM)
noncomputable def bH : M Fl := (iteM (andM (truB (binM (inD false) (.sl 7) (.sl 8))) (truB (binM ltD (.sl 7) (.ex (unM lenD (.sl 5)))))) (seqM (setM 10 (binM addD (.ex (binM ixD (.ex (methS splitD (.ex (sliceM (.sl 5) (some (.sl 7)) none)) [(.ex (constM (.str "\n")))])) (.ex (constM (.int 0))))) (.ex (constM (.str "\n")))))
    (iteM (truB (binM (inD false) (.sl 10) (.ex (compM (itM (varM 2)) (.nm 11) yesM (callM (sem 12 13) [.ex (varM 11)]) [11])))) (retM (constM (.bl false))) nxM)) nxM)
noncomputable def bodyL : M Fl := (seqM (setM 5 (callM (sem 12 14) [.sl 1, .ex (varM 3)])) (seqM (asgM (.tp [(.nm 6), (.nm 7)]) (callM (sem 12 15) [.ex (varM 5)])) (seqM bB (seqM bC (seqM bD (seqM bE (seqM bF (seqM bG bH))))))))
section
variable {x0 C x4 x5 x6 x7 x8 x9 x10 : Slot} {d : D} {is : List Ins} {T m : List Nat} {p : Nat}
theorem ne_cw : eqS false (.str "wrong") (.str "code") = some (false, .bl false) := by rw [v_eqT]; rfl
theorem eq_cc : eqS false (.str "code") (.str "code") = some (false, .bl true) := by rw [v_eqT]; simp
theorem ne_cc : eqS true (.str "code") (.str "code") = some (false, .bl false) := by rw [v_eqT]; simp
theorem a_ok (h5 : nio x5 = true) (h6 : nio x6 = true) (h7 : nio x7 = true) {d' e1 e2 : D} (eb : sem 12 14 [d, wD T] = .ret false (wD m) [d']) (er : sem 12 15 [wD m] = .ret false (.tup [e1, e2]) []) (k : M Fl) :
    (seqM (setM 5 (callM (sem 12 14) [.sl 1, .ex (varM 3)])) (seqM (asgM (.tp [(.nm 6), (.nm 7)]) (callM (sem 12 15) [.ex (varM 5)])) k)) [x0, some (.ow, d), C, some (.sh, wD T), x4, x5, x6, x7, x8, x9, x10, none, none] =
      k [x0, some (.ow, d'), C, some (.sh, wD T), x4, some (.sh, wD m), some (.sh, e1), some (.sh, e2), x8, x9, x10, none, none] := by
  simp (implicitDefEqProofs := false) [-ev_putS, eb, pu5 h5, er, pu67 h6 h7]
theorem b_code {xs : List Ins} (hx : ∀ x ∈ xs, x.ok ∧ x.ln.length + 2 ≤ sizeLine) (hm : textF xs = m) (hz : m.length + xs.length + 2 ≤ sizeLine) (k : M Fl) :
    (seqM bB k) [x0, some (.ow, d), C, some (.sh, wD T), x4, some (.sh, wD m), some (.sh, .str "code"), some (.sh, .tup (xs.map Ins.d)), x8, x9, x10, none, none] =
      .ok .ct [x0, some (.ow, d), C, some (.sh, wD T), x4, some (.sh, wD m), some (.sh, .str "code"), some (.sh, .tup (xs.map Ins.d)), x8, x9, x10, none, none] := by
  have hc := line_comp (k := 11) (f := 13) (i := 11) (n := 0) (s := [x0, some (.ow, d), C, some (.sh, wD T), x4, some (.sh, wD m), some (.sh, .str "code"), some (.sh, .tup (xs.map Ins.d)), x8, x9, x10, none, none]) rfl (fun x h1 h2 => law_line h1 h2) xs [] hx (by simp; omega)
  have hj := join_lines (is := xs) (by rw [hm]; exact hz)
  have hs := same (d := wD m) (n := 1) rfl (by decide)
  rw [hm] at hj
  rw [List.nil_append] at hc
  unfold bB
  rw [c_e]
  have e12 : sem (11 + 1) 13 = sem 12 13 := rfl
  rw [e12] at hc
  simp (implicitDefEqProofs := false) [-ev_putS, -v_eqT, eq_cc, killAll, hc, hj, hs]
theorem b_wrong (k : M Fl) {e2 : D} : (seqM bB k) [x0, some (.ow, d), C, some (.sh, wD T), x4, some (.sh, wD m), some (.sh, .str "wrong"), some (.sh, e2), x8, x9, x10, none, none] = k [x0, some (.ow, d), C, some (.sh, wD T), x4, some (.sh, wD m), some (.sh, .str "wrong"), some (.sh, e2), x8, x9, x10, none, none] := by
  unfold bB
  simp (implicitDefEqProofs := false) [-ev_putS, -v_eqT, ne_cw]
theorem c_ok (h8 : nio x8 = true) (hm : m.length + 2 ≤ sizeLine) (k : M Fl) {e1 e2 : D} : (seqM bC k) [x0, some (.ow, d), C, some (.sh, wD T), x4, some (.sh, wD m), some (.sh, e1), some (.sh, e2), x8, x9, x10, none, none] =
    k [x0, some (.ow, d), C, some (.sh, wD T), x4, some (.sh, wD m), some (.sh, e1), some (.sh, e2), some (.ow, .lst ((starts m).map fun j => D.int (j : Nat))), x9, x10, none, none] := by
  have hs : m.length ≤ sizeLine := by omega
  have hc := starts_comp (m := m) (s := [x0, some (.ow, d), C, some (.sh, wD T), x4, some (.sh, wD m), some (.sh, e1), some (.sh, e2), x8, x9, x10, none, none]) hs rfl rfl
  have z1 : (1 : Nat) ≤ sizeLine := by decide
  have ha : addD (.lst [.int 0]) (.lst (((starts m).drop 1).map fun j => D.int (j : Nat))) = some (true, .lst ((starts m).map fun j => D.int (j : Nat))) := by
    have := starts_len (m := m)
    rw [v_addL, if_pos (by simp; omega)]
    rfl
  generalize ((starts m).drop 1).map (fun j => D.int (j : Nat)) = W at hc ha
  generalize (starts m).map (fun j => D.int (j : Nat)) = U at ha ⊢
  unfold bC
  rw [c_nl]
  simp (implicitDefEqProofs := false) [-ev_putS, -v_addL, z1, t_len hs, rng_nat hs, killAll, hc, ha, pu8 h8]
theorem eq_ints {n : Bool} {a b : Nat} : eqS n (.int (a : Nat)) (.int (b : Nat)) = some (false, .bl (if n then !decide (a = b) else decide (a = b))) := by
  rw [v_eqI]
  have : decide ((a : Int) = (b : Int)) = decide (a = b) := by rw [Bool.eq_iff_iff, decide_eq_true_iff, decide_eq_true_iff]; omega
  rw [this]
abbrev stD (m : List Nat) : D := .lst ((starts m).map fun j => D.int (j : Nat))
theorem d_ok (hm : m.length ≤ sizeLine) (hp : p = m.length ∨ p ∈ starts m) (k : M Fl) {e1 : D} : (seqM bD k) [x0, some (.ow, d), C, some (.sh, wD T), x4, some (.sh, wD m), some (.sh, e1), some (.sh, .int p), some (.ow, stD m), x9, x10, none, none] =
    k [x0, some (.ow, d), C, some (.sh, wD T), x4, some (.sh, wD m), some (.sh, e1), some (.sh, .int p), some (.ow, stD m), x9, x10, none, none] := by
  have q1 := eq_ints (n := true) (a := p) (b := m.length)
  have q2 := in_ints (n := true) (p := p) (ps := starts m)
  have ht := t_len hm
  unfold bD stD
  generalize (starts m).map (fun j => D.int (j : Nat)) = U at q2 ⊢
  rcases hp with hp | hp
  · have : decide (p = m.length) = true := by simpa using hp
    rw [this] at q1
    simp (implicitDefEqProofs := false) [-ev_putS, -v_eqI, -v_lenS, ht, q1]
  · have : decide (p ∈ starts m) = true := by simpa using hp
    rw [this] at q2
    generalize decide (p = m.length) = b at q1
    cases b <;> simp (implicitDefEqProofs := false) [-ev_putS, -v_eqI, -v_lenS, ht, q1, q2]
theorem e_ok (hm : m.length ≤ sizeLine) (hp : p = m.length → cutL m (some (-1)) none ≠ [10]) (k : M Fl) {e1 : D} : (seqM bE k) [x0, some (.ow, d), C, some (.sh, wD T), x4, some (.sh, wD m), some (.sh, e1), some (.sh, .int p), some (.ow, stD m), x9, x10, none, none] =
    k [x0, some (.ow, d), C, some (.sh, wD T), x4, some (.sh, wD m), some (.sh, e1), some (.sh, .int p), some (.ow, stD m), x9, x10, none, none] := by
  have q1 := eq_ints (n := false) (a := p) (b := m.length)
  have ht := t_len hm
  have hc := cut_tx (some (-1)) none hm
  unfold bE
  rw [c_nl]
  by_cases h : p = m.length
  · have hne := hp h
    have : decide (p = m.length) = true := by simpa using h
    rw [this] at q1
    have q3 : eqS false (wD (cutL m (some (-1)) none)) (.str (tx [10])) = some (false, .bl false) := by rw [t_eq]; simp [hne]
    simp (implicitDefEqProofs := false) [-ev_putS, -v_eqI, -v_lenS, -t_eq, -v_eqT, ht, q1, hc, q3]
  · have : decide (p = m.length) = false := by simpa using h
    rw [this] at q1
    simp (implicitDefEqProofs := false) [-ev_putS, -v_eqI, -v_lenS, ht, q1]
theorem f_ok {st : Nat} (h9 : nio x9 = true) (hp : (p ∈ starts m ∧ st = p) ∨ (p ∉ starts m ∧ (starts m)[(starts m).length - 1]? = some st)) (k : M Fl) {e1 : D} : (seqM bF k) [x0, some (.ow, d), C, some (.sh, wD T), x4, some (.sh, wD m), some (.sh, e1), some (.sh, .int p), some (.ow, stD m), x9, x10, none, none] =
    k [x0, some (.ow, d), C, some (.sh, wD T), x4, some (.sh, wD m), some (.sh, e1), some (.sh, .int p), some (.ow, stD m), some (.sh, .int st), x10, none, none] := by
  have q2 := in_ints (n := false) (p := p) (ps := starts m)
  unfold bF stD
  rcases hp with ⟨h1, rfl⟩ | ⟨h1, h2⟩
  · have : decide (st ∈ starts m) = true := by simpa using h1
    rw [this] at q2
    generalize (starts m).map (fun j => D.int (j : Nat)) = U at q2 ⊢
    simp (implicitDefEqProofs := false) [-ev_putS, q2, pu9 h9]
  · have : decide (p ∈ starts m) = false := by simpa using h1
    rw [this] at q2
    have hl := last_of (f := fun j : Nat => D.int (j : Nat)) h2
    generalize (starts m).map (fun j => D.int (j : Nat)) = U at q2 hl ⊢
    simp (implicitDefEqProofs := false) [-ev_putS, -v_ixL, q2, hl, pu9 h9]
theorem g_ok {st : Nat} {xs : List Ins} (hm : m.length + 2 ≤ sizeLine) (hst : st ≤ m.length) (hr : Rdl (m.take st) 0 xs none) (k : M Fl) {e1 : D} : (seqM bG k) [x0, some (.ow, d), C, some (.sh, wD T), x4, some (.sh, wD m), some (.sh, e1), some (.sh, .int p), some (.ow, stD m), some (.sh, .int st), x10, none, none] =
    k [x0, some (.ow, d), C, some (.sh, wD T), x4, some (.sh, wD m), some (.sh, e1), some (.sh, .int p), some (.ow, stD m), some (.sh, .int st), x10, none, none] := by
  have hc := cut_tx none (some (st : Int)) (l := m) (by omega)
  have ec : cutL m none (some (st : Int)) = m.take st := by
    unfold cutL
    rw [HT.sIx_nat, HT.sIx_none, Nat.min_eq_left hst]; simp
  rw [ec] at hc
  have e := read_ok (k := 7) (by simp; omega) hr
  have a0 : atI [D.str "code", D.tup (xs.map Ins.d)] 0 = some (.str "code") := rfl
  unfold bG
  generalize stD m = U
  simp (implicitDefEqProofs := false) [-ev_putS, -v_eqT, hc, e, a0, ne_cc]
theorem h_skip (hm : m.length ≤ sizeLine) (hp : p ∉ starts m) {e1 e9 : D} : bH [x0, some (.ow, d), C, some (.sh, wD T), x4, some (.sh, wD m), some (.sh, e1), some (.sh, .int p), some (.ow, stD m), some (.sh, e9), x10, none, none] =
    .ok .nx [x0, some (.ow, d), C, some (.sh, wD T), x4, some (.sh, wD m), some (.sh, e1), some (.sh, .int p), some (.ow, stD m), some (.sh, e9), x10, none, none] := by
  have q2 := in_ints (n := false) (p := p) (ps := starts m)
  have : decide (p ∈ starts m) = false := by simpa using hp
  rw [this] at q2
  unfold bH stD
  generalize (starts m).map (fun j => D.int (j : Nat)) = U at q2 ⊢
  simp (implicitDefEqProofs := false) [-ev_putS, q2]
theorem h_line (h10 : nio x10 = true) (hm : m.length + 2 ≤ sizeLine) (hp : p ∈ starts m) (hl : p < m.length) (hn : nextAt m 10 p < m.length) (hr : RL ((m.drop p).take (nextAt m 10 p - p)) = none) (hg : ∀ x ∈ is, GoodX x) (hz : is.length ≤ sizeLine) {e1 e9 : D} : ∃ e10 : D,
    bH [x0, some (.ow, d), some (.sh, .tup (is.map Ins.d)), some (.sh, wD T), x4, some (.sh, wD m), some (.sh, e1), some (.sh, .int p), some (.ow, stD m), some (.sh, e9), x10, none, none] =
    .ok .nx [x0, some (.ow, d), some (.sh, .tup (is.map Ins.d)), some (.sh, wD T), x4, some (.sh, wD m), some (.sh, e1), some (.sh, .int p), some (.ow, stD m), some (.sh, e9), some (.sh, e10), none, none] := by
  have hs : m.length ≤ sizeLine := by omega
  have q2 := in_ints (n := false) (p := p) (ps := starts m)
  have : decide (p ∈ starts m) = true := by simpa using hp
  rw [this] at q2
  have ht := t_len hs
  have hlt : ltD (.int p) (.int m.length) = some (false, .bl true) := by
    show some (false, D.bl (decide ((p : Int) < (m.length : Int)))) = _
    have : decide ((p : Int) < (m.length : Int)) = true := by rw [decide_eq_true_iff]; omega
    rw [this]
  have hd := t_tail hs (Nat.le_of_lt hl)
  obtain ⟨e1', e2'⟩ := nextAt_at hn
  have hsp : sp 10 (m.drop p) = (m.drop p).take (nextAt m 10 p - p) :: sp 10 (m.drop (nextAt m 10 p + 1)) := by
    conv => lhs; rw [e1']
    exact sp_app e2'
  generalize hw : (m.drop p).take (nextAt m 10 p - p) = w at *
  generalize sp 10 (m.drop (nextAt m 10 p + 1)) = ws at *
  have hwl : w.length ≤ m.length := by rw [← hw]; simp; omega
  have hsd : splitD (tx (m.drop p)) [.str (tx [10])] = some (true, .lst (wD w :: ws.map wD)) := by
    have e : splitD (tx (m.drop p)) [.str (tx [10])] = if ((tx [10]).length == 0) = false ∧ (tx (m.drop p)).length + 2 ≤ sizeLine then some (true, .lst ((Txt.split (tx (m.drop p)) (tx [10])).map D.str)) else none := rfl
    rw [e, if_pos ⟨by decide +kernel, by simp; omega⟩, split_tx (by decide), hsp, List.map_map]
    rfl
  have a0 : atI (wD w :: ws.map wD) 0 = some (wD w) := at_nat (n := 0)
  have ha := add_tx (a := w) (b := [10]) (by simp; omega)
  have hc := line_comp (k := 11) (f := 13) (i := 11) (n := 0) (s := [x0, some (.ow, d), some (.sh, .tup (is.map Ins.d)), some (.sh, wD T), x4, some (.sh, wD m), some (.sh, e1), some (.sh, .int p), some (.ow, stD m), some (.sh, e9), some (.sh, wD (w ++ [10])), none, none]) rfl (fun x h1 h2 => law_line h1 h2) is [] (fun x mx => ⟨(hg x mx).ok, Nat.le_trans (Nat.add_le_add_right (hg x mx).len 2) (by decide)⟩) (by simpa using hz)
  rw [List.nil_append] at hc
  have e12 : sem (11 + 1) 13 = sem 12 13 := rfl
  rw [e12] at hc
  have hin := in_words (n := false) (w := w ++ [10]) (ws := is.map lineF)
  have hno : decide (w ++ [10] ∈ is.map lineF) = false := by
    rw [decide_eq_false_iff_not]
    intro mm
    obtain ⟨x, mx, ex⟩ := List.mem_map.mp mm
    have : x.ln = w := by
      have : x.ln ++ [10] = w ++ [10] := ex
      exact List.append_cancel_right this
    have h2 := (hg x mx).g.r
    rw [this, hr] at h2
    cases h2
  rw [hno, List.map_map] at hin
  refine ⟨wD (w ++ [10]), ?_⟩
  unfold bH
  rw [c_nl]
  have hin' : inD false (wD (w ++ [10])) (.lst (is.map fun x => wD (lineF x))) = some (false, .bl false) := hin
  unfold stD at hc ⊢
  generalize (starts m).map (fun j => D.int (j : Nat)) = U at q2 hc ⊢
  simp (implicitDefEqProofs := false) [-ev_putS, -v_addS, -v_lenS, -v_ordI, q2, ht, hlt, hd, hsd, a0, ha, pu10 h10, killAll, hc, hin']
end
end K35

namespace K35
open PySem PySem.Spec L2 PV
theorem no_end {m : List Nat} {j : Nat} (hj : j < m.length) (hn : 10 ∉ m.drop j) : cutL m (some (-1)) none ≠ [10] := by
  intro h
  have hx : HT.sIx m.length 0 (some (-1)) = m.length - 1 := by
    have := HT.clip_eq (-1) m.length 0
    rw [if_pos (by decide)] at this
    omega
  have h1 : (10 : Nat) ∈ cutL m (some (-1)) none := by rw [h]; simp
  unfold cutL at h1
  have h2 := List.mem_of_mem_take h1
  rw [hx, show m.length - 1 = j + (m.length - 1 - j) from by omega, ← List.drop_drop] at h2
  exact hn (List.mem_of_mem_drop h2)
theorem round {x0 x4 x5 x6 x7 x8 x9 x10 : Slot} {d : D} {is : List Ins} (hg : ∀ x ∈ is, GoodX x) (hi : is.length ≤ 12) (t : Tape d) (h5 : nio x5 = true) (h6 : nio x6 = true) (h7 : nio x7 = true) (h8 : nio x8 = true) (h9 : nio x9 = true) (h10 : nio x10 = true) :
    ∃ (d' : D) (y5 y6 y7 y8 y9 y10 : Slot) (fl : Fl), (fl = .nx ∨ fl = .ct) ∧ Tape d' ∧ nio y5 = true ∧ nio y6 = true ∧ nio y7 = true ∧ nio y8 = true ∧ nio y9 = true ∧ nio y10 = true ∧
      bodyL [x0, some (.ow, d), some (.sh, .tup (is.map Ins.d)), some (.sh, wD (textF is)), x4, x5, x6, x7, x8, x9, x10, none, none] = .ok fl [x0, some (.ow, d'), some (.sh, .tup (is.map Ins.d)), some (.sh, wD (textF is)), x4, y5, y6, y7, y8, y9, y10, none, none] := by
  have hT := lines_len hg
  obtain ⟨m, d', hm, t', eb⟩ := bent (k := 10) (l := textF is) t (by omega)
  have z : (20000 : Nat) ≤ sizeLine := by decide
  have hm2 : m.length + 2 ≤ sizeLine := by omega
  have hms : m.length ≤ sizeLine := by omega
  obtain ⟨xs, o, hr⟩ := rd_ex m m.length 0 (by omega)
  have hok := rd_ok hr
  have hlen := rd_len hr (Nat.zero_le _)
  unfold bodyL
  cases o with
  | none =>
    have er := read_ok (k := 7) hm2 hr
    have htx := rd_text (Nat.zero_le _) hr
    rw [List.drop_zero] at htx
    refine ⟨d', some (.sh, wD m), some (.sh, .str "code"), some (.sh, .tup (xs.map Ins.d)), x8, x9, x10, .ct, .inr rfl, t', rfl, rfl, rfl, h8, h9, h10, ?_⟩
    rw [a_ok h5 h6 h7 eb er, b_code (fun x mx => ⟨(hok x mx).1, by have := (hok x mx).2; omega⟩) htx (by omega)]
  | some p =>
    have er := read_wrong (k := 7) hm2 hr
    obtain ⟨j, g1, g2, g3, g4, g5⟩ := rd_wrong hr
    have gs : j = 0 ∨ (0 < j ∧ m[j - 1]? = some 10) := g3
    have js : j ∈ starts m := mem_starts.mpr (gs.imp id fun h => ⟨h.1, by omega, h.2⟩)
    rcases g5 with ⟨rfl, g5⟩ | ⟨rfl, g5, g6⟩
    · have hns : m.length ∉ starts m := by
        intro q
        rcases mem_starts.mp q with q | ⟨q1, q2, q3⟩
        · omega
        · refine g5 ?_
          have : (m.drop j)[m.length - 1 - j]? = some 10 := by
            rw [List.getElem?_drop, show j + (m.length - 1 - j) = m.length - 1 from by omega]; exact q3
          exact List.mem_of_getElem? this
      have hst := starts_last (Nat.le_of_lt g2) gs g5
      refine ⟨d', some (.sh, wD m), some (.sh, .str "wrong"), some (.sh, .int m.length), some (.ow, stD m), some (.sh, .int j), x10, .nx, .inl rfl, t', rfl, rfl, rfl, rfl, rfl, h10, ?_⟩
      rw [a_ok h5 h6 h7 eb er, b_wrong, c_ok h8 hm2, d_ok hms (.inl rfl), e_ok hms (fun _ => no_end g2 g5), f_ok h9 (.inr ⟨hns, hst⟩), g_ok hm2 (Nat.le_of_lt g2) g4, h_skip hms hns]
    · obtain ⟨e10, eh⟩ := h_line (x0 := x0) (x4 := x4) (T := textF is) (d := d') (e1 := .str "wrong") (e9 := .int p) h10 hm2 js g2 g5 g6 hg (by omega)
      refine ⟨d', some (.sh, wD m), some (.sh, .str "wrong"), some (.sh, .int p), some (.ow, stD m), some (.sh, .int p), some (.sh, e10), .nx, .inl rfl, t', rfl, rfl, rfl, rfl, rfl, rfl, ?_⟩
      rw [a_ok h5 h6 h7 eb er, b_wrong, c_ok h8 hm2, d_ok hms (.inr js), e_ok hms (fun h => by omega), f_ok h9 (.inl ⟨js, rfl⟩), g_ok hm2 (Nat.le_of_lt g2) g4, eh]
theorem law (ns : List Int) (h : ns.length ≤ 63) : ∃ fr, sem 13 16 [.fro (ns.map .int)] = .ret fr (.bl true) [] := by
  obtain ⟨d, t, e⟩ := tape_run ns h
  have e0 : sem 12 7 [.fro (ns.map .int)] = .ret true d [] := e
  generalize hx0 : (some (Own.sh, D.fro (ns.map .int)) : Slot) = x0
  obtain ⟨r, d1, r0, r1, t1, e1⟩ := take (k := 11) (m := 12) t (by decide) (by decide)
  obtain ⟨n, rfl⟩ := Int.eq_ofNat_of_zero_le r0
  have z : (20000 : Nat) ≤ sizeLine := by decide
  obtain ⟨is, d2, hg, hn, t2, e2⟩ := code_loop (k := 10) (x0 := x0) n (intsD 0 n) [] d1 (by simp [intsD]) t1 (by simp; omega)
  have hi : is.length ≤ 12 := by omega
  have hT := lines_len hg
  rw [List.nil_append] at e2
  have hgl : ∀ x ∈ is, x.ok ∧ x.ln.length + 2 ≤ sizeLine := fun x mx => ⟨(hg x mx).ok, by have := (hg x mx).len; omega⟩
  have e3 := line_comp (k := 11) (f := 13) (i := 11) (n := 0) (s := [x0, some (.ow, d2), some (.sh, .tup (is.map Ins.d)), none, none, none, none, none, none, none, none, none, none]) rfl (fun x h1 h2 => law_line h1 h2) is [] hgl (by simp; omega)
  rw [List.nil_append] at e3
  have e12 : sem (11 + 1) 13 = sem 12 13 := rfl
  rw [e12] at e3
  have e4 := join_lines (is := is) (by omega)
  have e5 := write_code (k := 10) hgl (by omega)
  have e6 := read_code_ok (k := 8) (l := textF is) (by omega) (rd_good is (textF is) 0 (fun x mx => (hg x mx).g) (by simp) (Nat.zero_le _))
  have s1 := same (d := wD (textF is)) (n := 1) rfl (by decide)
  have s2 := same (d := .tup (is.map Ins.d)) (n := 5) (by
    show ((is.map Ins.d).all (pl 4) && decide ((is.map Ins.d).length ≤ sizeLine)) = true
    rw [Bool.and_eq_true, List.all_eq_true, decide_eq_true_eq]
    refine ⟨fun y m => ?_, by simp; omega⟩
    obtain ⟨x, mx, rfl⟩ := List.mem_map.mp m
    exact pl_ins (hg x mx)) (by decide)
  obtain ⟨d3, y5, y6, y7, y8, y9, y10, fl1, hf1, t3, g5, g6, g7, g8, g9, g10, q1⟩ := round (x0 := x0) (x4 := some (.sh, .int 0)) (x5 := none) (x6 := none) (x7 := none) (x8 := none) (x9 := none) (x10 := none) hg hi t2 rfl rfl rfl rfl rfl rfl
  obtain ⟨d4, z5, z6, z7, z8, z9, z10, fl2, hf2, t4, k5, k6, k7, k8, k9, k10, q2⟩ := round (x0 := x0) (x4 := some (.sh, .int 1)) hg hi t3 g5 g6 g7 g8 g9 g10
  obtain ⟨d5, w5, w6, w7, w8, w9, w10, fl3, hf3, t5, l5, l6, l7, l8, l9, l10, q3⟩ := round (x0 := x0) (x4 := some (.sh, .int 2)) hg hi t4 k5 k6 k7 k8 k9 k10
  have hr : rngD (.int 3) = some [.int 0, .int 1, .int 2] := by
    rw [rng_int (by decide) (by decide)]; rfl
  have hn2 : rngD (.int n) = some (intsD 0 n) := rng_nat (by omega)
  have hloop : forL (.nm 4) bodyL [.int 0, .int 1, .int 2] [x0, some (.ow, d2), some (.sh, .tup (is.map Ins.d)), some (.sh, wD (textF is)), none, none, none, none, none, none, none, none, none] = .ok .nx [x0, some (.ow, d5), some (.sh, .tup (is.map Ins.d)), some (.sh, wD (textF is)), some (.sh, .int 2), w5, w6, w7, w8, w9, w10, none, none] := by
    rw [ev_for1, pu4 rfl]
    dsimp only
    rw [q1, Res.bind_ok]
    rcases hf1 with rfl | rfl <;>
    · dsimp only
      rw [ev_for1, pu4 rfl]
      dsimp only
      rw [q2, Res.bind_ok]
      rcases hf2 with rfl | rfl <;>
      · dsimp only
        rw [ev_for1, pu4 rfl]
        dsimp only
        rw [q3, Res.bind_ok]
        rcases hf3 with rfl | rfl <;> rfl
  refine ⟨false, ?_⟩
  rw [se16]
  refine runF_rt (s := [x0, some (.ow, d5), some (.sh, .tup (is.map Ins.d)), some (.sh, wD (textF is)), some (.sh, .int 2), w5, w6, w7, w8, w9, w10, none, none]) ?_ rfl rfl
  rw [show initS [] 13 [.fro (ns.map .int)] = [x0, none, none, none, none, none, none, none, none, none, none, none, none] from by rw [← hx0]; rfl]
  have eb : b16 (sem 12) = (seqM (setM 1 (callM (sem 12 7) [.ex (varM 0)]))
    (seqM (setM 2 (unM toTup (.ex (compM (rng1M (callM (sem 12 8) [.sl 1, .ex (constM (.int 12))])) (.nm 4) yesM (callM (sem 12 12) [.sl 1]) [4]))))
    (seqM (setM 3 (methS joinD (.ex (constM (.str ""))) [(.ex (compM (itM (varM 2)) (.nm 11) yesM (callM (sem 12 13) [.ex (varM 11)]) [11]))]))
    (seqM (iteM (orM (notM (truM (.ex (callM (sem 12 11) [.ex (callM (sem 12 1) [.ex (varM 2)]), .ex (varM 3)])))) (notM (truM (.ex (callM (sem 12 11) [.ex (callM (sem 12 6) [.ex (varM 3)]), .ex (varM 2)]))))) (retM (constM (.bl false))) nxM)
    (seqM (forM (rng1M (constM (.int 3))) (.nm 4) bodyL)
    (retM (constM (.bl true)))))))) := rfl
  rw [eb, c_e]
  generalize bodyL = BL at hloop ⊢
  subst hx0
  have e1' : sem 12 8 [d, .int 12] = .ret false (.int n) [d1] := e1
  have e2' : lcL (.nm 4) yesM (callM (sem 12 12) [.sl 1]) [4] (intsD 0 n) [] _ = _ := e2
  have e5' : sem 12 1 [.tup (is.map Ins.d)] = .ret false (.str (tx (textF is))) [] := e5
  have e6' : sem 12 6 [.str (tx (textF is))] = .ret false (.tup (is.map Ins.d)) [] := e6
  simp (implicitDefEqProofs := false) [e0, e1', hn2, killAll, e2', toTup, e3, e4, e5', e6', s1, s2, hr, hloop]
end K35
theorem PySem.Challenge.cw_onescore_k35_texts_of_code_holds : PySem.Challenge.rw_onescore_k35_texts_of_code.Holds := by
  exact K35.holds_of 12 ⟨rfl, by decide, by decide⟩ fun ns h _ => K35.law ns h
