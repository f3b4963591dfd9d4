import PyProof.Rows.All
import Wide.All
import OpenK.AllK
import Wide.FinOn
import HandS.ForMost
import HandS.Exc
import HandS.WordsExc
import HandS.CallSlots
import HandS.HeadHook3
import HandS.HeadEnd
import HandS.Head2
import HandS.TupAny
import HandS.Deep
import HandS.Flow
import HandS.Defaults
import HandS.IsInst
import HandS.RaiseMore
import HandS.StrMore
import HandS.HeadHook4
import HandS.EndBits
import HandS.ExcInit
import HandS.ExcField
import HandS.TryOnly
import KE.GoesEnum
import HandS.Text
import HandS.DictComp
import HandS.Strs
import HandS.TupLe
import HandS.Style
import PyProof.DictCalls
import KE.KRevSl
import PySem.Challenge.RW_onescore_k24_sound_code
set_option Elab.async false
set_option linter.all false
set_option maxRecDepth 100000
set_option autoImplicit false
set_option maxHeartbeats 0
/-! PV: programs by values. D: what a Python value is, its objects within it; Rep: how the abstract heap bears it (with the addresses of what may be changed); SR: how the frame's slots bear their values. -/
namespace PV
open PySem PySem.Spec L2

/-- a test that nothing unfolds -/
noncomputable def gd (p : Prop) : Bool := @decide p (Classical.propDecidable p)
theorem gd_iff {p : Prop} : gd p = true ↔ p := @decide_eq_true_iff p (Classical.propDecidable p)
theorem gd_yes {p : Prop} (h : p) : gd p = true := gd_iff.mpr h

inductive D where
  | non | bl (b : Bool) | int (i : Int) | str (x : Str) | tup (ds : List D) | lst (ds : List D) | fro (ds : List D) | dct (kvs : List (Key × D)) | dcl (kvs : List (Key × D)) | ty (n : String)

/-- a list that nobody changes: frozen, or of the module -/
def Fz (K : PySem.W.Frag) (H : Hp) (a : Addr) (vs : List V) : Prop :=
  (∃ o, H a = some (.frz o (.lst vs))) ∨
    ∃ (o : Obj) (its : Array Value) (n : Nat), K.lookup a = some o ∧ o.cls = .type "list" ∧ o.dict = none ∧ o.data = .seq its n ∧ its.size ≤ sizeLine ∧ Vals vs its.toList

mutual
inductive Rep (K : PySem.W.Frag) (H : Hp) : D → V → List Addr → Prop
  | non : Rep K H .non .non []
  | bl {b : Bool} : Rep K H (.bl b) (.bl b) []
  | int {i : Int} : Rep K H (.int i) (.int i) []
  | str {x : Str} : Rep K H (.str x) (.str x) []
  | ty {n : String} : Rep K H (.ty n) (.ty n) []
  | tup {a : Addr} {ds : List D} {vs : List V} {F : List Addr} : SqT K H a vs → Reps K H ds vs F → Rep K H (.tup ds) (.ref a) F
  | lst {a : Addr} {ds : List D} {vs : List V} {F : List Addr} : H a = some (.lst vs) → Reps K H ds vs F → Rep K H (.lst ds) (.ref a) (a :: F)
  | lsz {a : Addr} {ds : List D} {vs : List V} {F : List Addr} : Fz K H a vs → Reps K H ds vs F → Rep K H (.fro ds) (.ref a) F
  | dct {a : Addr} {kds : List (Key × D)} {kvs : List (Key × V)} {F : List Addr} : H a = some (.dK kvs) → RepK K H kds kvs F → Rep K H (.dct kds) (.ref a) (a :: F)
  | dcl {a : Addr} {kds : List (Key × D)} {kvs : List (Key × V)} {F : List Addr} : (∃ od, H a = some (.frz od (.dK kvs))) → RepK K H kds kvs F → Rep K H (.dcl kds) (.ref a) (a :: F)
inductive Reps (K : PySem.W.Frag) (H : Hp) : List D → List V → List Addr → Prop
  | nil : Reps K H [] [] []
  | cons {d : D} {v : V} {F : List Addr} {ds : List D} {vs : List V} {G : List Addr} : Rep K H d v F → Reps K H ds vs G → Reps K H (d :: ds) (v :: vs) (F ++ G)
inductive RepK (K : PySem.W.Frag) (H : Hp) : List (Key × D) → List (Key × V) → List Addr → Prop
  | nil : RepK K H [] [] []
  | cons {k : Key} {d : D} {v : V} {F : List Addr} {ds : List (Key × D)} {vs : List (Key × V)} {G : List Addr} : Rep K H d v F → RepK K H ds vs G → RepK K H ((k, d) :: ds) ((k, v) :: vs) (F ++ G)
end

section
variable {K : PySem.W.Frag} {H H' : Hp}

/-- what no rule changes -/
def Im : HO → Prop
  | .tup _ => True
  | .frz _ _ => True
  | _ => False
/-- the step from H to H' leaves what is protected and what is immutable -/
structure Fr (P : Addr → Prop) (H H' : Hp) : Prop where
  p : ∀ b, P b → H' b = H b
  i : ∀ b o, H b = some o → Im o → H' b = some o
theorem Fr.refl {P : Addr → Prop} {H : Hp} : Fr P H H := ⟨fun _ _ => rfl, fun _ _ h _ => h⟩
theorem Fr.trans {P : Addr → Prop} {H H1 H2 : Hp} (a : Fr P H H1) (b : Fr P H1 H2) : Fr P H H2 :=
  ⟨fun c h => (b.p c h).trans (a.p c h), fun c o h i => b.i c o (a.i c o h i) i⟩
theorem Fr.mono {P P' : Addr → Prop} {H H' : Hp} (a : Fr P H H') (h : ∀ b, P' b → P b) : Fr P' H H' := ⟨fun c q => a.p c (h c q), a.i⟩
theorem Fr.new {P : Addr → Prop} {H : Hp} {p : Addr} {o : HO} (np : H p = none) (tr : ∀ b, P b → H b ≠ none) : Fr P H (upd H p o) :=
  ⟨fun b h => upd_ne fun e => tr b h (e ▸ np), fun b u h _ => by rw [upd_ne (ne_of_none h np)]; exact h⟩
theorem Fr.put {P : Addr → Prop} {H : Hp} {a : Addr} {o o' : HO} (h : H a = some o) (m : ¬ Im o) (np : ¬ P a) : Fr P H (upd H a o') :=
  ⟨fun b hb => upd_ne fun e => np (e ▸ hb), fun b u hb hi => by
    rw [upd_ne fun e => ?_]
    · exact hb
    · subst e; rw [h] at hb; cases hb; exact m hi⟩

theorem sqT_keep {a : Addr} {vs : List V} (h : SqT K H a vs) (i : ∀ b o, H b = some o → Im o → H' b = some o) : SqT K H' a vs := by
  rcases h with (h | ⟨o, h⟩) | h
  · exact .inl (.inl (i _ _ h trivial))
  · exact .inl (.inr ⟨o, i _ _ h trivial⟩)
  · exact .inr h
theorem fz_keep {a : Addr} {vs : List V} (h : Fz K H a vs) (i : ∀ b o, H b = some o → Im o → H' b = some o) : Fz K H' a vs := by
  rcases h with ⟨o, h⟩ | h
  · exact .inl ⟨o, i _ _ h trivial⟩
  · exact .inr h
theorem fz_sq {a : Addr} {vs : List V} (h : Fz K H a vs) : SqL K H a vs := by
  rcases h with h | h
  · exact .inl (.inr h)
  · exact .inr h

mutual
theorem Rep.keepG (it : ∀ b vs, SqT K H b vs → SqT K H' b vs) (il : ∀ b vs, Fz K H b vs → Fz K H' b vs) : ∀ {d : D} {v : V} {F : List Addr}, Rep K H d v F → (∀ a, a ∈ F → H' a = H a) → Rep K H' d v F
  | .non, _, _, h, _ => by cases h; exact .non
  | .bl _, _, _, h, _ => by cases h; exact .bl
  | .int _, _, _, h, _ => by cases h; exact .int
  | .str _, _, _, h, _ => by cases h; exact .str
  | .ty _, _, _, h, _ => by cases h; exact .ty
  | .tup ds, _, _, h, f => by
    cases h with
    | tup h1 h2 => exact .tup (it _ _ h1) (Reps.keepG it il h2 f)
  | .lst ds, _, _, h, f => by
    cases h with
    | lst h1 h2 => exact .lst ((f _ List.mem_cons_self).trans h1) (Reps.keepG it il h2 fun a m => f a (List.mem_cons_of_mem _ m))
  | .fro ds, _, _, h, f => by
    cases h with
    | lsz h1 h2 => exact .lsz (il _ _ h1) (Reps.keepG it il h2 f)
  | .dct kds, _, _, h, f => by
    cases h with
    | dct h1 h2 => exact .dct ((f _ List.mem_cons_self).trans h1) (RepK.keepG it il h2 fun a m => f a (List.mem_cons_of_mem _ m))
  | .dcl kds, _, _, h, f => by
    cases h with
    | dcl h1 h2 => exact .dcl (let ⟨od, e⟩ := h1; ⟨od, (f _ List.mem_cons_self).trans e⟩) (RepK.keepG it il h2 fun a m => f a (List.mem_cons_of_mem _ m))
theorem Reps.keepG (it : ∀ b vs, SqT K H b vs → SqT K H' b vs) (il : ∀ b vs, Fz K H b vs → Fz K H' b vs) : ∀ {ds : List D} {vs : List V} {F : List Addr}, Reps K H ds vs F → (∀ a, a ∈ F → H' a = H a) → Reps K H' ds vs F
  | [], _, _, h, _ => by cases h; exact .nil
  | d :: ds, _, _, h, f => by
    cases h with
    | cons h1 h2 => exact .cons (Rep.keepG it il h1 fun a m => f a (List.mem_append_left _ m)) (Reps.keepG it il h2 fun a m => f a (List.mem_append_right _ m))
theorem RepK.keepG (it : ∀ b vs, SqT K H b vs → SqT K H' b vs) (il : ∀ b vs, Fz K H b vs → Fz K H' b vs) : ∀ {ds : List (Key × D)} {vs : List (Key × V)} {F : List Addr}, RepK K H ds vs F → (∀ a, a ∈ F → H' a = H a) → RepK K H' ds vs F
  | [], _, _, h, _ => by cases h; exact .nil
  | d :: ds, _, _, h, f => by
    cases h with
    | cons h1 h2 => exact .cons (Rep.keepG it il h1 fun a m => f a (List.mem_append_left _ m)) (RepK.keepG it il h2 fun a m => f a (List.mem_append_right _ m))
end
theorem Rep.keep (i : ∀ b o, H b = some o → Im o → H' b = some o) {d : D} {v : V} {F : List Addr} (h : Rep K H d v F) (f : ∀ a, a ∈ F → H' a = H a) : Rep K H' d v F := Rep.keepG (fun _ _ h => sqT_keep h i) (fun _ _ h => fz_keep h i) h f
theorem Reps.keep (i : ∀ b o, H b = some o → Im o → H' b = some o) {d : List D} {v : List V} {F : List Addr} (h : Reps K H d v F) (f : ∀ a, a ∈ F → H' a = H a) : Reps K H' d v F := Reps.keepG (fun _ _ h => sqT_keep h i) (fun _ _ h => fz_keep h i) h f
theorem RepK.keep (i : ∀ b o, H b = some o → Im o → H' b = some o) {d : List (Key × D)} {v : List (Key × V)} {F : List Addr} (h : RepK K H d v F) (f : ∀ a, a ∈ F → H' a = H a) : RepK K H' d v F := RepK.keepG (fun _ _ h => sqT_keep h i) (fun _ _ h => fz_keep h i) h f
mutual
theorem Rep.tr : ∀ {d : D} {v : V} {F : List Addr}, Rep K H d v F → ∀ a, a ∈ F → H a ≠ none
  | .non, _, _, h, _, m => by cases h; cases m
  | .bl _, _, _, h, _, m => by cases h; cases m
  | .int _, _, _, h, _, m => by cases h; cases m
  | .str _, _, _, h, _, m => by cases h; cases m
  | .ty _, _, _, h, _, m => by cases h; cases m
  | .tup ds, _, _, h, a, m => by
    cases h with
    | tup h1 h2 => exact Reps.tr h2 a m
  | .lst ds, _, _, h, a, m => by
    cases h with
    | lst h1 h2 =>
      rcases List.mem_cons.mp m with rfl | m
      · rw [h1]; simp
      · exact Reps.tr h2 a m
  | .fro ds, _, _, h, a, m => by
    cases h with
    | lsz h1 h2 => exact Reps.tr h2 a m
  | .dct kds, _, _, h, a, m => by
    cases h with
    | dct h1 h2 =>
      rcases List.mem_cons.mp m with rfl | m
      · rw [h1]; simp
      · exact RepK.tr h2 a m
  | .dcl kds, _, _, h, a, m => by
    cases h with
    | dcl h1 h2 =>
      rcases List.mem_cons.mp m with rfl | m
      · obtain ⟨od, e⟩ := h1
        rw [e]; simp
      · exact RepK.tr h2 a m
theorem Reps.tr : ∀ {ds : List D} {vs : List V} {F : List Addr}, Reps K H ds vs F → ∀ a, a ∈ F → H a ≠ none
  | [], _, _, h, _, m => by cases h; cases m
  | d :: ds, _, _, h, a, m => by
    cases h with
    | cons h1 h2 =>
      rcases List.mem_append.mp m with m | m
      · exact Rep.tr h1 a m
      · exact Reps.tr h2 a m
theorem RepK.tr : ∀ {ds : List (Key × D)} {vs : List (Key × V)} {F : List Addr}, RepK K H ds vs F → ∀ a, a ∈ F → H a ≠ none
  | [], _, _, h, _, m => by cases h; cases m
  | d :: ds, _, _, h, a, m => by
    cases h with
    | cons h1 h2 =>
      rcases List.mem_append.mp m with m | m
      · exact Rep.tr h1 a m
      · exact RepK.tr h2 a m
end
theorem Reps.length : ∀ {ds : List D} {vs : List V} {F : List Addr}, Reps K H ds vs F → ds.length = vs.length
  | [], _, _, h => by cases h; rfl
  | d :: ds, _, _, h => by
    cases h with
    | cons h1 h2 => simp [Reps.length h2]
theorem Reps.get : ∀ {ds : List D} {vs : List V} {F : List Addr} {i : Nat} {d : D}, Reps K H ds vs F → ds[i]? = some d → ∃ v G, vs[i]? = some v ∧ Rep K H d v G ∧ ∀ a, a ∈ G → a ∈ F
  | [], _, _, _, _, h, e => by simp at e
  | d :: ds, _, _, i, d', h, e => by
    cases h with
    | @cons _ v F' _ vs G h1 h2 =>
      cases i with
      | zero =>
        simp at e; subst e
        exact ⟨v, F', rfl, h1, fun a m => List.mem_append_left _ m⟩
      | succ i =>
        obtain ⟨w, G', e1, e2, e3⟩ := Reps.get (i := i) h2 (by simpa using e)
        exact ⟨w, G', by simpa using e1, e2, fun a m => List.mem_append_right _ (e3 a m)⟩
theorem Reps.append : ∀ {ds : List D} {vs : List V} {F : List Addr} {ds' : List D} {vs' : List V} {F' : List Addr}, Reps K H ds vs F → Reps K H ds' vs' F' → Reps K H (ds ++ ds') (vs ++ vs') (F ++ F')
  | [], _, _, _, _, _, h, h' => by cases h; exact h'
  | d :: ds, _, _, _, _, _, h, h' => by
    cases h with
    | cons h1 h2 =>
      rw [List.append_assoc]
      exact .cons h1 (Reps.append h2 h')
theorem Reps.one {d : D} {v : V} {F : List Addr} (h : Rep K H d v F) : Reps K H [d] [v] F := by
  have := Reps.cons h (Reps.nil (K := K) (H := H))
  rwa [List.append_nil] at this
/-- a part of a sequence -/
theorem Reps.sub : ∀ {ds : List D} {vs : List V} {F : List Addr} (a n : Nat), Reps K H ds vs F → ∃ G, Reps K H ((ds.drop a).take n) ((vs.drop a).take n) G ∧ ∀ b, b ∈ G → b ∈ F
  | [], _, _, a, n, h => by cases h; exact ⟨[], by simpa using Reps.nil, fun _ m => m⟩
  | d :: ds, _, _, a, n, h => by
    cases h with
    | @cons _ v F' _ vs G h1 h2 =>
      cases a with
      | succ a =>
        obtain ⟨G', e1, e2⟩ := Reps.sub a n h2
        exact ⟨G', by simpa using e1, fun b m => List.mem_append_right _ (e2 b m)⟩
      | zero =>
        cases n with
        | zero => exact ⟨[], by simpa using Reps.nil, fun _ m => by cases m⟩
        | succ n =>
          obtain ⟨G', e1, e2⟩ := Reps.sub 0 n h2
          refine ⟨F' ++ G', ?_, fun b m => ?_⟩
          · have := Reps.cons h1 e1
            simpa using this
          · rcases List.mem_append.mp m with m | m
            · exact List.mem_append_left _ m
            · exact List.mem_append_right _ (e2 b m)
end

/-- what stands at a and may be changed -/
inductive RepM (K : PySem.W.Frag) (H : Hp) : D → Addr → List Addr → Prop
  | lst {a : Addr} {ds : List D} {vs : List V} {F : List Addr} : H a = some (.lst vs) → Reps K H ds vs F → RepM K H (.lst ds) a F
  | dct {a : Addr} {kds : List (Key × D)} {kvs : List (Key × V)} {F : List Addr} : H a = some (.dK kvs) → RepK K H kds kvs F → RepM K H (.dct kds) a F
  | dcl {a : Addr} {kds : List (Key × D)} {kvs : List (Key × V)} {F : List Addr} : (∃ od, H a = some (.frz od (.dK kvs))) → RepK K H kds kvs F → RepM K H (.dcl kds) a F
section
variable {K : PySem.W.Frag} {H H' : Hp} {d : D} {a : Addr} {F : List Addr}
theorem RepM.rep (h : RepM K H d a F) : Rep K H d (.ref a) (a :: F) := by
  cases h with
  | lst h1 h2 => exact .lst h1 h2
  | dct h1 h2 => exact .dct h1 h2
  | dcl h1 h2 => exact .dcl h1 h2
theorem RepM.keep (h : RepM K H d a F) (i : ∀ b o, H b = some o → Im o → H' b = some o) (f : ∀ b, b ∈ a :: F → H' b = H b) : RepM K H' d a F := by
  cases h with
  | lst h1 h2 => exact .lst ((f _ List.mem_cons_self).trans h1) (Reps.keep i h2 fun b m => f b (List.mem_cons_of_mem _ m))
  | dct h1 h2 => exact .dct ((f _ List.mem_cons_self).trans h1) (RepK.keep i h2 fun b m => f b (List.mem_cons_of_mem _ m))
  | dcl h1 h2 => exact .dcl (let ⟨od, e⟩ := h1; ⟨od, (f _ List.mem_cons_self).trans e⟩) (RepK.keep i h2 fun b m => f b (List.mem_cons_of_mem _ m))
theorem RepM.here (h : RepM K H d a F) : H a ≠ none := by
  cases h with
  | lst h1 h2 => rw [h1]; simp
  | dct h1 h2 => rw [h1]; simp
  | dcl h1 h2 => obtain ⟨od, e⟩ := h1; rw [e]; simp
/-- not locked -/
def D.ul (d : D) : Prop := ∀ k, d ≠ .dcl k
theorem RepM.mut (h : RepM K H d a F) (hu : d.ul) : ∃ o, H a = some o ∧ ¬ Im o := by
  cases h with
  | lst h1 h2 => exact ⟨_, h1, fun q => q⟩
  | dct h1 h2 => exact ⟨_, h1, fun q => q⟩
  | dcl h1 h2 => exact absurd rfl (hu _)
end

/-! ### the frame's slots -/
inductive Own where
  | sh | ow | io
  deriving DecidableEq
abbrev Slot := Option (Own × D)
abbrev S := List Slot

structure SR (K : PySem.W.Frag) (P B : Addr → Prop) (ia : Nat → Addr) (s : S) (σ : St) (H : Hp) (Fs : Nat → List Addr) : Prop where
  len : s.length = σ.length
  rep : ∀ i o d, s[i]? = some (some (o, d)) → ∃ v, σ[i]? = some (some v) ∧ Rep K H d v (Fs i)
  own : ∀ i o d, s[i]? = some (some (o, d)) → o ≠ Own.sh → ∃ a F, σ[i]? = some (some (V.ref a)) ∧ Fs i = a :: F ∧ RepM K H d a F ∧ a ∉ F ∧ ¬ P a ∧ ∀ j, j ≠ i → a ∉ Fs j
  iov : ∀ i d, s[i]? = some (some (Own.io, d)) → σ[i]? = some (some (V.ref (ia i)))
  dead : ∀ i, (∀ o d, s[i]? ≠ some (some (o, d))) → Fs i = []
  inB : ∀ j a, a ∈ Fs j → B a
  tr : ∀ b, P b → H b ≠ none
  nb : ∀ b, H b = none → B b

/-- no slot of one's own has its object among these -/
def NoOwn (s : S) (σ : St) (F : List Addr) : Prop := ∀ (i : Nat) (o : Own) (d : D) (a : Addr), s[i]? = some (some (o, d)) → o ≠ Own.sh → σ[i]? = some (some (V.ref a)) → a ∉ F
theorem NoOwn.nil {s : S} {σ : St} : NoOwn s σ [] := fun _ _ _ _ _ _ _ m => nomatch m
theorem NoOwn.sub {s : S} {σ : St} {F G : List Addr} (h : NoOwn s σ F) (q : ∀ a, a ∈ G → a ∈ F) : NoOwn s σ G := fun i o d a e n x m => h i o d a e n x (q a m)
theorem NoOwn.app {s : S} {σ : St} {F G : List Addr} (h : NoOwn s σ F) (h' : NoOwn s σ G) : NoOwn s σ (F ++ G) := fun i o d a e n x m => (List.mem_append.mp m).elim (h i o d a e n x) (h' i o d a e n x)

section
variable {K : PySem.W.Frag} {P B : Addr → Prop} {ia : Nat → Addr} {s : S} {σ : St} {H H' : Hp} {Fs : Nat → List Addr}
theorem SR.trF (r : SR K P B ia s σ H Fs) {j : Nat} {a : Addr} (h : a ∈ Fs j) : H a ≠ none := by
  by_cases q : ∃ o d, s[j]? = some (some (o, d))
  · obtain ⟨o, d, q⟩ := q
    obtain ⟨v, _, e⟩ := r.rep j o d q
    exact e.tr a h
  · rw [r.dead j fun o d z => q ⟨o, d, z⟩] at h; cases h
/-- fewer protected -/
theorem SR.weak {P' : Addr → Prop} (r : SR K P B ia s σ H Fs) (h : ∀ b, P' b → P b) : SR K P' B ia s σ H Fs :=
  ⟨r.len, r.rep, fun i o d e n => let ⟨a, F, h1, h2, h3, h4, h5, h6⟩ := r.own i o d e n; ⟨a, F, h1, h2, h3, h4, fun q => h5 (h a q), h6⟩, r.iov, r.dead, r.inB, fun b q => r.tr b (h b q), r.nb⟩
/-- the heap goes on, all that the slots hold stays -/
theorem SR.go (r : SR K P B ia s σ H Fs) (f : ∀ j a, a ∈ Fs j → H' a = H a) (i : ∀ b o, H b = some o → Im o → H' b = some o) (p : ∀ b, P b → H' b = H b) (nb : ∀ b, H' b = none → B b) : SR K P B ia s σ H' Fs :=
  ⟨r.len, fun j o d e => let ⟨v, h1, h2⟩ := r.rep j o d e; ⟨v, h1, h2.keep i fun a m => f j a m⟩,
   fun j o d e n => let ⟨a, F, h1, h2, h3, h4, h5, h6⟩ := r.own j o d e n; ⟨a, F, h1, h2, h3.keep i fun b m => f j b (by rw [h2]; exact m), h4, h5, h6⟩, r.iov, r.dead, r.inB, fun b q => by rw [p b q]; exact r.tr b q, nb⟩
theorem SR.new (r : SR K P B ia s σ H Fs) {p : Addr} {o : HO} (np : H p = none) : SR K P B ia s σ (upd H p o) Fs :=
  r.go (fun j a m => upd_ne fun e => r.trF m (e ▸ np)) (Fr.new np r.tr).i (Fr.new np r.tr).p fun b e => r.nb b (by
    by_cases h : b = p
    · subst h; exact np
    · rw [upd_ne h] at e; exact e)
/-- more protected: a value whose parts no slot may change -/
theorem SR.prot (r : SR K P B ia s σ H Fs) {F : List Addr} (t : ∀ a, a ∈ F → H a ≠ none) (no : NoOwn s σ F) : SR K (fun b => P b ∨ b ∈ F) B ia s σ H Fs :=
  ⟨r.len, r.rep, fun i o d e n => by
    obtain ⟨a, F', h1, h2, h3, h4, h5, h6⟩ := r.own i o d e n
    exact ⟨a, F', h1, h2, h3, h4, fun q => q.elim h5 (no i o d a e n h1), h6⟩, r.iov, r.dead, r.inB, fun b q => q.elim (r.tr b) (t b), r.nb⟩
theorem SR.noOwn (r : SR K P B ia s σ H Fs) {F : List Addr} (h : ∀ a, a ∈ F → P a) : NoOwn s σ F := fun i o d a e n x m => by
  obtain ⟨a', F', h1, h2, h3, h4, h5, h6⟩ := r.own i o d e n
  rw [x] at h1; cases h1; exact h5 (h a m)
theorem SR.noOwnF (r : SR K P B ia s σ H Fs) {j : Nat} {d : D} (e : s[j]? = some (some (Own.sh, d))) : NoOwn s σ (Fs j) := fun i o d' a e' n x m => by
  obtain ⟨a', F', h1, h2, h3, h4, h5, h6⟩ := r.own i o d' e' n
  rw [x] at h1; cases h1
  refine h6 j ?_ m
  rintro rfl
  rw [e] at e'; cases e'; exact n rfl
/-- an own slot's inside -/
theorem SR.noOwnT (r : SR K P B ia s σ H Fs) {j : Nat} {o : Own} {d : D} {a : Addr} {F : List Addr} (e : s[j]? = some (some (o, d))) (n : o ≠ Own.sh) (eF : Fs j = a :: F) : NoOwn s σ F := fun i o' d' b e' n' x m => by
  obtain ⟨a', F', h1, h2, h3, h4, h5, h6⟩ := r.own i o' d' e' n'
  rw [x] at h1; cases h1
  by_cases q : j = i
  · subst q
    rw [eF] at h2; cases h2; exact h4 m
  · exact h6 j q (by rw [eF]; exact List.mem_cons_of_mem _ m)
end

/-! ### results -/
/-- an exception: its class by its name, its fields -/
structure Exn where
  cls : Str
  fs : List (Str × D)
inductive Res (α : Type) where
  | ok (a : α) (s : S)
  | exc (x : Exn) (s : S)
  | stuck
abbrev M (α : Type) := S → Res α
def Res.bind {α β : Type} (r : Res α) (f : α → S → Res β) : Res β := match r with
  | .ok a s => f a s
  | .exc x s => .exc x s
  | .stuck => .stuck
@[simp] theorem Res.bind_ok {α β : Type} (a : α) (s : S) (f : α → S → Res β) : (Res.ok a s).bind f = f a s := rfl
@[simp] theorem Res.bind_exc {α β : Type} (x : Exn) (s : S) (f : α → S → Res β) : (Res.exc x s : Res α).bind f = .exc x s := rfl
@[simp] theorem Res.bind_stuck {α β : Type} (f : α → S → Res β) : (Res.stuck : Res α).bind f = .stuck := rfl

/-- how an exception lies in the heap -/
def XRep (K : PySem.W.Frag) (H : Hp) (x : Exn) (cls : Value) (dx : Option Addr) : Prop :=
  cls = .ref (He.ga K x.cls) ∧ ((x.fs = [] ∧ dx = none) ∨ ∃ b kvs F, dx = some b ∧ H b = some (.xd kvs) ∧ kvs.map (·.1) = x.fs.map (·.1) ∧ Reps K H (x.fs.map (·.2)) (kvs.map (·.2)) F)

/-- a value has come -/
def RV (K : PySem.W.Frag) (P B : Addr → Prop) (ia : Nat → Addr) (s : S) (σ : St) (H H' : Hp) (fr : Bool) (d : D) (v : V) : Prop :=
  ∃ F Fs, Rep K H' d v F ∧ Fr P H H' ∧ (∀ a, a ∈ F → B a) ∧ SR K (fun b => P b ∨ b ∈ F) B ia s σ H' Fs ∧ (fr = true → ∃ a G, v = .ref a ∧ F = a :: G ∧ RepM K H' d a G ∧ a ∉ G ∧ ¬ P a ∧ ∀ j, a ∉ Fs j)
def RX (K : PySem.W.Frag) (P B : Addr → Prop) (ia : Nat → Addr) (s : S) (σ : St) (H H' : Hp) (x : Exn) (cls : Value) (dx : Option Addr) : Prop :=
  ∃ Fs, Fr P H H' ∧ SR K P B ia s σ H' Fs ∧ XRep K H' x cls dx
/-- what is asked of a result: Q's way, E's way -/
def Post {α : Type} (E : Exn → S → Prop) (Q : α → S → Prop) : Res α → Prop
  | .ok a s => Q a s
  | .exc x s => E x s
  | .stuck => False
@[simp] theorem Post.ok {α : Type} {E : Exn → S → Prop} {Q : α → S → Prop} {a : α} {s : S} : Post E Q (.ok a s) = Q a s := rfl
@[simp] theorem Post.exc {α : Type} {E : Exn → S → Prop} {Q : α → S → Prop} {x : Exn} {s : S} : Post E Q (.exc x s) = E x s := rfl
@[simp] theorem Post.stuck {α : Type} {E : Exn → S → Prop} {Q : α → S → Prop} : Post E Q .stuck = False := rfl
theorem Post.bind {α β : Type} {E : Exn → S → Prop} {Q : β → S → Prop} {r : Res α} {f : α → S → Res β} (h : Post E Q (r.bind f)) : Post E (fun a s => Post E Q (f a s)) r := by
  cases r <;> exact h
theorem Post.mono {α : Type} {E E' : Exn → S → Prop} {Q Q' : α → S → Prop} {r : Res α} (h : Post E Q r) (e : ∀ x s, E x s → E' x s) (q : ∀ a s, Q a s → Q' a s) : Post E' Q' r := by
  cases r with
  | ok a s => exact q a s h
  | exc x s => exact e x s h
  | stuck => exact h
/-- the reading of an expression by its function f -/
def tD (K : PySem.W.Frag) (E : WX) (f : M (Bool × D)) : TE := fun σ H Q => ∃ P B ia s Fs, SR K P B ia s σ H Fs ∧
  Post (fun x s' => ∀ cls dx H', RX K P B ia s' σ H H' x cls dx → E cls dx σ H') (fun r s' => ∀ v H', RV K P B ia s' σ H H' r.1 r.2 v → Q v H') (f s)
theorem RX.weak {K : PySem.W.Frag} {P P' B : Addr → Prop} {ia : Nat → Addr} {s : S} {σ : St} {H H1 H' : Hp} {x : Exn} {cls : Value} {dx : Option Addr} (h : RX K P B ia s σ H1 H' x cls dx) (f : Fr P' H H1) (q : ∀ b, P' b → P b) : RX K P' B ia s σ H H' x cls dx :=
  let ⟨Fs, h1, h2, h3⟩ := h
  ⟨Fs, f.trans (h1.mono q), h2.weak q, h3⟩

theorem _root_.L2.PE.imp {X : Cx} {e : Expr} {t t' : TE} (h : PE X e t) (q : ∀ σ H Q, t' σ H Q → t σ H Q) : PE X e t' := ⟨fun pins s σ H Q I w => h.run pins s σ H Q I (q σ H Q w)⟩
theorem _root_.L2.PT.imp {X : Cx} {e : Expr} {t t' : TT} (h : PT X e t) (q : ∀ σ H Q, t' σ H Q → t σ H Q) : PT X e t' := ⟨fun pins s σ H Q I w => h.run pins s σ H Q I (q σ H Q w)⟩
theorem _root_.L2.PW.imp {X : Cx} {e : Expr} {t t' : TT} (h : PW X e t) (q : ∀ σ H Q, t' σ H Q → t σ H Q) : PW X e t' := ⟨fun wh pins s σ H Q I w => h.run wh pins s σ H Q I (q σ H Q w)⟩
theorem _root_.L2.PA.imp {X : Cx} {e : List Expr} {t t' : TA} (h : PA X e t) (q : ∀ σ H Q, t' σ H Q → t σ H Q) : PA X e t' := ⟨fun pos pins s σ H Q I w => h.run pos pins s σ H Q I (q σ H Q w)⟩
theorem _root_.L2.PS.imp {X : Cx} {e : Stmt} {t t' : TS} (h : PS X e t) (q : ∀ D σ H, t' D σ H → t D σ H) : PS X e t' := ⟨fun pins s σ H Q I w => h.run pins s σ H Q I (q Q σ H w)⟩
theorem _root_.L2.PSs.imp {X : Cx} {e : List Stmt} {t t' : TS} (h : PSs X e t) (q : ∀ D σ H, t' D σ H → t D σ H) : PSs X e t' := ⟨fun pins s σ H Q I w => h.run pins s σ H Q I (q Q σ H w)⟩

/-- what an operand brings -/
structure OV (K : PySem.W.Frag) (B : Addr → Prop) (s : S) (σ : St) (H : Hp) (d : D) (x : V) (F : List Addr) : Prop where
  rep : Rep K H d x F
  inB : ∀ a, a ∈ F → B a
  inn : NoOwn s σ F ∨ ∃ a G, x = .ref a ∧ F = a :: G ∧ RepM K H d a G ∧ NoOwn s σ G

/-- an operand: an expression, or a slot that is only looked at -/
inductive Opd where
  | ex (f : M (Bool × D))
  | sl (i : Nat)
def rdO (K : PySem.W.Frag) (E : WX) : Opd → TE
  | .ex f => tD K E f
  | .sl i => tVar i
def Opd.run : Opd → M (Option D)
  | .ex f => fun s => (f s).bind fun r s' => .ok (some r.2) s'
  | .sl i => fun s => match s[i]? with
    | some (some _) => .ok none s
    | _ => .stuck
def Opd.get (s : S) : Opd → Option D → Option D
  | .ex _, x => x
  | .sl i, _ => match s[i]? with
    | some (some (_, d)) => some d
    | _ => none
/-- one operand -/
def op1 {α : Type} (a : Opd) (k : D → S → Res α) : M α := fun s => (a.run s).bind fun x s1 => match a.get s1 x with
  | some dx => k dx s1
  | none => .stuck
/-- two operands -/
def op2 {α : Type} (a b : Opd) (k : D → D → S → Res α) : M α := fun s => (a.run s).bind fun x s1 => (b.run s1).bind fun y s2 => match a.get s2 x, b.get s2 y with
  | some dx, some dy => k dx dy s2
  | _, _ => .stuck

section
variable {K : PySem.W.Frag} {P B : Addr → Prop} {ia : Nat → Addr} {s : S} {σ : St} {H H' : Hp} {Fs : Nat → List Addr} {E : WX}
theorem SR.opd (r : SR K P B ia s σ H Fs) {i : Nat} {o : Own} {d : D} (e : s[i]? = some (some (o, d))) : ∃ v F, σ[i]? = some (some v) ∧ OV K B s σ H d v F := by
  by_cases n : o = Own.sh
  · subst n
    obtain ⟨v, h1, h2⟩ := r.rep i _ d e
    exact ⟨v, Fs i, h1, h2, fun a m => r.inB i a m, .inl (r.noOwnF e)⟩
  · obtain ⟨a, F, h1, h2, h3, h4, h5, h6⟩ := r.own i o d e n
    exact ⟨.ref a, a :: F, h1, h3.rep, fun b m => r.inB i b (by rw [h2]; exact m), .inr ⟨a, F, rfl, rfl, h3, r.noOwnT e n h2⟩⟩
theorem SR.slot_lt (r : SR K P B ia s σ H Fs) {i : Nat} {o : Own} {d : D} (e : s[i]? = some (some (o, d))) : ∃ v, σ[i]? = some (some v) := let ⟨v, h, _⟩ := r.rep i o d e; ⟨v, h⟩

theorem rd1 {a : Opd} {R : V → Hp → Prop} (r : SR K P B ia s σ H Fs)
    (h : Post (fun x s' => ∀ cls dx H', RX K P B ia s' σ H H' x cls dx → E cls dx σ H') (fun d s' => ∀ x H' F Fs', OV K B s' σ H' d x F → Fr P H H' → SR K P B ia s' σ H' Fs' → R x H') (op1 a Res.ok s)) : rdO K E a σ H R := by
  cases a with
  | ex f =>
    refine ⟨P, B, ia, s, Fs, r, ?_⟩
    unfold op1 Opd.run at h
    have h' := Post.bind (Post.bind h)
    refine h'.mono (fun _ _ q => q) fun a s' q v H' w => ?_
    obtain ⟨F, Fs', h1, h2, h3, h4, h5⟩ := w
    exact q v H' F Fs' ⟨h1, h3, .inl (h4.noOwn fun a m => .inr m)⟩ h2 (h4.weak fun b m => .inl m)
  | sl i =>
    simp only [op1, Opd.run] at h
    show ∃ v, σ[i]? = some (some v) ∧ R v H
    match e : s[i]? with
    | some (some (o, d)) =>
      simp only [e, Res.bind_ok, Opd.get] at h
      obtain ⟨v, F, h1, h2⟩ := r.opd e
      exact ⟨v, h1, h v H F Fs h2 Fr.refl r⟩
    | some none => simp only [e] at h; exact h.elim
    | none => simp only [e] at h; exact h.elim
theorem rd2 {a b : Opd} {R : V → V → Hp → Prop} (r : SR K P B ia s σ H Fs)
    (h : Post (fun x s' => ∀ cls dx H', RX K P B ia s' σ H H' x cls dx → E cls dx σ H') (fun (q : D × D) s' => ∀ x y H' F G Fs', OV K B s' σ H' q.1 x F → OV K B s' σ H' q.2 y G → Fr P H H' → SR K P B ia s' σ H' Fs' → R x y H') (op2 a b (fun x y s => .ok (x, y) s) s)) :
    rdO K E a σ H fun x H1 => rdO K E b σ H1 fun y H2 => R x y H2 := by
  cases a with
  | ex f =>
    refine ⟨P, B, ia, s, Fs, r, ?_⟩
    unfold op2 at h
    have h' := Post.bind (Post.bind (r := (f s).bind fun (r : Bool × D) s' => Res.ok (some r.2) s') h)
    refine h'.mono (fun _ _ q => q) fun a s1 q v H1 w => ?_
    obtain ⟨F, Fs1, h1, h2, h3, h4, h5⟩ := w
    cases b with
    | ex g =>
      refine ⟨_, B, ia, s1, Fs1, h4, ?_⟩
      have q' := Post.bind (Post.bind (r := (g s1).bind fun (r : Bool × D) s' => Res.ok (some r.2) s') q)
      refine q'.mono (fun x s2 e cls dx H2 w2 => e cls dx H2 (w2.weak h2 fun b m => .inl m)) fun c s2 e v2 H2 w2 => ?_
      obtain ⟨G, Fs2, g1, g2, g3, g4, g5⟩ := w2
      exact e v v2 H2 F G Fs2 ⟨h1.keep g2.i fun a m => g2.p a (.inr m), h3, .inl (g4.noOwn fun a m => .inl (.inr m))⟩ ⟨g1, g3, .inl (g4.noOwn fun a m => .inr m)⟩
        (h2.trans (g2.mono fun b m => .inl m)) (g4.weak fun b m => .inl (.inl m))
    | sl i =>
      show ∃ w, σ[i]? = some (some w) ∧ R v w H1
      simp only [Post.ok, Opd.run] at q
      match e : s1[i]? with
      | some (some (o, d)) =>
        simp only [e, Res.bind_ok, Opd.get, Post.ok] at q
        obtain ⟨w, G, e1, e2⟩ := h4.opd e
        exact ⟨w, e1, q v w H1 F G Fs1 ⟨h1, h3, .inl (h4.noOwn fun a m => .inr m)⟩ e2 h2 (h4.weak fun b m => .inl m)⟩
      | some none => simp only [e] at q; exact (show False from q).elim
      | none => simp only [e] at q; exact (show False from q).elim
  | sl i =>
    simp only [op2, Opd.run] at h
    match e : s[i]? with
    | some none => simp only [e] at h; exact h.elim
    | none => simp only [e] at h; exact h.elim
    | some (some (o, d)) =>
      obtain ⟨v, F, hv, h2⟩ := r.opd e
      simp only [e, Res.bind_ok] at h
      cases b with
      | ex g =>
        have h' := Post.bind (Post.bind (r := (g s).bind fun (r : Bool × D) s' => Res.ok (some r.2) s') h)
        refine ⟨v, hv, P, B, ia, s, Fs, r, h'.mono (fun _ _ q => q) fun c s2 q v2 H2 w2 => ?_⟩
        obtain ⟨G, Fs2, g1, g2, g3, g4, g5⟩ := w2
        simp only [Post.ok, Opd.get] at q
        match e : s2[i]? with
        | some (some (o, d)) =>
          simp only [e, Post.ok] at q
          obtain ⟨w, F, e1, e2⟩ := g4.opd e
          rw [hv] at e1; cases e1
          exact q v v2 H2 F G Fs2 e2 ⟨g1, g3, .inl (g4.noOwn fun a m => .inr m)⟩ g2 (g4.weak fun b m => .inl m)
        | some none => simp only [e] at q; exact (show False from q).elim
        | none => simp only [e] at q; exact (show False from q).elim
      | sl j =>
        simp only [Opd.run] at h
        match e' : s[j]? with
        | some (some (o', d')) =>
          simp only [e, e', Res.bind_ok, Opd.get] at h
          obtain ⟨v', F', h1', h2'⟩ := r.opd e'
          exact ⟨v, hv, v', h1', h v v' H F F' Fs h2 h2' Fr.refl r⟩
        | some none => simp only [e'] at h; exact h.elim
        | none => simp only [e'] at h; exact h.elim
end
end PV

/-! PV: expressions by values. -/
namespace PV
open PySem PySem.Spec L2
section
variable {K : PySem.W.Frag} {P B : Addr → Prop} {ia : Nat → Addr} {s : S} {σ : St} {H H' H1 : Hp} {Fs : Nat → List Addr} {E : WX} {d : D} {v : V} {F : List Addr}
theorem RV.part (rep : Rep K H' d v F) (no : NoOwn s σ F) (b : ∀ a, a ∈ F → B a) (fr : Fr P H H') (r : SR K P B ia s σ H' Fs) : RV K P B ia s σ H H' false d v :=
  ⟨F, Fs, rep, fr, b, r.prot rep.tr no, fun h => nomatch h⟩
theorem RV.flat (rep : Rep K H' d v []) (fr : Fr P H H') (r : SR K P B ia s σ H' Fs) : RV K P B ia s σ H H' false d v := .part rep .nil (fun _ m => nomatch m) fr r
theorem SR.ownTr (r : SR K P B ia s σ H Fs) {i : Nat} {o : Own} {d : D} {a : Addr} (e : s[i]? = some (some (o, d))) (n : o ≠ Own.sh) (h : σ[i]? = some (some (V.ref a))) : H a ≠ none := by
  obtain ⟨a', F', h1, h2, h3, _⟩ := r.own i o d e n
  rw [h] at h1; cases h1
  exact h3.here
theorem NoOwn.cons (r : SR K P B ia s σ H Fs) {p : Addr} (np : H p = none) (no : NoOwn s σ F) : NoOwn s σ (p :: F) := fun i o d a e n x m => by
  rcases List.mem_cons.mp m with rfl | m
  · exact r.ownTr e n x np
  · exact no i o d a e n x m
/-- a new list -/
theorem RV.lst {ds : List D} {vs : List V} {p : Addr} (h : Reps K H1 ds vs F) (no : NoOwn s σ F) (b : ∀ a, a ∈ F → B a) (fr : Fr P H H1) (r : SR K P B ia s σ H1 Fs) (np : H1 p = none) : RV K P B ia s σ H (upd H1 p (.lst vs)) true (.lst ds) (.ref p) := by
  have r2 : SR K P B ia s σ (upd H1 p (.lst vs)) Fs := r.new np
  have f1 : Fr P H1 (upd H1 p (.lst vs)) := Fr.new np r.tr
  have nF : ∀ a, a ∈ F → a ≠ p := fun a m e => h.tr a m (e ▸ np)
  have h2 : Reps K (upd H1 p (.lst vs)) ds vs F := Reps.keep f1.i h fun a m => upd_ne (nF a m)
  refine ⟨p :: F, Fs, .lst upd_same h2, fr.trans f1, fun a m => ?_, r2.prot (fun a m => ?_) (NoOwn.cons r np no), fun _ => ⟨p, F, rfl, rfl, .lst upd_same h2, fun m => nF p m rfl, fun q => r.tr p q np, fun j m => r.trF m np⟩⟩
  · rcases List.mem_cons.mp m with rfl | m
    · exact r.nb _ np
    · exact b a m
  · rcases List.mem_cons.mp m with rfl | m
    · rw [upd_same]; simp
    · exact h2.tr a m
/-- a new tuple -/
theorem RV.tup {ds : List D} {vs : List V} {p : Addr} (h : Reps K H1 ds vs F) (no : NoOwn s σ F) (b : ∀ a, a ∈ F → B a) (fr : Fr P H H1) (r : SR K P B ia s σ H1 Fs) (np : H1 p = none) : RV K P B ia s σ H (upd H1 p (.tup vs)) false (.tup ds) (.ref p) := by
  have f1 : Fr P H1 (upd H1 p (.tup vs)) := Fr.new np r.tr
  exact .part (.tup (SqT.of upd_same) (Reps.keep f1.i h fun a m => upd_ne fun e => h.tr a m (e ▸ np))) no b (fr.trans f1) (r.new np)

/-! ### what an operand's inside is -/
theorem OV.lst_inv {ds : List D} {x : V} (h : OV K B s σ H (.lst ds) x F) : ∃ a vs G, x = .ref a ∧ H a = some (.lst vs) ∧ Reps K H ds vs G ∧ NoOwn s σ G ∧ ∀ b, b ∈ G → B b := by
  cases h.rep with
  | @lst a _ vs G h1 h2 =>
    refine ⟨a, vs, G, rfl, h1, h2, ?_, fun b m => h.inB b (List.mem_cons_of_mem _ m)⟩
    rcases h.inn with no | ⟨a', G', e1, e2, _, no⟩
    · exact no.sub fun b m => List.mem_cons_of_mem _ m
    · cases e2; exact no
theorem OV.tup_inv {ds : List D} {x : V} (h : OV K B s σ H (.tup ds) x F) : ∃ a vs, x = .ref a ∧ SqT K H a vs ∧ Reps K H ds vs F ∧ NoOwn s σ F := by
  cases h.rep with
  | @tup a _ vs G h1 h2 =>
    refine ⟨a, vs, rfl, h1, h2, ?_⟩
    rcases h.inn with no | ⟨a', G', e1, e2, h3, no⟩
    · exact no
    · cases h3
theorem OV.fro_inv {ds : List D} {x : V} (h : OV K B s σ H (.fro ds) x F) : ∃ a vs, x = .ref a ∧ Fz K H a vs ∧ Reps K H ds vs F ∧ NoOwn s σ F := by
  cases h.rep with
  | @lsz a _ vs G h1 h2 =>
    refine ⟨a, vs, rfl, h1, h2, ?_⟩
    rcases h.inn with no | ⟨a', G', e1, e2, h3, no⟩
    · exact no
    · cases h3
theorem OV.dct_inv {kds : List (Key × D)} {x : V} (h : OV K B s σ H (.dct kds) x F) : ∃ a kvs G, x = .ref a ∧ H a = some (.dK kvs) ∧ RepK K H kds kvs G ∧ NoOwn s σ G ∧ ∀ b, b ∈ G → B b := by
  cases h.rep with
  | @dct a _ vs G h1 h2 =>
    refine ⟨a, vs, G, rfl, h1, h2, ?_, fun b m => h.inB b (List.mem_cons_of_mem _ m)⟩
    rcases h.inn with no | ⟨a', G', e1, e2, _, no⟩
    · exact no.sub fun b m => List.mem_cons_of_mem _ m
    · cases e2; exact no
theorem OV.dcl_inv {kds : List (Key × D)} {x : V} (h : OV K B s σ H (.dcl kds) x F) : ∃ a kvs G, x = .ref a ∧ (∃ od, H a = some (.frz od (.dK kvs))) ∧ RepK K H kds kvs G ∧ NoOwn s σ G ∧ ∀ b, b ∈ G → B b := by
  cases h.rep with
  | @dcl a _ vs G h1 h2 =>
    refine ⟨a, vs, G, rfl, h1, h2, ?_, fun b m => h.inB b (List.mem_cons_of_mem _ m)⟩
    rcases h.inn with no | ⟨a', G', e1, e2, _, no⟩
    · exact no.sub fun b m => List.mem_cons_of_mem _ m
    · cases e2; exact no
theorem OV.int_inv {i : Int} {x : V} (h : OV K B s σ H (.int i) x F) : x = .int i := by cases h.rep; rfl
theorem OV.str_inv {i : Str} {x : V} (h : OV K B s σ H (.str i) x F) : x = .str i := by cases h.rep; rfl
theorem OV.bl_inv {i : Bool} {x : V} (h : OV K B s σ H (.bl i) x F) : x = .bl i := by cases h.rep; rfl
theorem OV.non_inv {x : V} (h : OV K B s σ H .non x F) : x = .non := by cases h.rep; rfl
end

/-! ### two operands by their values -/
/-- the value function g is what the rule r asks -/
def OpD (K : PySem.W.Frag) (g : D → D → Option (Bool × D)) (r : R2) : Prop :=
  ∀ {P B : Addr → Prop} {ia : Nat → Addr} {s : S} {σ : St} {H H0 : Hp} {Fs : Nat → List Addr} {dx dy : D} {q : Bool × D} {x y : V} {F G : List Addr} {Q : VK}, SR K P B ia s σ H Fs → OV K B s σ H dx x F → OV K B s σ H dy y G → Fr P H0 H → g dx dy = some q →
    (∀ v H', RV K P B ia s σ H0 H' q.1 q.2 v → Q v H') → r x y H Q
theorem OpD.or {K : PySem.W.Frag} {g g' : D → D → Option (Bool × D)} {r r' : R2} (h : OpD K g r) (h' : OpD K g' r') : OpD K (fun x y => (g x y).or (g' x y)) (fun x y H Q => r x y H Q ∨ r' x y H Q) := by
  intro P B ia s σ H H0 Fs dx dy q x y F G Q a b c d e f
  have e : (g dx dy).or (g' dx dy) = some q := e
  show r x y H Q ∨ r' x y H Q
  cases z : g dx dy with
  | some w => rw [z] at e; exact .inl (h a b c d (z.trans e) f)
  | none => rw [z] at e; exact .inr (h' a b c d e f)
/-- a pure two-place operation -/
def binM (g : D → D → Option (Bool × D)) (a b : Opd) : M (Bool × D) := op2 a b fun x y s => match g x y with
  | some r => .ok r s
  | none => .stuck
theorem op2_post {α : Type} {a b : Opd} {k : D → D → S → Res α} {s : S} {E : Exn → S → Prop} {Q : α → S → Prop} (h : Post E Q (op2 a b k s)) : Post E (fun (q : D × D) s' => Post E Q (k q.1 q.2 s')) (op2 a b (fun x y s => .ok (x, y) s) s) := by
  unfold op2 at h ⊢
  cases e : a.run s with
  | ok x s1 =>
    rw [e] at h
    simp only [Res.bind_ok] at h ⊢
    cases e2 : b.run s1 with
    | ok y s2 =>
      rw [e2] at h
      simp only [Res.bind_ok] at h ⊢
      cases e3 : a.get s2 x with
      | some dx =>
        cases e4 : b.get s2 y with
        | some dy => rw [e3, e4] at h; exact h
        | none => rw [e3, e4] at h; exact h
      | none => rw [e3] at h; exact h
    | exc z s2 => rw [e2] at h; exact h
    | stuck => rw [e2] at h; exact h
  | exc z s2 => rw [e] at h; exact h
  | stuck => rw [e] at h; exact h
theorem op1_post {α : Type} {a : Opd} {k : D → S → Res α} {s : S} {E : Exn → S → Prop} {Q : α → S → Prop} (h : Post E Q (op1 a k s)) : Post E (fun q s' => Post E Q (k q s')) (op1 a Res.ok s) := by
  unfold op1 at h ⊢
  cases e : a.run s with
  | ok x s1 =>
    rw [e] at h
    simp only [Res.bind_ok] at h ⊢
    cases e3 : a.get s1 x with
    | some dx => rw [e3] at h; exact h
    | none => rw [e3] at h; exact h
  | exc z s2 => rw [e] at h; exact h
  | stuck => rw [e] at h; exact h
theorem tD_op {K : PySem.W.Frag} {E : WX} {g : D → D → Option (Bool × D)} {r : R2} (hd : OpD K g r) {a b : Opd} (σ : St) (H : Hp) (Q : VK) (h : tD K E (binM g a b) σ H Q) : tOp r (rdO K E a) (rdO K E b) σ H Q := by
  obtain ⟨P, B, ia, s, Fs, R, h⟩ := h
  refine rd2 R ((op2_post h).mono (fun _ _ q => q) fun q s' w x y H' F G Fs' o1 o2 fr R' => ?_)
  cases e : g q.1 q.2 with
  | none => rw [e] at w; exact (show False from w).elim
  | some z =>
    rw [e] at w
    exact hd R' o1 o2 fr e w

section
variable {X : Cx} {E : WX} {a b c : Expr} {oa ob oc : Opd} {pos : Pos}
theorem de_op {op : Operator} {g : D → D → Option (Bool × D)} {r : R2} (ho : OpR X (binaryOp op) r) (hd : OpD X.K g r) (ha : PE X a (rdO X.K E oa)) (hb : PE X b (rdO X.K E ob)) : PE X (.BinOp a op b pos) (tD X.K E (binM g oa ob)) :=
  (pe_op ho ha hb).imp (tD_op hd)
theorem de_cmp {op : CmpOp} {g : D → D → Option (Bool × D)} {r : R2} (ho : OpR X (compareOp op) r) (hd : OpD X.K g r) (ha : PE X a (rdO X.K E oa)) (hb : PE X b (rdO X.K E ob)) (hm : behindInMarks op b = false) : PE X (.Compare a [op] [b] pos) (tD X.K E (binM g oa ob)) :=
  (pe_cmpR ho ha hb hm).imp (tD_op hd)
theorem de_ix {g : D → D → Option (Bool × D)} {r : R2} (ho : IxR X r) (hd : OpD X.K g r) (ha : PE X a (rdO X.K E oa)) (hb : PE X b (rdO X.K E ob)) (hs : PlainIx b := by exact fun _ _ => rfl) : PE X (.Subscript a b pos) (tD X.K E (binM g oa ob)) :=
  (pe_ix ho ha hb hs).imp (tD_op hd)
theorem OpR.or {f : Value → Value → Sem Value} {r r' : R2} (h : OpR X f r) (h' : OpR X f r') : OpR X f (fun x y H Q => r x y H Q ∨ r' x y H Q) := fun pins s σ H x y v u Q I rx ry q => q.elim (h pins s σ H x y v u Q I rx ry) (h' pins s σ H x y v u Q I rx ry)
end

/-! ### + - * // % -/
def addD : D → D → Option (Bool × D)
  | .int i, .int j => some (false, .int (i + j))
  | .str x, .str y => if x.length + y.length ≤ sizeLine then some (false, .str (x ++ y)) else none
  | .lst xs, .lst ys => if xs.length + ys.length ≤ sizeLine then some (true, .lst (xs ++ ys)) else none
  | .tup xs, .tup ys => if xs.length + ys.length ≤ sizeLine then some (false, .tup (xs ++ ys)) else none
  | _, _ => none
def rAdd (K : PySem.W.Frag) : R2 := fun x y H Q => rI0 (fun i j => .int (i + j)) x y H Q ∨ (∃ i j, x = .str i ∧ y = .str j ∧ i.length + j.length ≤ sizeLine ∧ Q (.str (i ++ j)) H) ∨ rCat x y H Q ∨ rCatA K x y H Q
theorem opd_add {K : PySem.W.Frag} : OpD K addD (rAdd K) := by
  intro P B ia s σ H H0 Fs dx dy q x y F G Q R o1 o2 fr e k
  unfold addD at e
  split at e
  · cases e; exact .inl ⟨_, _, o1.int_inv, o2.int_inv, k _ _ (.flat .int fr R)⟩
  · split at e
    · rename_i hz
      cases e
      exact .inr (.inl ⟨_, _, o1.str_inv, o2.str_inv, hz, k _ _ (.flat .str fr R)⟩)
    · cases e
  · split at e
    · rename_i hz
      cases e
      obtain ⟨a, vs, F', e1, h1, h2, no, ib⟩ := o1.lst_inv
      obtain ⟨a', vs', F'', e1', h1', h2', no', ib'⟩ := o2.lst_inv
      exact .inr (.inr (.inl ⟨a, a', vs, vs', e1, e1', h1, h1', by rw [← h2.length, ← h2'.length]; exact hz, fun p np => k _ _ (.lst (h2.append h2') (no.app no') (fun b m => (List.mem_append.mp m).elim (ib b) (ib' b)) fr R np)⟩))
    · cases e
  · split at e
    · rename_i hz
      cases e
      obtain ⟨a, vs, e1, h1, h2, no⟩ := o1.tup_inv
      obtain ⟨a', vs', e1', h1', h2', no'⟩ := o2.tup_inv
      refine .inr (.inr (.inr ⟨a, a', vs, vs', e1, e1', h1, h1', by rw [← h2.length, ← h2'.length]; exact hz, fun en => ?_, fun _ en => ?_, fun _ _ p np => k _ _ (.tup (h2.append h2') (no.app no') (fun b m => (List.mem_append.mp m).elim (o1.inB b) (o2.inB b)) fr R np)⟩))
      · subst en
        cases h2
        exact k _ _ (.part (.tup h1' h2') no' o2.inB fr R)
      · subst en
        cases h2'
        exact k _ _ (.part (F := F) (.tup h1 (by simpa using h2)) no o1.inB fr R)
    · cases e
  · cases e
theorem or_add {X : Cx} : OpR X (binaryOp .Add) (rAdd X.K) := OpR.or op_add (OpR.or op_add_str (OpR.or op_cat op_catA))
/-- two ints, an int -/
def intD (C : Int → Int → Bool) (f : Int → Int → Int) : D → D → Option (Bool × D)
  | .int i, .int j => if C i j then some (false, .int (f i j)) else none
  | _, _ => none
theorem opd_int {K : PySem.W.Frag} {C : Int → Int → Bool} {C' : Int → Int → Prop} {f : Int → Int → Int} (h : ∀ i j, C i j = true → C' i j) : OpD K (intD C f) (rI C' fun i j => .int (f i j)) := by
  intro P B ia s σ H H0 Fs dx dy q x y F G Q R o1 o2 fr e k
  unfold intD at e
  split at e
  · split at e
    · rename_i hc
      cases e; exact ⟨_, _, o1.int_inv, o2.int_inv, h _ _ hc, k _ _ (.flat .int fr R)⟩
    · cases e
  · cases e
theorem opd_int0 {K : PySem.W.Frag} {f : Int → Int → Int} : OpD K (intD (fun _ _ => true) f) (rI0 fun i j => .int (f i j)) := by
  intro P B ia s σ H H0 Fs dx dy q x y F G Q R o1 o2 fr e k
  unfold intD at e
  split at e
  · cases e; exact ⟨_, _, o1.int_inv, o2.int_inv, k _ _ (.flat .int fr R)⟩
  · cases e
abbrev subD := intD (fun _ _ => true) fun i j => i - j
noncomputable abbrev mulD := intD (fun i j => gd ((-(2 ^ 64) < i ∧ i < 2 ^ 64) ∨ (-(2 ^ 64) < j ∧ j < 2 ^ 64))) fun i j => i * j
noncomputable abbrev divD := intD (fun _ j => gd (0 < j ∧ j < 1073741824)) fun i j => i / j
abbrev modD := intD (fun _ j => decide (0 < j)) fun i j => i % j
theorem opd_mul {K : PySem.W.Frag} : OpD K mulD (rI CMul fun i j => .int (i * j)) := opd_int fun _ _ h => gd_iff.mp h
theorem opd_div {K : PySem.W.Frag} : OpD K divD (rI CDiv fun i j => .int (i / j)) := opd_int fun _ _ h => gd_iff.mp h
theorem opd_mod {K : PySem.W.Frag} : OpD K modD (rI (fun _ j => 0 < j) fun i j => .int (i % j)) := opd_int fun _ _ h => of_decide_eq_true h

/-! ### comparisons -/
mutual
/-- the value as data -/
def D.py : D → Option PyData
  | .non => some .none
  | .bl b => some (.bool b)
  | .int i => some (.int i)
  | .str x => some (.str x)
  | .tup ds => (D.pys ds).map .tuple
  | .lst ds => (D.pys ds).map .list
  | .fro ds => (D.pys ds).map .list
  | .dct _ => none
  | .dcl _ => none
  | .ty _ => none
def D.pys : List D → Option (List PyData)
  | [] => some []
  | d :: ds => (D.py d).bind fun x => (D.pys ds).map fun xs => x :: xs
end
mutual
theorem Rep.dp {K : PySem.W.Frag} {H : Hp} : ∀ {d : D} {v : V} {F : List Addr} {p : PyData}, Rep K H d v F → d.py = some p → Dp K H v p
  | .non, _, _, _, h, e => by cases h; cases e; exact .non
  | .bl _, _, _, _, h, e => by cases h; cases e; exact .bl _
  | .int _, _, _, _, h, e => by cases h; cases e; exact .int _
  | .str _, _, _, _, h, e => by cases h; cases e; exact .str _
  | .ty _, _, _, _, h, e => by cases e
  | .dct _, _, _, _, h, e => by cases e
  | .dcl _, _, _, _, h, e => by cases e
  | .tup ds, _, _, _, h, e => by
    cases h with
    | tup h1 h2 =>
      rw [D.py] at e
      obtain ⟨ps, e1, e2⟩ := Option.map_eq_some_iff.mp e
      subst e2
      exact .tup h1 (Reps.dp h2 e1)
  | .lst ds, _, _, _, h, e => by
    cases h with
    | lst h1 h2 =>
      rw [D.py] at e
      obtain ⟨ps, e1, e2⟩ := Option.map_eq_some_iff.mp e
      subst e2
      exact .lst (SqL.of h1) (Reps.dp h2 e1)
  | .fro ds, _, _, _, h, e => by
    cases h with
    | lsz h1 h2 =>
      rw [D.py] at e
      obtain ⟨ps, e1, e2⟩ := Option.map_eq_some_iff.mp e
      subst e2
      exact .lst (fz_sq h1) (Reps.dp h2 e1)
theorem Reps.dp {K : PySem.W.Frag} {H : Hp} : ∀ {ds : List D} {vs : List V} {F : List Addr} {ps : List PyData}, Reps K H ds vs F → D.pys ds = some ps → DpAll K H vs ps
  | [], _, _, _, h, e => by cases h; cases e; exact .nil
  | d :: ds, _, _, _, h, e => by
    cases h with
    | cons h1 h2 =>
      rw [D.pys] at e
      obtain ⟨x, e1, e2⟩ := Option.bind_eq_some_iff.mp e
      obtain ⟨xs, e3, e4⟩ := Option.map_eq_some_iff.mp e2
      subst e4
      exact .cons (Rep.dp h1 e1) (Reps.dp h2 e3)
end
def D.shp (d : D) : Option PyData := d.py.bind fun p => if SeqAt.shaped p then some p else none
theorem D.shp_inv {d : D} {p : PyData} (h : d.shp = some p) : d.py = some p ∧ SeqAt.shaped p = true := by
  unfold D.shp at h
  obtain ⟨x, e1, e2⟩ := Option.bind_eq_some_iff.mp h
  split at e2
  · rename_i hs; cases e2; exact ⟨e1, hs⟩
  · cases e2
/-- == -/
def eqD (x y : D) : Option Bool := x.shp.bind fun p => y.shp.map fun q => PyData.eqv p q
def eqDD (neg : Bool) (x y : D) : Option (Bool × D) := (eqD x y).map fun b => (false, .bl (if neg then !b else b))
theorem opd_eq {K : PySem.W.Frag} : OpD K (eqDD false) (rEqD K) := by
  intro P B ia s σ H H0 Fs dx dy q x y F G Q R o1 o2 fr e k
  unfold eqDD eqD at e
  obtain ⟨b, e1, e2⟩ := Option.map_eq_some_iff.mp e
  obtain ⟨p, e3, e4⟩ := Option.bind_eq_some_iff.mp e1
  obtain ⟨p', e5, e6⟩ := Option.map_eq_some_iff.mp e4
  obtain ⟨g1, g2⟩ := D.shp_inv e3
  obtain ⟨g3, g4⟩ := D.shp_inv e5
  subst e2 e6
  exact ⟨p, p', o1.rep.dp g1, o2.rep.dp g3, g2, g4, k _ _ (.flat .bl fr R)⟩
theorem opd_ne {K : PySem.W.Frag} : OpD K (eqDD true) (rNeD K) := by
  intro P B ia s σ H H0 Fs dx dy q x y F G Q R o1 o2 fr e k
  unfold eqDD eqD at e
  obtain ⟨b, e1, e2⟩ := Option.map_eq_some_iff.mp e
  obtain ⟨p, e3, e4⟩ := Option.bind_eq_some_iff.mp e1
  obtain ⟨p', e5, e6⟩ := Option.map_eq_some_iff.mp e4
  obtain ⟨g1, g2⟩ := D.shp_inv e3
  obtain ⟨g3, g4⟩ := D.shp_inv e5
  subst e2 e6
  exact ⟨p, p', o1.rep.dp g1, o2.rep.dp g3, g2, g4, k _ _ (.flat .bl fr R)⟩
/-- < and its like: ints, texts -/
def ordD (f : Int → Int → Bool) (g : List Nat → List Nat → Bool) : D → D → Option (Bool × D)
  | .int i, .int j => some (false, .bl (f i j))
  | .str x, .str y => some (false, .bl (g x.cps.toList y.cps.toList))
  | _, _ => none
abbrev ltD := ordD (fun i j => decide (i < j)) fun x y => decide (x < y)
abbrev leD := ordD (fun i j => decide (i ≤ j)) fun x y => !decide (y < x)
abbrev gtD := ordD (fun i j => decide (j < i)) fun x y => decide (y < x)
abbrev geD := ordD (fun i j => decide (j ≤ i)) fun x y => !decide (x < y)
def rOrd (f : Int → Int → Bool) (g : List Nat → List Nat → Bool) : R2 := fun x y H Q => rI0 (fun i j => .bl (f i j)) x y H Q ∨ ∃ i j, x = .str i ∧ y = .str j ∧ Q (.bl (g i.cps.toList j.cps.toList)) H
theorem opd_ord {K : PySem.W.Frag} {f : Int → Int → Bool} {g : List Nat → List Nat → Bool} : OpD K (ordD f g) (rOrd f g) := by
  intro P B ia s σ H H0 Fs dx dy q x y F G Q R o1 o2 fr e k
  unfold ordD at e
  split at e
  · cases e; exact .inl ⟨_, _, o1.int_inv, o2.int_inv, k _ _ (.flat .bl fr R)⟩
  · cases e; exact .inr ⟨_, _, o1.str_inv, o2.str_inv, k _ _ (.flat .bl fr R)⟩
  · cases e
section
variable {X : Cx}
theorem or_lt : OpR X (compareOp .Lt) (rOrd (fun i j => decide (i < j)) fun x y => decide (x < y)) := OpR.or op_lt op_lt_str
theorem or_le : OpR X (compareOp .LtE) (rOrd (fun i j => decide (i ≤ j)) fun x y => !decide (y < x)) := OpR.or op_le op_le_str
theorem or_gt : OpR X (compareOp .Gt) (rOrd (fun i j => decide (j < i)) fun x y => decide (y < x)) := OpR.or op_gt op_gt_str
theorem or_ge : OpR X (compareOp .GtE) (rOrd (fun i j => decide (j ≤ i)) fun x y => !decide (x < y)) := OpR.or op_ge op_ge_str
end
/-- is None, is not None -/
def isD (neg : Bool) : D → D → Option (Bool × D)
  | .non, .non => some (false, .bl (!neg))
  | _, .non => some (false, .bl neg)
  | _, _ => none
theorem opd_isN {K : PySem.W.Frag} : OpD K (isD false) (fun x y H Q => y = .non ∧ Q (.bl (decide (x = .non))) H) := by
  intro P B ia s σ H H0 Fs dx dy q x y F G Q R o1 o2 fr e k
  unfold isD at e
  split at e
  · cases e
    refine ⟨o2.non_inv, ?_⟩
    rw [o1.non_inv]
    exact k _ _ (.flat .bl fr R)
  · rename_i hn
    cases e
    refine ⟨o2.non_inv, ?_⟩
    have : x ≠ .non := fun e => by
      subst e
      have := o1.rep
      cases this
      exact hn rfl
    rw [decide_eq_false this]
    exact k _ _ (.flat .bl fr R)
  · cases e
theorem opd_notN {K : PySem.W.Frag} : OpD K (isD true) (fun x y H Q => y = .non ∧ Q (.bl (!decide (x = .non))) H) := by
  intro P B ia s σ H H0 Fs dx dy q x y F G Q R o1 o2 fr e k
  unfold isD at e
  split at e
  · cases e
    refine ⟨o2.non_inv, ?_⟩
    rw [o1.non_inv]
    exact k _ _ (.flat .bl fr R)
  · rename_i hn
    cases e
    refine ⟨o2.non_inv, ?_⟩
    have : x ≠ .non := fun e => by
      subst e
      have := o1.rep
      cases this
      exact hn rfl
    rw [decide_eq_false this]
    exact k _ _ (.flat .bl fr R)
  · cases e

/-! ### in, not in -/
/-- a flat value as V -/
def D.flt : D → Option V
  | .non => some .non
  | .bl b => some (.bl b)
  | .int i => some (.int i)
  | .str x => some (.str x)
  | _ => none
theorem Rep.flt {K : PySem.W.Frag} {H : Hp} {d : D} {v w : V} {F : List Addr} (h : Rep K H d v F) (e : d.flt = some w) : v = w ∧ flatV v = true := by
  cases h <;> cases e <;> exact ⟨rfl, rfl⟩
def flts : List D → Option (List V)
  | [] => some []
  | d :: ds => d.flt.bind fun v => (flts ds).map fun vs => v :: vs
theorem Reps.flts {K : PySem.W.Frag} {H : Hp} : ∀ {ds : List D} {vs ws : List V} {F : List Addr}, Reps K H ds vs F → PV.flts ds = some ws → vs = ws ∧ vs.all flatV = true
  | [], _, _, _, h, e => by cases h; cases e; exact ⟨rfl, rfl⟩
  | d :: ds, _, _, _, h, e => by
    cases h with
    | cons h1 h2 =>
      rw [PV.flts] at e
      obtain ⟨x, e1, e2⟩ := Option.bind_eq_some_iff.mp e
      obtain ⟨xs, e3, e4⟩ := Option.map_eq_some_iff.mp e2
      subst e4
      obtain ⟨rfl, f1⟩ := h1.flt e1
      obtain ⟨rfl, f2⟩ := h2.flts e3
      exact ⟨rfl, by rw [List.all_cons, f1, f2]; rfl⟩
/-- a key as V -/
def D.key : D → Option Key
  | .int i => some (.inl i)
  | .str x => some (.inr x)
  | _ => none
theorem Rep.key {K : PySem.W.Frag} {H : Hp} {d : D} {v : V} {F : List Addr} {k : Key} (h : Rep K H d v F) (e : d.key = some k) : v = kV k := by
  cases h <;> cases e <;> rfl
/-- what a dict holds at a key -/
def kget (kds : List (Key × D)) (k : Key) : Option D := (kds.find? fun q => decide (q.1 = k)).map (·.2)
theorem RepK.get {K : PySem.W.Frag} {H : Hp} (k : Key) : ∀ {kds : List (Key × D)} {kvs : List (Key × V)} {F : List Addr}, RepK K H kds kvs F →
    (kget kds k = none ∧ valV kvs k = none) ∨ ∃ d v G, kget kds k = some d ∧ valV kvs k = some v ∧ Rep K H d v G ∧ ∀ a, a ∈ G → a ∈ F
  | [], _, _, h => by cases h; exact .inl ⟨rfl, rfl⟩
  | (k', d) :: ds, _, _, h => by
    cases h with
    | @cons _ _ v F _ vs G h1 h2 =>
      by_cases e : k' = k
      · refine .inr ⟨d, v, F, ?_, valV_pos (p := (k', v)) e, h1, fun a m => List.mem_append_left _ m⟩
        simp [kget, List.find?_cons, e]
      · have e1 : kget ((k', d) :: ds) k = kget ds k := by simp [kget, List.find?_cons, e]
        have e2 : valV ((k', v) :: vs) k = valV vs k := valV_neg (p := (k', v)) e
        rw [e1, e2]
        rcases RepK.get k h2 with q | ⟨d', v', G', q1, q2, q3, q4⟩
        · exact .inl q
        · exact .inr ⟨d', v', G', q1, q2, q3, fun a m => List.mem_append_right _ (q4 a m)⟩
/-- c in s of texts: the model's own word -/
def inStr (i j : Str) : Bool := !(Builtin.Str.occurrences j i 0 j.length 1).isEmpty
def inD (neg : Bool) (x y : D) : Option (Bool × D) := match x, y with
  | .str i, .str j => some (false, .bl (if neg then !inStr i j else inStr i j))
  | x, .dct kds => x.key.map fun k => (false, .bl (if neg then !(kget kds k).isSome else (kget kds k).isSome))
  | x, .dcl kds => x.key.map fun k => (false, .bl (if neg then !(kget kds k).isSome else (kget kds k).isSome))
  | x, .tup ds => x.flt.bind fun v => (flts ds).map fun vs => (false, .bl (if neg then !inV v vs else inV v vs))
  | x, .lst ds => match x.flt.bind fun v => (flts ds).map fun vs => (false, D.bl (if neg then !inV v vs else inV v vs)) with
    | some r => some r
    | none => x.shp.bind fun p => (D.lst ds).shp.bind fun q => match q with
      | .list ps => some (false, .bl (if neg then !(ps.any fun z => PyData.eqv z p) else ps.any fun z => PyData.eqv z p))
      | _ => none
  | _, _ => none
/-- the dict's part of in -/
def rInK (neg : Bool) : R2 := fun x y H Q => ∃ a kvs k, y = .ref a ∧ Rd H a (.dK kvs) ∧ x = kV k ∧ Q (.bl (if neg then !(valV kvs k).isSome else (valV kvs k).isSome)) H
def rInA (K : PySem.W.Frag) (neg : Bool) : R2 := fun x y H Q => (∃ i j, x = .str i ∧ y = .str j ∧ Q (.bl (if neg then !inStr i j else inStr i j)) H) ∨ rInK neg x y H Q ∨ rIn K neg x y H Q ∨ (if neg then rNotInD K else rInD K) x y H Q
theorem opd_in {K : PySem.W.Frag} {neg : Bool} : OpD K (inD neg) (rInA K neg) := by
  intro P B ia s σ H H0 Fs dx dy q x y F G Q R o1 o2 fr e k
  unfold inD at e
  split at e
  · cases e; exact .inl ⟨_, _, o1.str_inv, o2.str_inv, k _ _ (.flat .bl fr R)⟩
  · rename_i kds
    obtain ⟨kk, e1, e2⟩ := Option.map_eq_some_iff.mp e
    cases e2
    obtain ⟨a, kvs, G', ea, h1, h2, no, ib⟩ := o2.dct_inv
    refine .inr (.inl ⟨a, kvs, kk, ea, .inl h1, o1.rep.key e1, ?_⟩)
    have : (valV kvs kk).isSome = (kget kds kk).isSome := by
      rcases h2.get kk with ⟨q1, q2⟩ | ⟨d, v, G', q1, q2, _⟩
      · rw [q1, q2] <;> rfl
      · rw [q1, q2] <;> rfl
    rw [this]
    exact k _ _ (.flat .bl fr R)
  · rename_i kds
    obtain ⟨kk, e1, e2⟩ := Option.map_eq_some_iff.mp e
    cases e2
    obtain ⟨a, kvs, G', ea, h1, h2, no, ib⟩ := o2.dcl_inv
    refine .inr (.inl ⟨a, kvs, kk, ea, (.inr h1), o1.rep.key e1, ?_⟩)
    have : (valV kvs kk).isSome = (kget kds kk).isSome := by
      rcases h2.get kk with ⟨q1, q2⟩ | ⟨d, v, G', q1, q2, _⟩
      · rw [q1, q2] <;> rfl
      · rw [q1, q2] <;> rfl
    rw [this]
    exact k _ _ (.flat .bl fr R)
  · obtain ⟨v, e1, e2⟩ := Option.bind_eq_some_iff.mp e
    obtain ⟨vs, e3, e4⟩ := Option.map_eq_some_iff.mp e2
    cases e4
    obtain ⟨a, ws, ea, h1, h2, no⟩ := o2.tup_inv
    obtain ⟨rfl, f1⟩ := o1.rep.flt e1
    obtain ⟨rfl, f2⟩ := h2.flts e3
    exact .inr (.inr (.inl ⟨a, ws, ea, .inr h1, f1, f2, k _ _ (.flat .bl fr R)⟩))
  · split at e
    · rename_i r hr
      cases e
      obtain ⟨v, e1, e2⟩ := Option.bind_eq_some_iff.mp hr
      obtain ⟨vs, e3, e4⟩ := Option.map_eq_some_iff.mp e2
      cases e4
      obtain ⟨a, ws, G', ea, h1, h2, no, ib⟩ := o2.lst_inv
      obtain ⟨rfl, f1⟩ := o1.rep.flt e1
      obtain ⟨rfl, f2⟩ := h2.flts e3
      exact .inr (.inr (.inl ⟨a, ws, ea, .inl (SqL.of h1), f1, f2, k _ _ (.flat .bl fr R)⟩))
    · obtain ⟨p, e1, e2⟩ := Option.bind_eq_some_iff.mp e
      obtain ⟨q', e3, e4⟩ := Option.bind_eq_some_iff.mp e2
      split at e4
      · rename_i ps
        cases e4
        obtain ⟨g1, g2⟩ := D.shp_inv e1
        obtain ⟨g3, g4⟩ := D.shp_inv e3
        refine .inr (.inr (.inr ?_))
        cases neg with
        | true => exact ⟨p, ps, o1.rep.dp g1, o2.rep.dp g3, g2, g4, k _ _ (.flat .bl fr R)⟩
        | false => exact ⟨p, ps, o1.rep.dp g1, o2.rep.dp g3, g2, g4, k _ _ (.flat .bl fr R)⟩
      · cases e4
  · cases e
section
variable {X : Cx}
theorem op_inK (hu : X.A.units + 1 < cLine) : OpR X (compareOp .In) (rInK false) := by
  intro pins s σ H x y v u Q I rx ry h
  obtain ⟨a, kvs, k, rfl, h1, rfl, q⟩ := h
  cases ry
  exact d_in hu I (.inl ⟨kvs, k, h1, rfl, rfl⟩) rx fun s' I' => ⟨.bl _, H, I', rfl, q⟩
theorem op_notinK (hu : X.A.units + 1 < cLine) : OpR X (compareOp .NotIn) (rInK true) := by
  intro pins s σ H x y v u Q I rx ry h
  obtain ⟨a, kvs, k, rfl, h1, rfl, q⟩ := h
  cases ry
  exact d_notIn hu I (.inl ⟨kvs, k, h1, rfl, rfl⟩) rx fun s' I' => ⟨.bl _, H, I', rfl, q⟩
theorem or_in (hu : X.A.units + 65 < cLine) : OpR X (compareOp .In) (rInA X.K false) := OpR.or op_in_str (OpR.or (op_inK (by omega)) (OpR.or op_in_seq (op_inD hu)))
theorem or_notin (hu : X.A.units + 65 < cLine) : OpR X (compareOp .NotIn) (rInA X.K true) := OpR.or op_notin_str (OpR.or (op_notinK (by omega)) (OpR.or op_notIn_seq (op_notInD hu)))
end
end PV

/-! PV: operands in a row; subscripts, slices, truth, tests, displays, names. -/
namespace PV
open PySem PySem.Spec L2

/-! ### any number of operands -/
def rdOs (K : PySem.W.Frag) (E : WX) : List Opd → TA
  | [] => tNil
  | o :: os => tCons (rdO K E o) (rdOs K E os)
def runs : List Opd → M (List (Option D))
  | [] => fun s => .ok [] s
  | o :: os => fun s => (o.run s).bind fun x s1 => (runs os s1).bind fun xs s2 => .ok (x :: xs) s2
def gets (s : S) : List Opd → List (Option D) → Option (List D)
  | [], _ => some []
  | o :: os, x :: xs => match o.get s x, gets s os xs with
    | some d, some ds => some (d :: ds)
    | _, _ => none
  | _ :: _, [] => none
def opsM {α : Type} (os : List Opd) (k : List D → S → Res α) : M α := fun s => (runs os s).bind fun xs s1 => match gets s1 os xs with
  | some ds => k ds s1
  | none => .stuck
def Opd.isEx : Opd → Bool
  | .ex _ => true
  | .sl _ => false
inductive OVs (K : PySem.W.Frag) (B : Addr → Prop) (s : S) (σ : St) (H : Hp) : List Opd → List D → List V → List (List Addr) → Prop
  | nil : OVs K B s σ H [] [] [] []
  | cons {o : Opd} {os : List Opd} {d : D} {ds : List D} {v : V} {vs : List V} {F : List Addr} {Fs : List (List Addr)} : OV K B s σ H d v F → (o.isEx = true → NoOwn s σ F) →
      (∀ i, o = .sl i → ∃ w, s[i]? = some (some (w, d)) ∧ σ[i]? = some (some v)) → OVs K B s σ H os ds vs Fs → OVs K B s σ H (o :: os) (d :: ds) (v :: vs) (F :: Fs)
section
variable {K : PySem.W.Frag} {B : Addr → Prop} {ia : Nat → Addr} {σ : St} {E : WX}
theorem rdN (os : List Opd) : ∀ {P : Addr → Prop} {s : S} {H : Hp} {Fs : Nat → List Addr} {R : List V → Hp → Prop}, SR K P B ia s σ H Fs →
    Post (fun x s' => ∀ cls dx H', RX K P B ia s' σ H H' x cls dx → E cls dx σ H') (fun xs s' => ∀ vs H' Fs', (∀ ds, gets s' os xs = some ds → ∃ Gs, OVs K B s' σ H' os ds vs Gs) → Fr P H H' → SR K P B ia s' σ H' Fs' → R vs H') (runs os s) →
    rdOs K E os σ H R := by
  induction os with
  | nil =>
    intro P s H Fs R r h
    exact h [] H Fs (fun ds e => by cases e; exact ⟨[], .nil⟩) Fr.refl r
  | cons o os ih =>
    intro P s H Fs R r h
    cases o with
    | ex f =>
      refine ⟨P, B, ia, s, Fs, r, ?_⟩
      have h' := Post.bind (Post.bind (r := (f s).bind fun (r : Bool × D) s' => Res.ok (some r.2) s') h)
      refine h'.mono (fun _ _ q => q) fun a s1 q v H1 w => ?_
      obtain ⟨F, Fs1, h1, h2, h3, h4, h5⟩ := w
      have q' := Post.bind (r := runs os s1) q
      refine ih h4 (q'.mono (fun x s2 e cls dx H2 w2 => e cls dx H2 (w2.weak h2 fun b m => .inl m)) fun xs s2 e vs H2 Fs2 g fr r2 => ?_)
      refine e (v :: vs) H2 Fs2 (fun ds ed => ?_) (h2.trans (fr.mono fun b m => .inl m)) (r2.weak fun b m => .inl m)
      simp only [gets, Opd.get] at ed
      cases eg : gets s2 os xs with
      | none => rw [eg] at ed; cases ed
      | some ds' =>
        rw [eg] at ed; cases ed
        obtain ⟨Gs, hg⟩ := g ds' eg
        have no : NoOwn s2 σ F := r2.noOwn fun a m => .inr m
        exact ⟨F :: Gs, .cons ⟨h1.keep fr.i fun a m => fr.p a (.inr m), h3, .inl no⟩ (fun _ => no) (fun i e => nomatch e) hg⟩
    | sl i =>
      simp only [runs, Opd.run] at h
      match e : s[i]? with
      | some none => simp only [e] at h; exact h.elim
      | none => simp only [e] at h; exact h.elim
      | some (some (o, d)) =>
        obtain ⟨v, F, hv, h2⟩ := r.opd e
        simp only [e, Res.bind_ok] at h
        refine ⟨v, hv, ?_⟩
        have h' := Post.bind (r := runs os s) h
        refine ih r (h'.mono (fun _ _ q => q) fun xs s2 q vs H2 Fs2 g fr r2 => ?_)
        refine q (v :: vs) H2 Fs2 (fun ds ed => ?_) fr r2
        simp only [gets, Opd.get] at ed
        match e2 : s2[i]? with
        | some none => rw [e2] at ed; cases ed
        | none => rw [e2] at ed; cases ed
        | some (some (o2, d2)) =>
          rw [e2] at ed
          cases eg : gets s2 os xs with
          | none => rw [eg] at ed; cases ed
          | some ds' =>
            rw [eg] at ed; cases ed
            obtain ⟨Gs, hg⟩ := g ds' eg
            obtain ⟨w, G, e3, e4⟩ := r2.opd e2
            rw [hv] at e3; cases e3
            exact ⟨G :: Gs, .cons e4 (fun z => nomatch z) (fun j z => by cases z; exact ⟨o2, e2, hv⟩) hg⟩
theorem rdOps {P : Addr → Prop} {s : S} {H : Hp} {Fs : Nat → List Addr} {α : Type} {k : List D → S → Res α} {os : List Opd} {R : List V → Hp → Prop} {QX : Exn → S → Prop} {Q : α → S → Prop} (r : SR K P B ia s σ H Fs)
    (h : Post QX Q (opsM os k s)) (hx : ∀ x s', QX x s' → ∀ cls dx H', RX K P B ia s' σ H H' x cls dx → E cls dx σ H')
    (hk : ∀ ds s' vs H' Gs Fs', Post QX Q (k ds s') → OVs K B s' σ H' os ds vs Gs → Fr P H H' → SR K P B ia s' σ H' Fs' → R vs H') : rdOs K E os σ H R := by
  refine rdN os r ((Post.bind (r := runs os s) h).mono hx fun xs s' q vs H' Fs' g fr r' => ?_)
  cases eg : gets s' os xs with
  | none => rw [eg] at q; exact q.elim
  | some ds =>
    rw [eg] at q
    obtain ⟨Gs, hg⟩ := g ds eg
    exact hk ds s' vs H' Gs Fs' q hg fr r'
/-- all that expressions brought, as one row -/
theorem OVs.reps {s : S} {H : Hp} : ∀ {os : List Opd} {ds : List D} {vs : List V} {Gs : List (List Addr)}, OVs K B s σ H os ds vs Gs → os.all Opd.isEx = true → ∃ G, Reps K H ds vs G ∧ NoOwn s σ G ∧ ∀ a, a ∈ G → B a
  | _, _, _, _, .nil, _ => ⟨[], .nil, .nil, fun _ m => nomatch m⟩
  | _, _, _, _, .cons h1 h2 _ h4, e => by
    rw [List.all_cons, Bool.and_eq_true] at e
    obtain ⟨G, g1, g2, g3⟩ := h4.reps e.2
    exact ⟨_, .cons h1.rep g1, (h2 e.1).app g2, fun a m => (List.mem_append.mp m).elim (h1.inB a) (g3 a)⟩
theorem OVs.length {s : S} {H : Hp} : ∀ {os : List Opd} {ds : List D} {vs : List V} {Gs : List (List Addr)}, OVs K B s σ H os ds vs Gs → ds.length = vs.length ∧ ds.length = os.length
  | _, _, _, _, .nil => ⟨rfl, rfl⟩
  | _, _, _, _, .cons h1 h2 _ h4 => ⟨by simp [h4.length.1], by simp [h4.length.2]⟩
end

/-! ### names, constants -/
def constM (d : D) : M (Bool × D) := fun s => .ok (false, d) s
/-- a name read: what was one's own is shared from then on -/
def varM (i : Nat) : M (Bool × D) := fun s => match s[i]? with
  | some (some (.sh, d)) => .ok (false, d) s
  | some (some (.ow, d)) => .ok (false, d) (s.set i (some (.sh, d)))
  | _ => .stuck
/-- a name read for the last time -/
def moveM (i : Nat) : M (Bool × D) := fun s => match s[i]? with
  | some (some (.sh, d)) => .ok (false, d) s
  | some (some (.ow, d)) => .ok (true, d) (s.set i none)
  | _ => .stuck
section
variable {K : PySem.W.Frag} {P B : Addr → Prop} {ia : Nat → Addr} {s : S} {σ : St} {H H' H1 : Hp} {Fs : Nat → List Addr} {E : WX} {d : D} {v : V} {F : List Addr}
theorem get_set_eq {s : S} {i : Nat} {x y : Slot} (h : s[i]? = some x) : (s.set i y)[i]? = some y := List.getElem?_set_self (List.getElem?_eq_some_iff.mp h).1
theorem get_set_ne {s : S} {i j : Nat} {y : Slot} (h : j ≠ i) : (s.set i y)[j]? = s[j]? := List.getElem?_set_ne fun e => h e.symm
/-- what was one's own is shared -/
theorem SR.share (r : SR K P B ia s σ H Fs) {i : Nat} {o : Own} (e : s[i]? = some (some (o, d))) : SR K P B ia (s.set i (some (.sh, d))) σ H Fs := by
  refine ⟨by simp [r.len], fun j o' d' q => ?_, fun j o' d' q n => ?_, fun j d' q => ?_, fun j q => ?_, r.inB, r.tr, r.nb⟩
  · by_cases h : j = i
    · subst h
      rw [get_set_eq e] at q; cases q
      exact r.rep j _ d e
    · rw [get_set_ne h] at q; exact r.rep j o' d' q
  · by_cases h : j = i
    · subst h
      rw [get_set_eq e] at q; cases q
      exact absurd rfl n
    · rw [get_set_ne h] at q; exact r.own j o' d' q n
  · by_cases h : j = i
    · subst h
      rw [get_set_eq e] at q; cases q
    · rw [get_set_ne h] at q; exact r.iov j d' q
  · by_cases h : j = i
    · subst h
      exact absurd (get_set_eq e) (q .sh d)
    · exact r.dead j fun o' d' z => q o' d' (by rw [get_set_ne h]; exact z)
/-- a slot falls -/
theorem SR.kill (r : SR K P B ia s σ H Fs) {i : Nat} {x : Slot} (e : s[i]? = some x) : SR K P B ia (s.set i none) σ H (fun j => if j = i then [] else Fs j) := by
  refine ⟨by simp [r.len], fun j o' d' q => ?_, fun j o' d' q n => ?_, fun j d' q => ?_, fun j q => ?_, fun j a m => ?_, r.tr, r.nb⟩
  · by_cases h : j = i
    · subst h
      rw [get_set_eq e] at q; cases q
    · rw [get_set_ne h] at q; rw [if_neg h]; exact r.rep j o' d' q
  · by_cases h : j = i
    · subst h
      rw [get_set_eq e] at q; cases q
    · rw [get_set_ne h] at q; rw [if_neg h]
      obtain ⟨a, F, h1, h2, h3, h4, h5, h6⟩ := r.own j o' d' q n
      refine ⟨a, F, h1, h2, h3, h4, h5, fun k hk => ?_⟩
      by_cases hk2 : k = i
      · rw [if_pos hk2]; simp
      · rw [if_neg hk2]; exact h6 k hk
  · by_cases h : j = i
    · subst h
      rw [get_set_eq e] at q; cases q
    · rw [get_set_ne h] at q; exact r.iov j d' q
  · by_cases h : j = i
    · rw [if_pos h]
    · rw [if_neg h]
      exact r.dead j fun o' d' z => q o' d' (by rw [get_set_ne h]; exact z)
  · by_cases h : j = i
    · rw [if_pos h] at m; cases m
    · rw [if_neg h] at m; exact r.inB j a m
theorem tD_const {E : WX} {d : D} {v : V} (h : ∀ H, Rep K H d v []) (σ : St) (H : Hp) (Q : VK) (w : tD K E (constM d) σ H Q) : tC v σ H Q := by
  obtain ⟨P, B, ia, s, Fs, r, w⟩ := w
  exact w v H (.flat (h H) Fr.refl r)
theorem tD_var {E : WX} {i : Nat} (σ : St) (H : Hp) (Q : VK) (w : tD K E (varM i) σ H Q) : tVar i σ H Q := by
  obtain ⟨P, B, ia, s, Fs, r, w⟩ := w
  unfold varM at w
  match e : s[i]? with
  | some (some (.sh, d)) =>
    simp only [e] at w
    obtain ⟨v, h1, h2⟩ := r.rep i _ d e
    exact ⟨v, h1, w v H (.part h2 (r.noOwnF e) (fun a m => r.inB i a m) Fr.refl r)⟩
  | some (some (.ow, d)) =>
    simp only [e] at w
    obtain ⟨v, h1, h2⟩ := r.rep i _ d e
    have r2 := r.share e
    exact ⟨v, h1, w v H (.part h2 (r2.noOwnF (j := i) (get_set_eq e)) (fun a m => r.inB i a m) Fr.refl r2)⟩
  | some (some (.io, d)) => simp only [e] at w; exact w.elim
  | some none => simp only [e] at w; exact w.elim
  | none => simp only [e] at w; exact w.elim
theorem tD_move {E : WX} {i : Nat} (σ : St) (H : Hp) (Q : VK) (w : tD K E (moveM i) σ H Q) : tVar i σ H Q := by
  obtain ⟨P, B, ia, s, Fs, r, w⟩ := w
  unfold moveM at w
  match e : s[i]? with
  | some (some (.sh, d)) =>
    simp only [e] at w
    obtain ⟨v, h1, h2⟩ := r.rep i _ d e
    exact ⟨v, h1, w v H (.part h2 (r.noOwnF e) (fun a m => r.inB i a m) Fr.refl r)⟩
  | some (some (.ow, d)) =>
    simp only [e] at w
    obtain ⟨a, F, h1, h2, h3, h4, h5, h6⟩ := r.own i _ d e (by decide)
    have r2 := r.kill e
    have no : NoOwn (s.set i none) σ (a :: F) := by
      have no1 := r.noOwnT e (by decide) h2
      intro j o' d' b q n x m
      by_cases h : j = i
      · subst h
        rw [get_set_eq e] at q; cases q
      · rw [get_set_ne h] at q
        rcases List.mem_cons.mp m with rfl | m
        · obtain ⟨a', F', g1, g2, g3, g4, g5, g6⟩ := r.own j o' d' q n
          rw [x] at g1; cases g1
          exact g6 i (Ne.symm h) (by rw [h2]; exact List.mem_cons_self)
        · exact no1 j o' d' b q n x m
    refine ⟨.ref a, h1, w (.ref a) H ⟨a :: F, _, h3.rep, Fr.refl, fun b m => r.inB i b (by rw [h2]; exact m), r2.prot h3.rep.tr no, fun _ => ⟨a, F, rfl, rfl, h3, h4, h5, fun j => ?_⟩⟩⟩
    by_cases hj : j = i
    · rw [if_pos hj]; simp
    · rw [if_neg hj]; exact h6 j hj
  | some (some (.io, d)) => simp only [e] at w; exact w.elim
  | some none => simp only [e] at w; exact w.elim
  | none => simp only [e] at w; exact w.elim
end
section
variable {X : Cx} {E : WX}
theorem de_const {e : Expr} {d : D} {v : V} (he : PE X e (tC v)) (h : ∀ H, Rep X.K H d v []) : PE X e (tD X.K E (constM d)) := he.imp (tD_const h)
theorem de_var {e : Expr} {i : Nat} (he : PE X e (tVar i)) : PE X e (tD X.K E (varM i)) := he.imp tD_var
theorem de_move {e : Expr} {i : Nat} (he : PE X e (tVar i)) : PE X e (tD X.K E (moveM i)) := he.imp tD_move
theorem de_int {i j pos} : PE X (.Constant (.int i) j pos) (tD X.K E (constM (.int i))) := de_const pe_int fun _ => .int
theorem de_bl {b j pos} : PE X (.Constant (.bool b) j pos) (tD X.K E (constM (.bl b))) := de_const pe_bl fun _ => .bl
theorem de_non {j pos} : PE X (.Constant .none j pos) (tD X.K E (constM .non)) := de_const pe_non fun _ => .non
theorem de_str {x j pos} : PE X (.Constant (.str x) j pos) (tD X.K E (constM (.str x))) := de_const pe_str fun _ => .str
end

/-! ### subscripts -/
def ixD : D → D → Option (Bool × D)
  | .lst ds, .int i => (atI ds i).map fun d => (false, d)
  | .tup ds, .int i => (atI ds i).map fun d => (false, d)
  | .fro ds, .int i => (atI ds i).map fun d => (false, d)
  | .str x, .int i => if x.length ≤ sizeLine then (atI x.cps.toList i).map fun c => (false, .str ⟨#[c]⟩) else none
  | .dct kds, y => y.key.bind fun k => (kget kds k).map fun d => (false, d)
  | .dcl kds, y => y.key.bind fun k => (kget kds k).map fun d => (false, d)
  | _, _ => none
def rIxK : R2 := fun x y H Q => ∃ a kvs k v, x = .ref a ∧ Rd H a (.dK kvs) ∧ y = kV k ∧ valV kvs k = some v ∧ Q v H
def rIxA (K : PySem.W.Frag) : R2 := fun x y H Q => rIxK x y H Q ∨ rIx K x y H Q
theorem ix_dk {X : Cx} (hu : X.A.units + 1 < cLine) : IxR X rIxK := by
  intro value slice pins s σ H x y v u Q I rx ry h hs
  obtain ⟨a, kvs, k, w, rfl, h1, rfl, h2, q⟩ := h
  cases rx
  have g : DGet H a (kV k) (some w) := .inl ⟨kvs, k, h1, rfl, h2.symm⟩
  exact PyProof.Rows.tail_any (dict_typeIs I g) PySem.F.slot_dict_getitem.lookup (d_getItem hu I g ry fun w' s' I' rw' => ⟨w, H, I', rw', q⟩) hs
theorem or_ix {X : Cx} (hu : X.A.units + 1 < cLine) : IxR X (rIxA X.K) := (ix_dk hu).or ix_seq
theorem Reps.at {K : PySem.W.Frag} {H : Hp} {ds : List D} {vs : List V} {F : List Addr} {i : Int} {d : D} (h : Reps K H ds vs F) (e : atI ds i = some d) : ∃ v G, atI vs i = some v ∧ Rep K H d v G ∧ ∀ a, a ∈ G → a ∈ F := by
  unfold atI at e ⊢
  rw [h.length] at e
  cases q : ixN vs.length i with
  | none => rw [q] at e; cases e
  | some j => rw [q] at e; exact h.get e
theorem opd_ix {K : PySem.W.Frag} : OpD K ixD (rIxA K) := by
  intro P B ia s σ H H0 Fs dx dy q x y F G Q R o1 o2 fr e k
  unfold ixD at e
  split at e
  · obtain ⟨d, e1, e2⟩ := Option.map_eq_some_iff.mp e
    cases e2
    obtain ⟨a, vs, F', ea, h1, h2, no, ib⟩ := o1.lst_inv
    obtain ⟨v, G', g1, g2, g3⟩ := h2.at e1
    exact .inr (.inl ⟨a, vs, _, v, ea, o2.int_inv, SqL.of h1, g1, k _ _ (.part g2 (no.sub g3) (fun b m => ib b (g3 b m)) fr R)⟩)
  · obtain ⟨d, e1, e2⟩ := Option.map_eq_some_iff.mp e
    cases e2
    obtain ⟨a, vs, ea, h1, h2, no⟩ := o1.tup_inv
    obtain ⟨v, G', g1, g2, g3⟩ := h2.at e1
    exact .inr (.inr (.inl ⟨a, vs, _, v, ea, o2.int_inv, h1, g1, k _ _ (.part g2 (no.sub g3) (fun b m => o1.inB b (g3 b m)) fr R)⟩))
  · obtain ⟨d, e1, e2⟩ := Option.map_eq_some_iff.mp e
    cases e2
    obtain ⟨a, vs, ea, h1, h2, no⟩ := o1.fro_inv
    obtain ⟨v, G', g1, g2, g3⟩ := h2.at e1
    exact .inr (.inl ⟨a, vs, _, v, ea, o2.int_inv, fz_sq h1, g1, k _ _ (.part g2 (no.sub g3) (fun b m => o1.inB b (g3 b m)) fr R)⟩)
  · split at e
    · rename_i hz
      obtain ⟨d, e1, e2⟩ := Option.map_eq_some_iff.mp e
      cases e2
      exact .inr (.inr (.inr ⟨_, _, d, o1.str_inv, o2.int_inv, hz, e1, k _ _ (.flat .str fr R)⟩))
    · cases e
  · obtain ⟨kk, e1, e2⟩ := Option.bind_eq_some_iff.mp e
    obtain ⟨d, e3, e4⟩ := Option.map_eq_some_iff.mp e2
    cases e4
    obtain ⟨a, kvs, G', ea, h1, h2, no, ib⟩ := o1.dct_inv
    rcases h2.get kk with ⟨q1, q2⟩ | ⟨d', v, G'', q1, q2, q3, q4⟩
    · rw [e3] at q1; cases q1
    · rw [e3] at q1; cases q1
      exact .inl ⟨a, kvs, kk, v, ea, .inl h1, o2.rep.key e1, q2, k _ _ (.part q3 (no.sub q4) (fun b m => ib b (q4 b m)) fr R)⟩
  · obtain ⟨kk, e1, e2⟩ := Option.bind_eq_some_iff.mp e
    obtain ⟨d, e3, e4⟩ := Option.map_eq_some_iff.mp e2
    cases e4
    obtain ⟨a, kvs, G', ea, h1, h2, no, ib⟩ := o1.dcl_inv
    rcases h2.get kk with ⟨q1, q2⟩ | ⟨d', v, G'', q1, q2, q3, q4⟩
    · rw [e3] at q1; cases q1
    · rw [e3] at q1; cases q1
      exact .inl ⟨a, kvs, kk, v, ea, (.inr h1), o2.rep.key e1, q2, k _ _ (.part q3 (no.sub q4) (fun b m => ib b (q4 b m)) fr R)⟩
  · cases e

/-! ### slices -/
def cutL {α : Type} (xs : List α) (lo hi : Option Int) : List α := (xs.drop (HT.sIx xs.length 0 lo)).take (HT.sIx xs.length xs.length hi - HT.sIx xs.length 0 lo)
theorem Reps.cut {K : PySem.W.Frag} {H : Hp} {ds : List D} {vs : List V} {F : List Addr} (lo hi : Option Int) (h : Reps K H ds vs F) : ∃ G, Reps K H (cutL ds lo hi) (cutV vs lo hi) G ∧ ∀ b, b ∈ G → b ∈ F := by
  unfold cutL cutV
  rw [h.length]
  exact Reps.sub _ _ h
theorem cut_whole {vs : List V} {lo hi : Option Int} (h : HT.sIx vs.length 0 lo = 0 ∧ HT.sIx vs.length vs.length hi = vs.length) : cutV vs lo hi = vs := by
  unfold cutV
  rw [h.1, h.2]
  simp
def sliceD (lo hi : Option Int) : D → Option (Bool × D)
  | .lst ds => some (true, .lst (cutL ds lo hi))
  | .fro ds => some (true, .lst (cutL ds lo hi))
  | .tup ds => some (false, .tup (cutL ds lo hi))
  | .str x => if x.length ≤ sizeLine then some (false, .str (cutS x lo hi)) else none
  | _ => none
def rSlAll (K : PySem.W.Frag) : V → Option Int → Option Int → Hp → VK → Prop := fun x lo hi H Q => rSlL K x lo hi H Q ∨ rSlA K x lo hi H Q ∨ rSlS x lo hi H Q
theorem or_sl {X : Cx} : SlR X (rSlAll X.K) := SlR.or sl_list (SlR.or sl_tupA sl_str)
theorem opd_sl {K : PySem.W.Frag} {P B : Addr → Prop} {ia : Nat → Addr} {s : S} {σ : St} {H H0 : Hp} {Fs : Nat → List Addr} {dx : D} {q : Bool × D} {x : V} {F : List Addr} {Q : VK} {lo hi : Option Int} (R : SR K P B ia s σ H Fs) (o1 : OV K B s σ H dx x F)
    (fr : Fr P H0 H) (e : sliceD lo hi dx = some q) (k : ∀ v H', RV K P B ia s σ H0 H' q.1 q.2 v → Q v H') : rSlAll K x lo hi H Q := by
  unfold sliceD at e
  split at e
  · cases e
    obtain ⟨a, vs, F', ea, h1, h2, no, ib⟩ := o1.lst_inv
    obtain ⟨G, g1, g2⟩ := h2.cut lo hi
    exact .inl ⟨a, vs, ea, SqL.of h1, fun p np => k _ _ (.lst g1 (no.sub g2) (fun b m => ib b (g2 b m)) fr R np)⟩
  · cases e
    obtain ⟨a, vs, ea, h1, h2, no⟩ := o1.fro_inv
    obtain ⟨G, g1, g2⟩ := h2.cut lo hi
    exact .inl ⟨a, vs, ea, fz_sq h1, fun p np => k _ _ (.lst g1 (no.sub g2) (fun b m => o1.inB b (g2 b m)) fr R np)⟩
  · cases e
    obtain ⟨a, vs, ea, h1, h2, no⟩ := o1.tup_inv
    obtain ⟨G, g1, g2⟩ := h2.cut lo hi
    refine .inr (.inl ⟨a, vs, ea, h1, fun hw => ?_, fun _ p np => k _ _ (.tup g1 (no.sub g2) (fun b m => o1.inB b (g2 b m)) fr R np)⟩)
    rw [cut_whole hw] at g1
    exact k _ _ (.part (.tup h1 g1) (no.sub g2) (fun b m => o1.inB b (g2 b m)) fr R)
  · split at e
    · rename_i hz
      cases e
      exact .inr (.inr ⟨_, o1.str_inv, hz, k _ _ (.flat .str fr R)⟩)
    · cases e
  · cases e
/-- an int, at once -/
def intM (a : Opd) : M (Bool × D) := op1 a fun x s => match x with
  | .int i => .ok (false, .int i) s
  | _ => .stuck
theorem tD_mono {K : PySem.W.Frag} {E : WX} {f : M (Bool × D)} {σ : St} {H : Hp} {Q Q' : VK} (h : tD K E f σ H Q) (q : ∀ v H, Q v H → Q' v H) : tD K E f σ H Q' := by
  obtain ⟨P, B, ia, s, Fs, r, w⟩ := h
  exact ⟨P, B, ia, s, Fs, r, w.mono (fun _ _ z => z) fun a s z v H' rv => q v H' (z v H' rv)⟩
theorem rdO_mono {K : PySem.W.Frag} {E : WX} {o : Opd} {σ : St} {H : Hp} {Q Q' : VK} (h : rdO K E o σ H Q) (q : ∀ v H, Q v H → Q' v H) : rdO K E o σ H Q' := by
  cases o with
  | ex f => exact tD_mono h q
  | sl i => obtain ⟨v, e, h⟩ := h; exact ⟨v, e, q v H h⟩
theorem tD_int {K : PySem.W.Frag} {E : WX} {a : Opd} {σ : St} {H : Hp} {Q : VK} (h : tD K E (intM a) σ H Q) : rdO K E a σ H fun x H1 => ∃ i, x = .int i ∧ Q (.int i) H1 := by
  obtain ⟨P, B, ia, s, Fs, r, w⟩ := h
  refine rd1 r ((op1_post w).mono (fun _ _ q => q) fun d s' q x H' F Fs' ov fr r' => ?_)
  split at q
  · exact ⟨_, ov.int_inv, q _ _ (.flat .int fr r')⟩
  · exact q.elim
/-- a[lo:hi] -/
def sliceM (a : Opd) (lo hi : Option Opd) : M (Bool × D) := match lo, hi with
  | none, none => opsM [a] fun ds s => match ds with
    | [x] => (match sliceD none none x with | some r => .ok r s | none => .stuck)
    | _ => .stuck
  | some l, none => opsM [a, .ex (intM l)] fun ds s => match ds with
    | [x, .int i] => (match sliceD (some i) none x with | some r => .ok r s | none => .stuck)
    | _ => .stuck
  | none, some h => opsM [a, .ex (intM h)] fun ds s => match ds with
    | [x, .int j] => (match sliceD none (some j) x with | some r => .ok r s | none => .stuck)
    | _ => .stuck
  | some l, some h => opsM [a, .ex (intM l), .ex (intM h)] fun ds s => match ds with
    | [x, .int i, .int j] => (match sliceD (some i) (some j) x with | some r => .ok r s | none => .stuck)
    | _ => .stuck
def rdP (K : PySem.W.Frag) (E : WX) : Option Opd → TO
  | none => tNoPart
  | some o => tPart (rdO K E o)
theorem tD_slice {K : PySem.W.Frag} {E : WX} {a : Opd} {lo hi : Option Opd} (σ : St) (H : Hp) (Q : VK) (w : tD K E (sliceM a lo hi) σ H Q) : tSl (rSlAll K) (rdO K E a) (rdP K E lo) (rdP K E hi) σ H Q := by
  obtain ⟨P, B, ia, s, Fs, r, w⟩ := w
  cases lo with
  | none =>
    cases hi with
    | none =>
      refine (rdOps (R := fun vs H' => match vs with | [x] => rSlAll K x none none H' Q | _ => False) r w (fun _ _ q => q) fun ds s' vs H' Gs Fs' q ov fr r' => ?_)
      cases ov with
      | cons o1 _ _ t =>
        cases t
        show rSlAll K _ _ _ H' Q
        dsimp only at q
        split at q
        · rename_i e; exact opd_sl r' o1 fr e q
        · exact q.elim
    | some h =>
      refine rdO_mono (Q := fun x H1 => tD K E (intM h) σ H1 fun y H2 => ∀ i, y = .int i → rSlAll K x none (some i) H2 Q)
        (rdOps (R := fun vs H' => match vs with | [x, y] => ∀ i, y = .int i → rSlAll K x none (some i) H' Q | _ => False) r w (fun _ _ q => q) fun ds s' vs H' Gs Fs' q ov fr r' => ?_)
        fun x H1 z => rdO_mono (tD_int z) fun y H2 ⟨i, e, z⟩ => ⟨i, e, z i rfl⟩
      cases ov with
      | cons o1 _ _ t =>
        cases t with
        | cons o2 _ _ t =>
          cases t
          show ∀ i, _ → _
          intro i ei
          split at q
          · rename_i h; cases h
            rw [o2.int_inv] at ei; cases ei
            split at q
            · rename_i e; exact opd_sl r' o1 fr e q
            · exact q.elim
          · exact q.elim
  | some l =>
    cases hi with
    | none =>
      refine rdO_mono (Q := fun x H1 => tD K E (intM l) σ H1 fun y H2 => ∀ i, y = .int i → rSlAll K x (some i) none H2 Q)
        (rdOps (R := fun vs H' => match vs with | [x, y] => ∀ i, y = .int i → rSlAll K x (some i) none H' Q | _ => False) r w (fun _ _ q => q) fun ds s' vs H' Gs Fs' q ov fr r' => ?_)
        fun x H1 z => rdO_mono (tD_int z) fun y H2 ⟨i, e, z⟩ => ⟨i, e, z i rfl⟩
      cases ov with
      | cons o1 _ _ t =>
        cases t with
        | cons o2 _ _ t =>
          cases t
          show ∀ i, _ → _
          intro i ei
          split at q
          · rename_i h; cases h
            rw [o2.int_inv] at ei; cases ei
            split at q
            · rename_i e; exact opd_sl r' o1 fr e q
            · exact q.elim
          · exact q.elim
    | some h =>
      refine rdO_mono (Q := fun x H1 => tD K E (intM l) σ H1 fun y H2 => tD K E (intM h) σ H2 fun z H3 => ∀ i j, y = .int i → z = .int j → rSlAll K x (some i) (some j) H3 Q)
        (rdOps (R := fun vs H' => match vs with | [x, y, z] => ∀ i j, y = .int i → z = .int j → rSlAll K x (some i) (some j) H' Q | _ => False) r w (fun _ _ q => q) fun ds s' vs H' Gs Fs' q ov fr r' => ?_)
        fun x H1 z => rdO_mono (tD_int z) fun y H2 ⟨i, e, z⟩ => ⟨i, e, rdO_mono (tD_int z) fun y H2 ⟨j, e, z⟩ => ⟨j, e, z i j rfl rfl⟩⟩
      cases ov with
      | cons o1 _ _ t =>
        cases t with
        | cons o2 _ _ t =>
          cases t with
          | cons o3 _ _ t =>
            cases t
            show ∀ i j, _ → _ → _
            intro i j ei ej
            split at q
            · rename_i h; cases h
              rw [o2.int_inv] at ei; cases ei
              rw [o3.int_inv] at ej; cases ej
              split at q
              · rename_i e; exact opd_sl r' o1 fr e q
              · exact q.elim
            · exact q.elim
section
variable {X : Cx} {E : WX}
/-- a slice's part -/
def POd (X : Cx) (E : WX) (e : Option Expr) (o : Option Opd) : Prop := PO X e (rdP X.K E o)
theorem pod_none : POd X E none none := po_none
theorem pod_some {e : Expr} {o : Opd} (h : PE X e (rdO X.K E o)) : POd X E (some e) (some o) := po_some h
theorem de_slice {e : Expr} {lo hi : Option Expr} {a : Opd} {l h : Option Opd} {pos p2 : Pos} (he : PE X e (rdO X.K E a)) (hl : POd X E lo l) (hh : POd X E hi h) : PE X (.Subscript e (.Slice lo hi none p2) pos) (tD X.K E (sliceM a l h)) :=
  (pe_slice or_sl he hl hh).imp tD_slice
end

/-! ### truth, tests -/
def truD : D → Option Bool
  | .non => some false
  | .bl b => some b
  | .int i => some (i != 0)
  | .str x => if x.length ≤ sizeLine then some ((x.length : Int) != 0) else none
  | .tup ds => some (!ds.isEmpty)
  | .lst ds => some (!ds.isEmpty)
  | .fro ds => some (!ds.isEmpty)
  | .dct kds => some (!kds.isEmpty)
  | .dcl _ => none
  | .ty _ => none
theorem Reps.emp {K : PySem.W.Frag} {H : Hp} {ds : List D} {vs : List V} {F : List Addr} (h : Reps K H ds vs F) : ds.isEmpty = vs.isEmpty := by
  have := h.length
  cases ds <;> cases vs <;> first | rfl | simp at this
theorem RepK.length {K : PySem.W.Frag} {H : Hp} : ∀ {ds : List (Key × D)} {vs : List (Key × V)} {F : List Addr}, RepK K H ds vs F → ds.length = vs.length
  | [], _, _, h => by cases h; rfl
  | d :: ds, _, _, h => by
    cases h with
    | cons h1 h2 => simp [RepK.length h2]
theorem RepK.emp {K : PySem.W.Frag} {H : Hp} {ds : List (Key × D)} {vs : List (Key × V)} {F : List Addr} (h : RepK K H ds vs F) : ds.isEmpty = vs.isEmpty := by
  cases h <;> rfl
theorem OV.tru {K : PySem.W.Frag} {B : Addr → Prop} {s : S} {σ : St} {H : Hp} {d : D} {x : V} {F : List Addr} {k : Bool} (o : OV K B s σ H d x F) (e : truD d = some k) : TruV K x H k := by
  unfold truD at e
  split at e
  · cases e; rw [o.non_inv]; rfl
  · cases e; rw [o.bl_inv]; rfl
  · cases e; rw [o.int_inv]; rfl
  · split at e
    · rename_i hz; cases e; rw [o.str_inv]; exact ⟨hz, rfl⟩
    · cases e
  · cases e
    obtain ⟨a, vs, rfl, h1, h2, _⟩ := o.tup_inv
    exact .inr (.inl ⟨vs, h1, by rw [h2.emp]⟩)
  · cases e
    obtain ⟨a, vs, _, rfl, h1, h2, _⟩ := o.lst_inv
    exact .inl ⟨vs, SqL.of h1, by rw [h2.emp]⟩
  · cases e
    obtain ⟨a, vs, rfl, h1, h2, _⟩ := o.fro_inv
    exact .inl ⟨vs, fz_sq h1, by rw [h2.emp]⟩
  · cases e
    obtain ⟨a, vs, _, rfl, h1, h2, _⟩ := o.dct_inv
    refine .inr (.inr ⟨vs, h1, ?_⟩)
    have := h2.emp
    rw [this]
  · cases e
  · cases e
/-- the reading of a test by its function -/
def tT (K : PySem.W.Frag) (E : WX) (f : M Bool) : TT := fun σ H Q => ∃ P B ia s Fs, SR K P B ia s σ H Fs ∧
  Post (fun x s' => ∀ cls dx H', RX K P B ia s' σ H H' x cls dx → E cls dx σ H') (fun b s' => ∀ H' Fs', Fr P H H' → SR K P B ia s' σ H' Fs' → Q b H') (f s)
def truM (a : Opd) : M Bool := op1 a fun x s => match truD x with
  | some b => .ok b s
  | none => .stuck
def notM (a : M Bool) : M Bool := fun s => (a s).bind fun b s' => .ok (!b) s'
def andM (a b : M Bool) : M Bool := fun s => (a s).bind fun x s' => if x = true then b s' else .ok false s'
def orM (a b : M Bool) : M Bool := fun s => (a s).bind fun x s' => if x = true then .ok true s' else b s'
/-- a if t else b -/
def iteM {α : Type} (t : M Bool) (a b : M α) : M α := fun s => (t s).bind fun x s' => if x = true then a s' else b s'
/-- x and y, x or y, not x as values -/
def andV (a b : M (Bool × D)) : M (Bool × D) := fun s => (a s).bind fun x s' => match truD x.2 with
  | some true => b s'
  | some false => .ok x s'
  | none => .stuck
def orV (a b : M (Bool × D)) : M (Bool × D) := fun s => (a s).bind fun x s' => match truD x.2 with
  | some true => .ok x s'
  | some false => b s'
  | none => .stuck
def notV (a : Opd) : M (Bool × D) := op1 a fun x s => match truD x with
  | some b => .ok (false, .bl (!b)) s
  | none => .stuck
section
variable {K : PySem.W.Frag} {P B : Addr → Prop} {ia : Nat → Addr} {s : S} {σ : St} {H H' H1 : Hp} {Fs : Nat → List Addr} {E : WX} {d : D} {v : V} {F : List Addr}
theorem RV.ov {fr : Bool} (h : RV K P B ia s σ H H' fr d v) : ∃ F Fs, OV K B s σ H' d v F ∧ Fr P H H' ∧ SR K P B ia s σ H' Fs := by
  obtain ⟨F, Fs, h1, h2, h3, h4, h5⟩ := h
  exact ⟨F, Fs, ⟨h1, h3, .inl (h4.noOwn fun a m => .inr m)⟩, h2, h4.weak fun b m => .inl m⟩
theorem RV.step {fr : Bool} {P' : Addr → Prop} {s' : S} {H2 : Hp} (h : Fr P H H1) (q : RV K P B ia s' σ H1 H2 fr d v) : RV K P B ia s' σ H H2 fr d v := by
  obtain ⟨F, Fs, h1, h2, h3, h4, h5⟩ := q
  exact ⟨F, Fs, h1, h.trans h2, h3, h4, h5⟩
theorem RX.step {s' : S} {x : Exn} {cls : Value} {dx : Option Addr} (h : Fr P H H1) (q : RX K P B ia s' σ H1 H' x cls dx) : RX K P B ia s' σ H H' x cls dx := by
  obtain ⟨Fs, h1, h2, h3⟩ := q
  exact ⟨Fs, h.trans h1, h2, h3⟩
end
section
variable {X : Cx} {E : WX} {a b : Expr} {pos : Pos}
theorem dt_tru {oa : Opd} (ha : PE X a (rdO X.K E oa)) (he : ∀ whole, isTrue a X.env whole = (do let v ← whole; standAt a.pos; holding [v] (truthy v)) := by intro _; rfl) : PT X a (tT X.K E (truM oa)) :=
  (pt_truth ha he).imp fun σ H Q h => by
    obtain ⟨P, B, ia, s, Fs, r, w⟩ := h
    refine rd1 r ((op1_post w).mono (fun _ _ q => q) fun d s' q x H' F Fs' ov fr r' => ?_)
    split at q
    · rename_i e; exact ⟨_, ov.tru e, q H' Fs' fr r'⟩
    · exact q.elim
theorem dt_not {f : M Bool} (ha : PT X a (tT X.K E f)) : PT X (.UnaryOp .Not a pos) (tT X.K E (notM f)) := (pt_not ha).imp fun σ H Q h => by
  obtain ⟨P, B, ia, s, Fs, r, w⟩ := h
  exact ⟨P, B, ia, s, Fs, r, (Post.bind w).mono (fun _ _ q => q) fun b s' q H' Fs' fr r' => q H' Fs' fr r'⟩
theorem tT_and {K : PySem.W.Frag} {f g : M Bool} (σ : St) (H : Hp) (Q : Bool → Hp → Prop) (h : tT K E (andM f g) σ H Q) : tAnd (tT K E f) (tT K E g) σ H Q := by
  obtain ⟨P, B, ia, s, Fs, r, w⟩ := h
  refine ⟨P, B, ia, s, Fs, r, (Post.bind w).mono (fun _ _ q => q) fun b s' q H' Fs' fr r' => ?_⟩
  cases b with
  | true =>
    rw [if_pos rfl] at q
    refine iteT ⟨P, B, ia, s', Fs', r', q.mono (fun x s2 q cls dx H2 rx => q cls dx H2 (rx.step fr)) fun b2 s2 q H2 Fs2 fr2 r2 => q H2 Fs2 (fr.trans fr2) r2⟩
  | false =>
    rw [if_neg (by decide)] at q
    exact iteF (q H' Fs' fr r')
theorem tT_or {K : PySem.W.Frag} {f g : M Bool} (σ : St) (H : Hp) (Q : Bool → Hp → Prop) (h : tT K E (orM f g) σ H Q) : tOr (tT K E f) (tT K E g) σ H Q := by
  obtain ⟨P, B, ia, s, Fs, r, w⟩ := h
  refine ⟨P, B, ia, s, Fs, r, (Post.bind w).mono (fun _ _ q => q) fun b s' q H' Fs' fr r' => ?_⟩
  cases b with
  | true =>
    rw [if_pos rfl] at q
    exact iteT (q H' Fs' fr r')
  | false =>
    rw [if_neg (by decide)] at q
    refine iteF ⟨P, B, ia, s', Fs', r', q.mono (fun x s2 q cls dx H2 rx => q cls dx H2 (rx.step fr)) fun b2 s2 q H2 Fs2 fr2 r2 => q H2 Fs2 (fr.trans fr2) r2⟩
variable {rest : List Expr}
theorem dw_and1 {f : M Bool} (ha : PT X a (tT X.K E f)) : PW X (.BoolOp .And [a] pos) (tT X.K E f) := pw_and1 ha
theorem dw_or1 {f : M Bool} (ha : PT X a (tT X.K E f)) : PW X (.BoolOp .Or [a] pos) (tT X.K E f) := pw_or1 ha
theorem dw_and {f g : M Bool} (ha : PT X a (tT X.K E f)) (hb : PW X (.BoolOp .And (b :: rest) pos) (tT X.K E g)) : PW X (.BoolOp .And (a :: b :: rest) pos) (tT X.K E (andM f g)) := (pw_and ha hb).imp tT_and
theorem dw_or {f g : M Bool} (ha : PT X a (tT X.K E f)) (hb : PW X (.BoolOp .Or (b :: rest) pos) (tT X.K E g)) : PW X (.BoolOp .Or (a :: b :: rest) pos) (tT X.K E (orM f g)) := (pw_or ha hb).imp tT_or
theorem dt_w {f : M Bool} (h : PW X a (tT X.K E f)) : PT X a (tT X.K E f) := h.pt
theorem de_ite {c : Expr} {t : M Bool} {f g : M (Bool × D)} (hc : PT X c (tT X.K E t)) (ha : PE X a (tD X.K E f)) (hb : PE X b (tD X.K E g)) : PE X (.IfExp c a b pos) (tD X.K E (iteM t f g)) := (pe_ifExp hc ha hb).imp fun σ H Q h => by
  obtain ⟨P, B, ia, s, Fs, r, w⟩ := h
  refine ⟨P, B, ia, s, Fs, r, (Post.bind w).mono (fun _ _ q => q) fun b s' q H' Fs' fr r' => ?_⟩
  cases b with
  | true =>
    rw [if_pos rfl] at q
    exact iteT ⟨P, B, ia, s', Fs', r', q.mono (fun x s2 q cls dx H2 rx => q cls dx H2 (rx.step fr)) fun b2 s2 q v H2 rv => q v H2 (RV.step (P' := P) fr rv)⟩
  | false =>
    rw [if_neg (by decide)] at q
    exact iteF ⟨P, B, ia, s', Fs', r', q.mono (fun x s2 q cls dx H2 rx => q cls dx H2 (rx.step fr)) fun b2 s2 q v H2 rv => q v H2 (RV.step (P' := P) fr rv)⟩
theorem de_one {op} {f : M (Bool × D)} (ha : PE X a (tD X.K E f)) : PE X (.BoolOp op [a] pos) (tD X.K E f) := pe_one ha
theorem de_and {f g : M (Bool × D)} (ha : PE X a (tD X.K E f)) (hb : PE X (.BoolOp .And (b :: rest) pos) (tD X.K E g)) : PE X (.BoolOp .And (a :: b :: rest) pos) (tD X.K E (andV f g)) := (pe_andT ha hb).imp fun σ H Q h => by
  obtain ⟨P, B, ia, s, Fs, r, w⟩ := h
  refine ⟨P, B, ia, s, Fs, r, (Post.bind w).mono (fun _ _ q => q) fun x s' q v H' rv => ?_⟩
  obtain ⟨F, Fs', ov, fr, r'⟩ := rv.ov
  split at q
  · rename_i e
    exact ⟨true, ov.tru e, iteT ⟨P, B, ia, s', Fs', r', q.mono (fun x s2 q cls dx H2 rx => q cls dx H2 (rx.step fr)) fun b2 s2 q v H2 rv => q v H2 (RV.step (P' := P) fr rv)⟩⟩
  · rename_i e
    exact ⟨false, ov.tru e, iteF (q v H' rv)⟩
  · exact q.elim
theorem de_or {f g : M (Bool × D)} (ha : PE X a (tD X.K E f)) (hb : PE X (.BoolOp .Or (b :: rest) pos) (tD X.K E g)) : PE X (.BoolOp .Or (a :: b :: rest) pos) (tD X.K E (orV f g)) := (pe_orT ha hb).imp fun σ H Q h => by
  obtain ⟨P, B, ia, s, Fs, r, w⟩ := h
  refine ⟨P, B, ia, s, Fs, r, (Post.bind w).mono (fun _ _ q => q) fun x s' q v H' rv => ?_⟩
  obtain ⟨F, Fs', ov, fr, r'⟩ := rv.ov
  split at q
  · rename_i e
    exact ⟨true, ov.tru e, iteT (q v H' rv)⟩
  · rename_i e
    exact ⟨false, ov.tru e, iteF ⟨P, B, ia, s', Fs', r', q.mono (fun x s2 q cls dx H2 rx => q cls dx H2 (rx.step fr)) fun b2 s2 q v H2 rv => q v H2 (RV.step (P' := P) fr rv)⟩⟩
  · exact q.elim
theorem de_not {oa : Opd} (ha : PE X a (rdO X.K E oa)) : PE X (.UnaryOp .Not a pos) (tD X.K E (notV oa)) := (pe_notT ha).imp fun σ H Q h => by
  obtain ⟨P, B, ia, s, Fs, r, w⟩ := h
  refine rd1 r ((op1_post w).mono (fun _ _ q => q) fun d s' q x H' F Fs' ov fr r' => ?_)
  split at q
  · rename_i e; exact ⟨_, ov.tru e, q _ _ (.flat .bl fr r')⟩
  · exact q.elim
/-- -x of an int -/
def negM (a : Opd) : M (Bool × D) := op1 a fun x s => match x with
  | .int i => .ok (false, .int (-i)) s
  | _ => .stuck
theorem de_neg {oa : Opd} (ha : PE X a (rdO X.K E oa)) : PE X (.UnaryOp .USub a pos) (tD X.K E (negM oa)) := (pe_un un_neg ha).imp fun σ H Q h => by
  obtain ⟨P, B, ia, s, Fs, r, w⟩ := h
  refine rd1 r ((op1_post w).mono (fun _ _ q => q) fun d s' q x H' F Fs' ov fr r' => ?_)
  split at q
  · exact ⟨_, ov.int_inv, q _ _ (.flat .int fr r')⟩
  · exact q.elim
/-- a < b < c -/
def chainM (g g' : D → D → Option (Bool × D)) (a b c : M (Bool × D)) : M (Bool × D) := fun s => (a s).bind fun x s1 => (b s1).bind fun y s2 => match g x.2 y.2 with
  | some (_, .bl true) => (c s2).bind fun z s3 => (match g' y.2 z.2 with | some r => .ok r s3 | none => .stuck)
  | some (_, .bl false) => .ok (false, .bl false) s2
  | _ => .stuck
end

/-! ### displays -/
def tupM (fs : List (M (Bool × D))) : M (Bool × D) := opsM (fs.map .ex) fun ds s => if ds.length ≤ sizeLine then .ok (false, .tup ds) s else .stuck
def lstM (fs : List (M (Bool × D))) : M (Bool × D) := opsM (fs.map .ex) fun ds s => if ds.length ≤ sizeLine then .ok (true, .lst ds) s else .stuck
theorem allEx : ∀ fs : List (M (Bool × D)), (fs.map Opd.ex).all Opd.isEx = true
  | [] => rfl
  | _ :: fs => by simp [Opd.isEx, allEx fs]
section
variable {X : Cx} {E : WX} {es : List Expr} {pos : Pos}
/-- arguments -/
abbrev PAd (X : Cx) (E : WX) (es : List Expr) (os : List Opd) : Prop := PA X es (rdOs X.K E os)
theorem da_nil : PAd X E [] [] := pa_nil
theorem da_cons {e : Expr} {o : Opd} {os : List Opd} (h : PE X e (rdO X.K E o)) (hs : PAd X E es os) (hst : starEach (e :: es) X.env = (false, eval e X.env) :: starEach es X.env := by rfl) : PAd X E (e :: es) (o :: os) := pa_cons h hs hst
theorem de_tup {x1} {fs : List (M (Bool × D))} (h : PAd X E es (fs.map .ex)) : PE X (.Tuple es x1 pos) (tD X.K E (tupM fs)) := (pe_tup h).imp fun σ H Q h => by
  obtain ⟨P, B, ia, s, Fs, r, w⟩ := h
  refine rdOps r w (fun _ _ q => q) fun ds s' vs H' Gs Fs' q ov fr r' => ?_
  split at q
  · rename_i hz
    obtain ⟨G, g1, g2, g3⟩ := ov.reps (allEx fs)
    exact ⟨by rw [← ov.length.1]; exact hz, fun p np => q _ _ (.tup g1 g2 g3 fr r' np)⟩
  · exact q.elim
theorem de_lst {fs : List (M (Bool × D))} (h : PAd X E es (fs.map .ex)) : PE X (.List es pos) (tD X.K E (lstM fs)) := (pe_lst h).imp fun σ H Q h => by
  obtain ⟨P, B, ia, s, Fs, r, w⟩ := h
  refine rdOps r w (fun _ _ q => q) fun ds s' vs H' Gs Fs' q ov fr r' => ?_
  split at q
  · rename_i hz
    obtain ⟨G, g1, g2, g3⟩ := ov.reps (allEx fs)
    exact ⟨by rw [← ov.length.1]; exact hz, fun p np => q _ _ (.lst g1 g2 g3 fr r' np)⟩
  · exact q.elim
end
end PV

/-! PV: statements by values. -/
namespace PV
open PySem PySem.Spec L2

inductive Fl where
  | nx | rt (fr : Bool) (d : D) | bk | ct
section
variable {K : PySem.W.Frag} {P B : Addr → Prop} {ia : Nat → Addr} {s : S} {σ : St} {H H' H1 : Hp} {Fs : Nat → List Addr} {E : WX} {d : D} {v : V} {F : List Addr}
/-- a slot is stored -/
theorem SR.set (r : SR K P B ia s σ H Fs) (h : Rep K H d v F) (hp : NoOwn s σ F) (hb : ∀ a, a ∈ F → B a) {i : Nat} {x : Slot} (e : s[i]? = some x) (nio : ∀ d, x ≠ some (.io, d)) {o : Own} (hio : o ≠ .io)
    (ho : o ≠ .sh → ∃ a G, v = .ref a ∧ F = a :: G ∧ RepM K H d a G ∧ a ∉ G ∧ ¬ P a ∧ ∀ j, a ∉ Fs j) :
    SR K P B ia (s.set i (some (o, d))) (σ.set i (some v)) H (fun j => if j = i then F else Fs j) := by
  have hi : i < s.length := (List.getElem?_eq_some_iff.mp e).1
  have hiσ : i < σ.length := by rw [← r.len]; exact hi
  have σe : (σ.set i (some v))[i]? = some (some v) := List.getElem?_set_self hiσ
  have σn : ∀ {j : Nat}, j ≠ i → (σ.set i (some v))[j]? = σ[j]? := fun h => List.getElem?_set_ne fun e => h e.symm
  refine ⟨by simp [r.len], fun j o' d' q => ?_, fun j o' d' q n => ?_, fun j d' q => ?_, fun j q => ?_, fun j a m => ?_, r.tr, r.nb⟩
  · by_cases hj : j = i
    · subst hj
      rw [get_set_eq e] at q; cases q
      exact ⟨v, σe, by rw [if_pos rfl]; exact h⟩
    · rw [get_set_ne hj] at q; rw [σn hj, if_neg hj]; exact r.rep j o' d' q
  · by_cases hj : j = i
    · subst hj
      rw [get_set_eq e] at q; cases q
      obtain ⟨a, G, h1, h2, h3, h4, h5, h6⟩ := ho n
      subst h1
      exact ⟨a, G, σe, by rw [if_pos rfl]; exact h2, h3, h4, h5, fun k hk => by rw [if_neg hk]; exact h6 k⟩
    · rw [get_set_ne hj] at q; rw [σn hj, if_neg hj]
      obtain ⟨a, G, h1, h2, h3, h4, h5, h6⟩ := r.own j o' d' q n
      refine ⟨a, G, h1, h2, h3, h4, h5, fun k hk => ?_⟩
      by_cases hk2 : k = i
      · rw [if_pos hk2]; exact hp j o' d' a q n h1
      · rw [if_neg hk2]; exact h6 k hk
  · by_cases hj : j = i
    · subst hj
      rw [get_set_eq e] at q; cases q
      exact absurd rfl hio
    · rw [get_set_ne hj] at q; rw [σn hj]; exact r.iov j d' q
  · by_cases hj : j = i
    · subst hj
      exact absurd (get_set_eq e) (q o d)
    · rw [if_neg hj]
      exact r.dead j fun o' d' z => q o' d' (by rw [get_set_ne hj]; exact z)
  · by_cases hj : j = i
    · rw [if_pos hj] at m; exact hb a m
    · rw [if_neg hj] at m; exact r.inB j a m
/-- what stands in a slot of one's own is changed -/
theorem SR.write {F2 : List Addr} (r : SR K (fun b => P b ∨ b ∈ F2) B ia s σ H Fs) {i : Nat} {o : Own} (e : s[i]? = some (some (o, d))) (n : o ≠ .sh) {a : Addr} {G G' : List Addr} (ha : σ[i]? = some (some (V.ref a))) (hF : Fs i = a :: G) {ob : HO} {d' : D}
    (h : RepM K (upd H a ob) d' a G') (hG : ∀ b, b ∈ G' → b ∈ G ∨ b ∈ F2) (hb : ∀ b, b ∈ F2 → B b) (hu : d.ul := by intro _ h; cases h) :
    SR K P B ia (s.set i (some (o, d'))) σ (upd H a ob) (fun j => if j = i then a :: G' else Fs j) ∧ Fr P H (upd H a ob) := by
  obtain ⟨a', G0, h1, h2, h3, h4, h5, h6⟩ := r.own i o d e n
  rw [ha] at h1; cases h1
  rw [hF] at h2; cases h2
  obtain ⟨ob0, hm, nim⟩ := h3.mut hu
  have fr : Fr P H (upd H a ob) := Fr.put hm nim fun q => h5 (.inl q)
  have keepF : ∀ j, j ≠ i → ∀ b, b ∈ Fs j → upd H a ob b = H b := fun j hj b m => upd_ne fun e => h6 j hj (e ▸ m)
  have nG' : a ∉ G' := fun m => (hG a m).elim h4 fun m => h5 (.inr m)
  refine ⟨⟨by simp [r.len], fun j o' d2 q => ?_, fun j o' d2 q n' => ?_, fun j d2 q => ?_, fun j q => ?_, fun j b m => ?_, fun b q => ?_, fun b q => ?_⟩, fr⟩
  · by_cases hj : j = i
    · subst hj
      rw [get_set_eq e] at q; cases q
      exact ⟨.ref a, ha, by rw [if_pos rfl]; exact h.rep⟩
    · rw [get_set_ne hj] at q; rw [if_neg hj]
      obtain ⟨v, g1, g2⟩ := r.rep j o' d2 q
      exact ⟨v, g1, g2.keep fr.i fun b m => keepF j hj b m⟩
  · by_cases hj : j = i
    · subst hj
      rw [get_set_eq e] at q; cases q
      exact ⟨a, G', ha, by rw [if_pos rfl], h, nG', fun q => h5 (.inl q), fun k hk => by rw [if_neg hk]; exact h6 k hk⟩
    · rw [get_set_ne hj] at q; rw [if_neg hj]
      obtain ⟨b, G2, g1, g2, g3, g4, g5, g6⟩ := r.own j o' d2 q n'
      refine ⟨b, G2, g1, g2, g3.keep fr.i fun c m => keepF j hj c (by rw [g2]; exact m), g4, fun q => g5 (.inl q), fun k hk => ?_⟩
      by_cases hk2 : k = i
      · rw [if_pos hk2]
        intro m
        have nb : b ∉ a :: G := by rw [← hF]; exact g6 i (Ne.symm hj)
        rcases List.mem_cons.mp m with rfl | m
        · exact nb List.mem_cons_self
        · exact (hG b m).elim (fun m => nb (List.mem_cons_of_mem _ m)) fun m => g5 (.inr m)
      · rw [if_neg hk2]; exact g6 k hk
  · by_cases hj : j = i
    · subst hj
      rw [get_set_eq e] at q; cases q
      exact r.iov j d e
    · rw [get_set_ne hj] at q; exact r.iov j d2 q
  · by_cases hj : j = i
    · subst hj
      exact absurd (get_set_eq e) (q o d')
    · rw [if_neg hj]
      exact r.dead j fun o' d2 z => q o' d2 (by rw [get_set_ne hj]; exact z)
  · by_cases hj : j = i
    · rw [if_pos hj] at m
      have hin : ∀ c, c ∈ a :: G → B c := fun c mc => r.inB i c (by rw [hF]; exact mc)
      rcases List.mem_cons.mp m with rfl | m
      · exact hin _ List.mem_cons_self
      · exact (hG b m).elim (fun m => hin b (List.mem_cons_of_mem _ m)) (hb b)
    · rw [if_neg hj] at m; exact r.inB j b m
  · by_cases hba : b = a
    · subst hba; rw [upd_same]; simp
    · rw [upd_ne hba]; exact r.tr b (.inl q)
  · by_cases hba : b = a
    · subst hba; rw [upd_same] at q; cases q
    · rw [upd_ne hba] at q; exact r.nb b q
end

/-- a statement's ways -/
def SPd (K : PySem.W.Frag) (P B : Addr → Prop) (ia : Nat → Addr) (H : Hp) (Dn : Ends) (fl : Fl) (s' : S) : Prop := match fl with
  | .nx => ∀ σ' H' Fs', Fr P H H' → SR K P B ia s' σ' H' Fs' → Dn.nx σ' H'
  | .bk => ∀ σ' H' Fs', Fr P H H' → SR K P B ia s' σ' H' Fs' → Dn.bk σ' H'
  | .ct => ∀ σ' H' Fs', Fr P H H' → SR K P B ia s' σ' H' Fs' → Dn.ct σ' H'
  | .rt fr d => ∀ v σ' H', RV K P B ia s' σ' H H' fr d v → Dn.rt v H'
/-- an exception's way, whatever the slots are -/
def XPd (K : PySem.W.Frag) (P B : Addr → Prop) (ia : Nat → Addr) (H : Hp) (E : WX) (x : Exn) (s' : S) : Prop := ∀ σ' cls dx H', RX K P B ia s' σ' H H' x cls dx → E cls dx σ' H'
def tS (K : PySem.W.Frag) (E : WX) (f : M Fl) : TS := fun Dn σ H => ∃ P B ia s Fs, SR K P B ia s σ H Fs ∧ Post (XPd K P B ia H E) (SPd K P B ia H Dn) (f s)
section
variable {K : PySem.W.Frag} {P B : Addr → Prop} {ia : Nat → Addr} {s s' : S} {σ : St} {H H' H1 : Hp} {Fs : Nat → List Addr} {E : WX} {x : Exn} {Dn : Ends} {fl : Fl}
theorem XPd.to (h : XPd K P B ia H E x s') : ∀ cls dx H', RX K P B ia s' σ H H' x cls dx → E cls dx σ H' := fun cls dx H' r => h σ cls dx H' r
theorem XPd.step (h : XPd K P B ia H E x s') (f : Fr P H H1) : XPd K P B ia H1 E x s' := fun σ' cls dx H' r => h σ' cls dx H' (r.step f)
theorem SPd.step (h : SPd K P B ia H Dn fl s') (f : Fr P H H1) : SPd K P B ia H1 Dn fl s' := by
  cases fl with
  | nx => exact fun σ' H' Fs' fr r => h σ' H' Fs' (f.trans fr) r
  | bk => exact fun σ' H' Fs' fr r => h σ' H' Fs' (f.trans fr) r
  | ct => exact fun σ' H' Fs' fr r => h σ' H' Fs' (f.trans fr) r
  | rt fr d => exact fun v σ' H' rv => h v σ' H' (RV.step (P' := P) f rv)
end

/-! ### the statements -/
def nxM : M Fl := fun s => .ok .nx s
def bkM : M Fl := fun s => .ok .bk s
def ctM : M Fl := fun s => .ok .ct s
def seqM (a b : M Fl) : M Fl := fun s => (a s).bind fun fl s' => match fl with
  | .nx => b s'
  | fl => .ok fl s'
def dropM (f : M (Bool × D)) : M Fl := fun s => (f s).bind fun _ s' => .ok .nx s'
def retM (f : M (Bool × D)) : M Fl := fun s => (f s).bind fun r s' => .ok (.rt r.1 r.2) s'
def retN : M Fl := fun s => .ok (.rt false .non) s
/-- the slots behind a store -/
def putS (s : S) (i : Nat) (o : Own) (d : D) : Option S := match s[i]? with
  | some (some (.io, _)) => none
  | some _ => some (s.set i (some (o, d)))
  | none => none
def setM (i : Nat) (f : M (Bool × D)) : M Fl := fun s => (f s).bind fun r s' => match putS s' i (if r.1 = true then .ow else .sh) r.2 with
  | some s2 => .ok .nx s2
  | none => .stuck
theorem putS_inv {s s' : S} {i : Nat} {o : Own} {d : D} (h : putS s i o d = some s') : ∃ x, s[i]? = some x ∧ (∀ d, x ≠ some (.io, d)) ∧ s' = s.set i (some (o, d)) := by
  unfold putS at h
  split at h
  · cases h
  · rename_i x hx e
    cases h
    exact ⟨x, e, fun d' q => hx d' q, rfl⟩
  · cases h
section
variable {X : Cx} {E : WX} {st : Stmt} {rest : List Stmt} {pos : Pos}
theorem ds_nil : PSs X [] (tS X.K E nxM) := pss_nil.imp fun Dn σ H h => by
  obtain ⟨P, B, ia, s, Fs, r, w⟩ := h
  exact w σ H Fs Fr.refl r
theorem tS_seq {K : PySem.W.Frag} {f g : M Fl} (Dn : Ends) (σ : St) (H : Hp) (h : tS K E (seqM f g) Dn σ H) : tSeq (tS K E f) (tS K E g) Dn σ H := by
  obtain ⟨P, B, ia, s, Fs, r, w⟩ := h
  refine ⟨P, B, ia, s, Fs, r, (Post.bind w).mono (fun _ _ q => q) fun fl s' q => ?_⟩
  cases fl with
  | nx => exact fun σ' H' Fs' fr r' => ⟨P, B, ia, s', Fs', r', q.mono (fun x s2 q => q.step fr) fun fl s2 q => q.step fr⟩
  | bk => exact q
  | ct => exact q
  | rt fr d => exact q
theorem ds_cons {f g : M Fl} (h1 : PS X st (tS X.K E f)) (h2 : PSs X rest (tS X.K E g)) : PSs X (st :: rest) (tS X.K E (seqM f g)) := (pss_cons h1 h2).imp tS_seq
theorem ds_one {f : M Fl} (h1 : PS X st (tS X.K E f)) : PSs X [st] (tS X.K E f) := pss_one h1
theorem ds_pass : PS X (.Pass pos) (tS X.K E nxM) := ps_pass.imp fun Dn σ H h => by
  obtain ⟨P, B, ia, s, Fs, r, w⟩ := h
  exact w σ H Fs Fr.refl r
theorem ds_break : PS X (.Break pos) (tS X.K E bkM) := ps_break.imp fun Dn σ H h => by
  obtain ⟨P, B, ia, s, Fs, r, w⟩ := h
  exact w σ H Fs Fr.refl r
theorem ds_continue : PS X (.Continue pos) (tS X.K E ctM) := ps_continue.imp fun Dn σ H h => by
  obtain ⟨P, B, ia, s, Fs, r, w⟩ := h
  exact w σ H Fs Fr.refl r
theorem ds_expr {e : Expr} {f : M (Bool × D)} (he : PE X e (tD X.K E f)) (hs : swapsWith e none pos.line X.env = pure false := by rfl) : PS X (.Expr e pos) (tS X.K E (dropM f)) := (ps_expr he hs).imp fun Dn σ H h => by
  obtain ⟨P, B, ia, s, Fs, r, w⟩ := h
  refine ⟨P, B, ia, s, Fs, r, (Post.bind w).mono (fun _ _ q => q.to) fun a s' q v H' rv => ?_⟩
  obtain ⟨F, Fs', ov, fr, r'⟩ := rv.ov
  exact q σ H' Fs' fr r'
theorem ds_ret {e : Expr} {f : M (Bool × D)} (he : PE X e (tD X.K E f)) : PS X (.Return (some e) pos) (tS X.K E (retM f)) := (ps_ret he).imp fun Dn σ H h => by
  obtain ⟨P, B, ia, s, Fs, r, w⟩ := h
  exact ⟨P, B, ia, s, Fs, r, (Post.bind w).mono (fun _ _ q => q.to) fun a s' q v H' rv => q v σ H' rv⟩
theorem ds_retN : PS X (.Return none pos) (tS X.K E retN) := ps_retN.imp fun Dn σ H h => by
  obtain ⟨P, B, ia, s, Fs, r, w⟩ := h
  exact w .non σ H (.flat .non Fr.refl r)
theorem ds_if {c : Expr} {a b : List Stmt} {t : M Bool} {f g : M Fl} (hc : PT X c (tT X.K E t)) (ha : PSs X a (tS X.K E f)) (hb : PSs X b (tS X.K E g)) : PS X (.If c a b pos) (tS X.K E (iteM t f g)) := (ps_if hc ha hb).imp fun Dn σ H h => by
  obtain ⟨P, B, ia, s, Fs, r, w⟩ := h
  refine ⟨P, B, ia, s, Fs, r, (Post.bind w).mono (fun _ _ q => q.to) fun b s' q H' Fs' fr r' => ?_⟩
  cases b with
  | true =>
    rw [if_pos rfl] at q
    exact iteT ⟨P, B, ia, s', Fs', r', q.mono (fun x s2 q => q.step fr) fun fl s2 q => q.step fr⟩
  | false =>
    rw [if_neg (by decide)] at q
    exact iteF ⟨P, B, ia, s', Fs', r', q.mono (fun x s2 q => q.step fr) fun fl s2 q => q.step fr⟩
theorem tS_set {K : PySem.W.Frag} {i : Nat} {f : M (Bool × D)} (Dn : Ends) (σ : St) (H : Hp) (h : tS K E (setM i f) Dn σ H) : tAsg (tD K E f) (gName i) Dn σ H := by
  obtain ⟨P, B, ia, s, Fs, r, w⟩ := h
  refine ⟨P, B, ia, s, Fs, r, (Post.bind w).mono (fun _ _ q => q.to) fun a s' q v H' rv => ?_⟩
  obtain ⟨F, Fs', h1, h2, h3, h4, h5⟩ := rv
  split at q
  · rename_i s2 e
    obtain ⟨x, e1, e2, e3⟩ := putS_inv e
    subst e3
    refine q _ H' _ h2 ((h4.weak fun b m => .inl m).set h1 (h4.noOwn fun a m => .inr m) h3 e1 e2 (by split <;> decide) fun ho => ?_)
    split at ho
    · rename_i hfr
      obtain ⟨a, G, g1, g2, g3, g4, g5, g6⟩ := h5 hfr
      exact ⟨a, G, g1, g2, g3, g4, g5, g6⟩
    · exact absurd rfl ho
  · exact q.elim
theorem ds_set {i : Nat} {x : Str} {e : Expr} {pos' : Pos} {f : M (Bool × D)} (he : PE X e (tD X.K E f)) (hN : X.N.Nodup) (hi : X.N[i]? = some x := by rfl) (hx : Loc X.env.scope x := by first | exact .inl rfl | exact .inr rfl) (hs : swapsWith e (some (.Name x pos')) pos.line X.env = pure false := by rfl)
    (hf : X.fn x = true ∨ X.env.scope.names.lookup x = some .local := by first | exact .inl rfl | exact .inr rfl | assumption) : PS X (.Assign [.Name x pos'] e pos) (tS X.K E (setM i f)) := (ps_set hN hi hx he hs hf).imp tS_set
end

/-! ### x op= e at a name -/
def augM (g : D → D → Option (Bool × D)) (i : Nat) (f : M (Bool × D)) : M Fl := fun s => match s[i]? with
  | some (some (.io, _)) => .stuck
  | some (some (_, _)) => (f s).bind fun y s' => (match s'[i]? with
    | some (some (_, dx)) => (match g dx y.2 with
      | some (false, z) => (match putS s' i .sh z with | some s2 => .ok .nx s2 | none => .stuck)
      | _ => .stuck)
    | _ => .stuck)
  | _ => .stuck
def addI : D → D → Option (Bool × D)
  | .int i, .int j => some (false, .int (i + j))
  | .str x, .str y => if x.length + y.length ≤ sizeLine then some (false, .str (x ++ y)) else none
  | _, _ => none
def rAddI : TIp := fun x y H Q => rI0 (fun i j => .int (i + j)) x y H Q ∨ ∃ i j, x = .str i ∧ y = .str j ∧ i.length + j.length ≤ sizeLine ∧ Q (.str (i ++ j)) H
section
variable {X : Cx} {E : WX} {pos : Pos}
theorem ip_addI : PIp X .Add rAddI := fun pins s σ H x y v u Q I rx ry h => h.elim (iop_add pins s σ H x y v u Q I rx ry) (iop_add_str pins s σ H x y v u Q I rx ry)
theorem ip_subI : PIp X .Sub (rI0 fun i j => .int (i - j)) := fun pins s σ H x y v u Q I rx ry h => iop_sub pins s σ H x y v u Q I rx ry h
theorem opd_addI {K : PySem.W.Frag} : OpD K addI rAddI := by
  intro P B ia s σ H H0 Fs dx dy q x y F G Q R o1 o2 fr e k
  unfold addI at e
  split at e
  · cases e; exact .inl ⟨_, _, o1.int_inv, o2.int_inv, k _ _ (.flat .int fr R)⟩
  · split at e
    · rename_i hz
      cases e; exact .inr ⟨_, _, o1.str_inv, o2.str_inv, hz, k _ _ (.flat .str fr R)⟩
    · cases e
  · cases e
theorem tS_aug {K : PySem.W.Frag} {g : D → D → Option (Bool × D)} {ti : TIp} (ho : OpD K g ti) {i : Nat} {f : M (Bool × D)} (Dn : Ends) (σ : St) (H : Hp) (h : tS K E (augM g i f) Dn σ H) : tAug i (tD K E f) ti Dn σ H := by
  obtain ⟨P, B, ia, s, Fs, r, w⟩ := h
  unfold augM at w
  have go : ∀ (o : Own) (d : D), s[i]? = some (some (o, d)) → Post (XPd K P B ia H E) (SPd K P B ia H Dn) ((f s).bind fun y s' => match s'[i]? with
      | some (some (_, dx)) => (match g dx y.2 with
        | some (false, z) => (match putS s' i .sh z with | some s2 => .ok .nx s2 | none => .stuck)
        | _ => .stuck)
      | _ => .stuck) → tAug i (tD K E f) ti Dn σ H := by
    intro o d e w
    obtain ⟨v, F0, hv, _⟩ := r.opd e
    refine ⟨v, hv, P, B, ia, s, Fs, r, (Post.bind w).mono (fun _ _ q => q.to) fun y s' q u H' rv => ?_⟩
    obtain ⟨F, Fs', h1, h2, h3, h4, h5⟩ := rv
    match e2 : s'[i]? with
    | none => rw [e2] at q; exact q.elim
    | some none => rw [e2] at q; exact q.elim
    | some (some (o', dx)) =>
      simp only [e2] at q
      obtain ⟨v', G, hv', ov⟩ := h4.opd e2
      rw [hv] at hv'; cases hv'
      match e3 : g dx y.2 with
      | none => rw [e3] at q; exact q.elim
      | some (true, z) => rw [e3] at q; exact q.elim
      | some (false, z) =>
        simp only [e3] at q
        refine ho (h4.weak fun b m => .inl m) ov ⟨h1, h3, .inl (h4.noOwn fun a m => .inr m)⟩ h2 e3 fun w H2 rv2 => ?_
        obtain ⟨F2, Fs2, g1, g2, g3, g4, _⟩ := rv2
        match e4 : putS s' i .sh z with
        | none => rw [e4] at q; exact q.elim
        | some s2 =>
          simp only [e4] at q
          obtain ⟨x, e5, e6, e7⟩ := putS_inv e4
          subst e7
          exact q _ H2 _ g2 ((g4.weak fun b m => .inl m).set g1 (g4.noOwn fun a m => .inr m) g3 e5 e6 (by decide) fun n => absurd rfl n)
  match e : s[i]? with
  | some (some (.io, _)) => simp only [e] at w; exact w.elim
  | some (some (.sh, d)) => simp only [e] at w; exact go _ _ e w
  | some (some (.ow, d)) => simp only [e] at w; exact go _ _ e w
  | some none => simp only [e] at w; exact w.elim
  | none => simp only [e] at w; exact w.elim
theorem ds_aug {op : Operator} {g : D → D → Option (Bool × D)} {ti : TIp} {i : Nat} {x : Str} {e : Expr} {pos' : Pos} {f : M (Bool × D)} (hop : PIp X op ti) (ho : OpD X.K g ti) (he : PE X e (tD X.K E f)) (hN : X.N.Nodup) (hi : X.N[i]? = some x := by rfl)
    (hx : Loc X.env.scope x := by first | exact .inl rfl | exact .inr rfl) (hf : X.fn x = true ∨ X.env.scope.names.lookup x = some .local := by first | exact .inl rfl | exact .inr rfl | assumption) : PS X (.AugAssign (.Name x pos') op e pos) (tS X.K E (augM g i f)) := (ps_aug hN hi hx he hop hf).imp (tS_aug ho)
end

/-! ### targets -/
inductive Tg where
  | nm (i : Nat)
  | tp (ts : List Tg)
mutual
def Tg.put : Tg → D → S → Option S
  | .nm i, d, s => putS s i .sh d
  | .tp ts, d, s => match d with
    | .tup ds => Tg.puts ts ds s
    | _ => none
def Tg.puts : List Tg → List D → S → Option S
  | [], [], s => some s
  | t :: ts, d :: ds, s => (t.put d s).bind fun s' => Tg.puts ts ds s'
  | _, _, _ => none
end
mutual
def gT (K : PySem.W.Frag) : Tg → TG
  | .nm i => gName i
  | .tp ts => gTup K ts.length (gTs K ts)
def gTs (K : PySem.W.Frag) : List Tg → TGs
  | [] => gNil
  | t :: ts => gCons (gT K t) (gTs K ts)
end
theorem puts_len : ∀ {ts : List Tg} {ds : List D} {s s' : S}, Tg.puts ts ds s = some s' → ds.length = ts.length
  | [], [], _, _, _ => rfl
  | [], _ :: _, _, _, h => by simp [Tg.puts] at h
  | _ :: _, [], _, _, h => by simp [Tg.puts] at h
  | t :: ts, d :: ds, s, s', h => by
    rw [Tg.puts] at h
    obtain ⟨s1, e1, e2⟩ := Option.bind_eq_some_iff.mp h
    simp [puts_len e2]
mutual
theorem put_ok {K : PySem.W.Frag} {P B : Addr → Prop} {ia : Nat → Addr} {H : Hp} : ∀ {t : Tg} {d : D} {s s' : S} {σ : St} {Fs : Nat → List Addr} {x : V} {F : List Addr} {Q : St → Hp → Prop}, t.put d s = some s' → SR K P B ia s σ H Fs → Rep K H d x F → (∀ a, a ∈ F → P a) → (∀ a, a ∈ F → B a) →
    (∀ σ' Fs', SR K P B ia s' σ' H Fs' → Q σ' H) → gT K t x σ H Q
  | .nm i, d, s, s', σ, Fs, x, F, Q, h, r, hr, hp, hb, k => by
    rw [Tg.put] at h
    obtain ⟨y, e1, e2, e3⟩ := putS_inv h
    subst e3
    rw [gT]
    exact k _ _ (r.set hr (r.noOwn hp) hb e1 e2 (by decide) fun n => absurd rfl n)
  | .tp ts, d, s, s', σ, Fs, x, F, Q, h, r, hr, hp, hb, k => by
    cases d with
    | tup ds =>
      rw [Tg.put] at h
      cases hr with
      | @tup a _ vs F h1 h2 =>
        rw [gT]
        exact ⟨a, vs, rfl, h1, by rw [← h2.length]; exact puts_len h, puts_ok h r h2 hp hb k⟩
    | _ => simp [Tg.put] at h
theorem puts_ok {K : PySem.W.Frag} {P B : Addr → Prop} {ia : Nat → Addr} {H : Hp} : ∀ {ts : List Tg} {ds : List D} {s s' : S} {σ : St} {Fs : Nat → List Addr} {xs : List V} {F : List Addr} {Q : St → Hp → Prop}, Tg.puts ts ds s = some s' → SR K P B ia s σ H Fs → Reps K H ds xs F → (∀ a, a ∈ F → P a) → (∀ a, a ∈ F → B a) →
    (∀ σ' Fs', SR K P B ia s' σ' H Fs' → Q σ' H) → gTs K ts xs σ H Q
  | [], [], s, s', σ, Fs, xs, F, Q, h, r, hr, hp, hb, k => by
    cases hr
    rw [Tg.puts] at h; cases h
    rw [gTs]
    exact ⟨rfl, k σ Fs r⟩
  | [], _ :: _, _, _, _, _, _, _, _, h, _, _, _, _, _ => by simp [Tg.puts] at h
  | _ :: _, [], _, _, _, _, _, _, _, h, _, _, _, _, _ => by simp [Tg.puts] at h
  | t :: ts, d :: ds, s, s', σ, Fs, xs, F, Q, h, r, hr, hp, hb, k => by
    rw [Tg.puts] at h
    obtain ⟨s1, e1, e2⟩ := Option.bind_eq_some_iff.mp h
    cases hr with
    | @cons _ v F1 _ vs G h1 h2 =>
      rw [gTs]
      refine ⟨v, vs, rfl, put_ok e1 r h1 (fun a m => hp a (List.mem_append_left _ m)) (fun a m => hb a (List.mem_append_left _ m)) fun σ1 Fs1 r1 => ?_⟩
      exact puts_ok e2 r1 h2 (fun a m => hp a (List.mem_append_right _ m)) (fun a m => hb a (List.mem_append_right _ m)) k
end
/-- targets = e -/
def asgM (t : Tg) (f : M (Bool × D)) : M Fl := fun s => (f s).bind fun r s' => match t.put r.2 s' with
  | some s2 => .ok .nx s2
  | none => .stuck
section
variable {X : Cx} {E : WX} {pos : Pos}
theorem tS_asg {K : PySem.W.Frag} {t : Tg} {f : M (Bool × D)} (Dn : Ends) (σ : St) (H : Hp) (h : tS K E (asgM t f) Dn σ H) : tAsg (tD K E f) (gT K t) Dn σ H := by
  obtain ⟨P, B, ia, s, Fs, r, w⟩ := h
  refine ⟨P, B, ia, s, Fs, r, (Post.bind w).mono (fun _ _ q => q.to) fun a s' q v H' rv => ?_⟩
  obtain ⟨F, Fs', h1, h2, h3, h4, h5⟩ := rv
  split at q
  · rename_i s2 e
    exact put_ok e h4 h1 (fun a m => .inr m) h3 fun σ' Fs2 r2 => q σ' H' Fs2 h2 (r2.weak fun b m => .inl m)
  · exact q.elim
theorem ds_asg {tg e : Expr} {t : Tg} {f : M (Bool × D)} (he : PE X e (tD X.K E f)) (hg : PG X tg (gT X.K t)) (hs : swapsWithSole [tg] e pos.line X.env = pure false := by rfl) (hw : swappedStores [tg] e X.env = pure none := by rfl)
    (h1 : (assignEach [tg] X.env).map (·.2) = [assign tg X.env] := by rfl) : PS X (.Assign [tg] e pos) (tS X.K E (asgM t f)) := (ps_asg he hg hs hw h1).imp tS_asg
theorem dg_name {i : Nat} {x : Str} (hN : X.N.Nodup) (hi : X.N[i]? = some x := by rfl) (hx : Loc X.env.scope x := by first | exact .inl rfl | exact .inr rfl) (hf : X.fn x = true ∨ X.env.scope.names.lookup x = some .local := by first | exact .inl rfl | exact .inr rfl | assumption) : PG X (.Name x pos) (gT X.K (.nm i)) := by
  rw [gT]; exact pg_name hN hi hx hf
theorem dgs_nil : PGs X [] (gTs X.K []) := by rw [gTs]; exact pgs_nil
theorem dgs_cons {e : Expr} {es : List Expr} {t : Tg} {ts : List Tg} (h1 : PG X e (gT X.K t)) (h2 : PGs X es (gTs X.K ts)) (hs : (assignEach (e :: es) X.env).map (·.2) = assign e X.env :: (assignEach es X.env).map (·.2) := by rfl) : PGs X (e :: es) (gTs X.K (t :: ts)) := by
  rw [gTs]; exact pgs_cons h1 h2 hs
theorem dg_tup {es : List Expr} {k : Nat} {ts : List Tg} (hc : X.calm = true) (h : PGs X es (gTs X.K ts)) (hn : (assignEach es X.env).length = ts.length := by rfl) (hst : (assignEach es X.env).findIdx? (·.1) = none := by rfl) : PG X (.Tuple es k pos) (gT X.K (.tp ts)) := by
  rw [gT]; exact pg_tup hc h hn hst
end
end PV

/-! PV: loops and comprehensions by values. -/
namespace PV
open PySem PySem.Spec L2

/-! ### while -/
/-- one turn of a while, k behind it -/
def wstep (c : M Bool) (b : M Fl) (k : M Fl) : M Fl := fun s => (c s).bind fun t s1 => if t = true then (b s1).bind fun fl s2 => (match fl with
      | .bk => .ok .nx s2
      | .rt fr d => .ok (.rt fr d) s2
      | _ => k s2) else .ok .nx s1
def whileN (c : M Bool) (b : M Fl) : Nat → M Fl
  | 0 => fun _ => .stuck
  | n + 1 => wstep c b (whileN c b n)
def Res.isStuck {α : Type} : Res α → Prop
  | .stuck => True
  | _ => False
open Classical in
noncomputable def whileM (c : M Bool) (b : M Fl) : M Fl := fun s => if h : ∃ n, ¬ (whileN c b n s).isStuck then whileN c b h.choose s else .stuck
section
variable {c : M Bool} {b : M Fl}
theorem wstep_cases (c : M Bool) (b : M Fl) (s : S) : (∃ r, ∀ k, wstep c b k s = r) ∨ ∃ s2, ∀ k, wstep c b k s = k s2 := by
  unfold wstep
  cases c s with
  | stuck => exact .inl ⟨_, fun _ => rfl⟩
  | exc x s1 => exact .inl ⟨_, fun _ => rfl⟩
  | ok t s1 =>
    cases t with
    | false => exact .inl ⟨_, fun _ => rfl⟩
    | true =>
      simp only [Res.bind_ok, if_pos]
      cases b s1 with
      | stuck => exact .inl ⟨_, fun _ => rfl⟩
      | exc x s1 => exact .inl ⟨_, fun _ => rfl⟩
      | ok fl s2 =>
        cases fl with
        | bk => exact .inl ⟨_, fun _ => rfl⟩
        | rt fr d => exact .inl ⟨_, fun _ => rfl⟩
        | nx => exact .inr ⟨s2, fun _ => rfl⟩
        | ct => exact .inr ⟨s2, fun _ => rfl⟩
theorem whileN_succ : ∀ (n : Nat) (s : S), ¬ (whileN c b n s).isStuck → whileN c b (n + 1) s = whileN c b n s
  | 0, s, h => absurd trivial h
  | n + 1, s, h => by
    show wstep c b (whileN c b (n + 1)) s = wstep c b (whileN c b n) s
    rcases wstep_cases c b s with ⟨r, hr⟩ | ⟨s2, hr⟩
    · rw [hr, hr]
    · have h' : ¬ (wstep c b (whileN c b n) s).isStuck := h
      rw [hr] at h'
      rw [hr, hr, whileN_succ n s2 h']
theorem whileN_le {n m : Nat} (hm : n ≤ m) {s : S} (h : ¬ (whileN c b n s).isStuck) : whileN c b m s = whileN c b n s := by
  induction hm with
  | refl => rfl
  | step hm ih => rw [whileN_succ _ _ (by rw [ih]; exact h), ih]
theorem whileM_of {n : Nat} {s : S} (h : ¬ (whileN c b n s).isStuck) : whileM c b s = whileN c b n s := by
  unfold whileM
  have hx : ∃ n, ¬ (whileN c b n s).isStuck := ⟨n, h⟩
  rw [dif_pos hx]
  rcases Nat.le_total n hx.choose with q | q
  · exact whileN_le q h
  · exact (whileN_le q hx.choose_spec).symm
theorem whileM_no {s : S} (h : ∀ n, (whileN c b n s).isStuck) : whileM c b s = .stuck := by
  unfold whileM
  rw [dif_neg fun ⟨n, q⟩ => q (h n)]
theorem whileM_ex (s : S) (h : ¬ (whileM c b s).isStuck) : ∃ n, whileM c b s = whileN c b n s := by
  by_cases q : ∃ n, ¬ (whileN c b n s).isStuck
  · obtain ⟨n, q⟩ := q
    exact ⟨n, whileM_of q⟩
  · rw [whileM_no fun n => Classical.byContradiction fun z => q ⟨n, z⟩] at h
    exact absurd trivial h
theorem isStuck_eq {α : Type} {r : Res α} (h : r.isStuck) : r = .stuck := by
  cases r with
  | stuck => rfl
  | ok a s => exact h.elim
  | exc x s => exact h.elim
/-- one turn of a while -/
theorem whileM_eq (s : S) : whileM c b s = wstep c b (whileM c b) s := by
  by_cases q : ∃ n, ¬ (whileN c b n s).isStuck
  · obtain ⟨n, q⟩ := q
    rw [whileM_of q]
    cases n with
    | zero => exact absurd trivial q
    | succ n =>
      have q' : ¬ (wstep c b (whileN c b n) s).isStuck := q
      show wstep c b (whileN c b n) s = _
      rcases wstep_cases c b s with ⟨r, hr⟩ | ⟨s2, hr⟩
      · rw [hr, hr]
      · rw [hr] at q'
        rw [hr, hr, whileM_of q']
  · have h : ∀ n, (whileN c b n s).isStuck := fun n => Classical.byContradiction fun z => q ⟨n, z⟩
    rw [whileM_no h]
    rcases wstep_cases c b s with ⟨r, hr⟩ | ⟨s2, hr⟩
    · have := isStuck_eq (h 1)
      rw [hr]
      exact this.symm.trans (hr _)
    · rw [hr, whileM_no fun n => ?_]
      have := h (n + 1)
      have e : whileN c b (n + 1) s = whileN c b n s2 := hr _
      rw [e] at this
      exact this
theorem Post.notStuck {α : Type} {E : Exn → S → Prop} {Q : α → S → Prop} {r : Res α} (h : Post E Q r) : ¬ r.isStuck := by
  cases r with
  | stuck => exact fun _ => h
  | ok a s => exact fun q => q
  | exc x s => exact fun q => q
end
section
variable {X : Cx} {E : WX} {pos : Pos}
theorem tS_while {K : PySem.W.Frag} {c : M Bool} {b : M Fl} (Dn : Ends) (σ : St) (H : Hp) (h : tS K E (whileM c b) Dn σ H) : tWhile (tT K E c) (tS K E b) Dn σ H := by
  obtain ⟨P, B, ia, s, Fs, r, w⟩ := h
  obtain ⟨n, en⟩ := whileM_ex s w.notStuck
  rw [en] at w
  refine ⟨fun m σ' H' => ∃ s' Fs', Fr P H H' ∧ SR K P B ia s' σ' H' Fs' ∧ Post (XPd K P B ia H E) (SPd K P B ia H Dn) (whileN c b m s'), ⟨n, s, Fs, Fr.refl, r, w⟩, ?_⟩
  rintro m σ1 H1 ⟨s1, Fs1, fr1, r1, w1⟩
  cases m with
  | zero => exact w1.elim
  | succ m =>
    have w1 : Post _ _ ((c s1).bind _) := w1
    refine ⟨P, B, ia, s1, Fs1, r1, (Post.bind w1).mono (fun x s2 q => (q.step fr1).to) fun t s2 q H2 Fs2 fr2 r2 => ?_⟩
    cases t with
    | false =>
      rw [if_neg (by decide)] at q
      exact iteF (q σ1 H2 Fs2 (fr1.trans fr2) r2)
    | true =>
      rw [if_pos rfl] at q
      refine iteT ⟨fun σ' H' => ∃ s' Fs', Fr P H H' ∧ SR K P B ia s' σ' H' Fs' ∧ Post (XPd K P B ia H E) (SPd K P B ia H Dn) (whileN c b m s'), fun σ' H' hN => ⟨m, Nat.lt_succ_self m, hN⟩, P, B, ia, s2, Fs2, r2, ?_⟩
      refine (Post.bind q).mono (fun x s3 q => q.step (fr1.trans fr2)) fun fl s3 q => ?_
      cases fl with
      | nx => exact fun σ' H' Fs' fr r' => ⟨s3, Fs', (fr1.trans fr2).trans fr, r', q⟩
      | ct => exact fun σ' H' Fs' fr r' => ⟨s3, Fs', (fr1.trans fr2).trans fr, r', q⟩
      | bk => exact fun σ' H' Fs' fr r' => q σ' H' Fs' ((fr1.trans fr2).trans fr) r'
      | rt f d => exact fun v σ' H' rv => q v σ' H' (RV.step (P' := P) (fr1.trans fr2) rv)
theorem ds_while {t : Expr} {body : List Stmt} {c : M Bool} {b : M Fl} (hp : PassesOwn (model X.prog X.w) X.A X.env X.xe) (hc : PT X t (tT X.K E c)) (hb : PSs X body (tS X.K E b)) : PS X (.While t body [] pos) (tS X.K E (whileM c b)) := (ps_while hp hc hb).imp tS_while
end

/-! ### for -/
def forL (t : Tg) (b : M Fl) : List D → M Fl
  | [] => fun s => .ok .nx s
  | d :: ds => fun s => match t.put d s with
    | none => .stuck
    | some s1 => (b s1).bind fun fl s2 => (match fl with
      | .bk => .ok .nx s2
      | .rt fr d => .ok (.rt fr d) s2
      | _ => forL t b ds s2)
def forM (it : M (List D)) (t : Tg) (b : M Fl) : M Fl := fun s => (it s).bind fun ds s1 => forL t b ds s1
/-- what a walk hands out, turn by turn -/
def ItOK (K : PySem.W.Frag) (P B : Addr → Prop) (J : It) (ds : List D) (H : Hp) : Prop :=
  ∃ inv : Hp → Prop, inv H ∧ (∀ H1 H2, inv H1 → Fr P H1 H2 → inv H2) ∧ ∀ i H1, inv H1 →
    (∀ d, ds[i]? = some d → J.go i H1 ∧ ∀ x H2, J.yld i H1 x H2 → (H2 = H1 ∨ ∃ p o, H1 p = none ∧ H2 = upd H1 p o) ∧ ∃ F, Rep K H2 d x F ∧ (∀ a, a ∈ F → P a) ∧ ∀ a, a ∈ F → B a) ∧ (i = ds.length → J.stop i H1)
def tI (K : PySem.W.Frag) (E : WX) (it : M (List D)) : TI := fun σ H R => ∃ P B ia s Fs, SR K P B ia s σ H Fs ∧
  Post (fun x s' => ∀ cls dx H', RX K P B ia s' σ H H' x cls dx → E cls dx σ H') (fun ds s' => ∀ J H' P' Fs', (∀ b, P b → P' b) → Fr P H H' → SR K P' B ia s' σ H' Fs' → ItOK K P' B J ds H' → R J H') (it s)
section
variable {X : Cx} {E : WX} {pos : Pos}
theorem tS_for {K : PySem.W.Frag} {it : M (List D)} {t : Tg} {b : M Fl} (Dn : Ends) (σ : St) (H : Hp) (h : tS K E (forM it t b) Dn σ H) : tFor (tI K E it) (gT K t) (tS K E b) Dn σ H := by
  obtain ⟨P, B, ia, s, Fs, r, w⟩ := h
  refine ⟨P, B, ia, s, Fs, r, (Post.bind w).mono (fun _ _ q => q.to) fun ds s1 q J H1 P' Fs1 hP fr1 r1 ok => ?_⟩
  obtain ⟨inv, i0, keep, turn⟩ := ok
  refine ⟨fun i m σ' H' => m + i = ds.length ∧ ∃ s' Fs', Fr P H H' ∧ inv H' ∧ SR K P' B ia s' σ' H' Fs' ∧ Post (XPd K P B ia H E) (SPd K P B ia H Dn) (forL t b (ds.drop i) s'), ⟨ds.length, by simp, s1, Fs1, fr1, i0, r1, by simpa using q⟩, ?_⟩
  rintro i m σ2 H2 ⟨em, s2, Fs2, fr2, i2, r2, w2⟩
  obtain ⟨go, stop⟩ := turn i H2 i2
  cases e : ds[i]? with
  | none =>
    have hl : ds.length ≤ i := List.getElem?_eq_none_iff.mp e
    rw [List.drop_eq_nil_of_le hl, forL] at w2
    exact .inl ⟨stop (by omega), w2 σ2 H2 Fs2 fr2 (r2.weak hP)⟩
  | some d =>
    obtain ⟨g1, g2⟩ := go d e
    have hi : i < ds.length := (List.getElem?_eq_some_iff.mp e).1
    have ed : ds.drop i = d :: ds.drop (i + 1) := by
      rw [List.drop_eq_getElem_cons hi, (List.getElem?_eq_some_iff.mp e).2]
    rw [ed, forL] at w2
    refine .inr ⟨g1, fun σ' H' => ∃ s' Fs', Fr P H H' ∧ inv H' ∧ SR K P' B ia s' σ' H' Fs' ∧ Post (XPd K P B ia H E) (SPd K P B ia H Dn) (forL t b (ds.drop (i + 1)) s'), fun σ' H' hN => ⟨m - 1, by omega, by omega, hN⟩, fun x H3 y => ?_⟩
    obtain ⟨hH, F, rep, hp, hb⟩ := g2 x H3 y
    have fr3 : Fr P' H2 H3 := by
      rcases hH with e | ⟨p, o, np, e⟩
      · subst e; exact Fr.refl
      · subst e; exact Fr.new np r2.tr
    have r3 : SR K P' B ia s2 σ2 H3 Fs2 := by
      rcases hH with e | ⟨p, o, np, e⟩
      · subst e; exact r2
      · subst e; exact r2.new np
    dsimp only at w2
    split at w2
    · exact w2.elim
    · rename_i s3 e3
      refine put_ok e3 r3 rep hp hb fun σ4 Fs4 r4 => ⟨P', B, ia, s3, Fs4, r4, (Post.bind w2).mono (fun x s5 q => fun σ' cls dx H' rx => q σ' cls dx H' (rx.weak (fr2.trans (fr3.mono hP)) hP)) fun fl s5 q => ?_⟩
      have fr23 := fr2.trans (fr3.mono hP)
      cases fl with
      | nx => exact fun σ' H' Fs' fr r' => ⟨s5, Fs', fr23.trans (fr.mono hP), keep _ _ (keep _ _ i2 fr3) fr, r', q⟩
      | ct => exact fun σ' H' Fs' fr r' => ⟨s5, Fs', fr23.trans (fr.mono hP), keep _ _ (keep _ _ i2 fr3) fr, r', q⟩
      | bk => exact fun σ' H' Fs' fr r' => q σ' H' Fs' (fr23.trans (fr.mono hP)) (r'.weak hP)
      | rt f d =>
        refine fun v σ' H' rv => q v σ' H' ?_
        obtain ⟨F, Fs', h1, h2, h3, h4, h5⟩ := rv
        refine ⟨F, Fs', h1, fr23.trans (h2.mono hP), h3, h4.weak fun b m => m.elim (fun m => .inl (hP b m)) .inr, fun hf => ?_⟩
        obtain ⟨a, G, k1, k2, k3, k4, k5, k6⟩ := h5 hf
        exact ⟨a, G, k1, k2, k3, k4, fun m => k5 (hP a m), k6⟩
theorem ds_for {tg iter : Expr} {body : List Stmt} {it : M (List D)} {t : Tg} {b : M Fl} (hp : PassesOwn (model X.prog X.w) X.A X.env X.xe) (hc : X.calm = true) (hi : PI X tg iter (tI X.K E it)) (hg : PG X tg (gT X.K t)) (hb : PSs X body (tS X.K E b))
    (hs : ∀ x, foldedSetIterable iter X.env x = pure x := by intro _; rfl) : PS X (.For tg iter body [] pos) (tS X.K E (forM it t b)) := (ps_for hp hc hi hg hb hs).imp tS_for
theorem _root_.L2.PI.imp {tg e : Expr} {t t' : TI} (h : PI X tg e t) (q : ∀ σ H R, t' σ H R → t σ H R) : PI X tg e t' := ⟨fun pins s σ H R I w => h.run pins s σ H R I (q σ H R w)⟩
end

/-! ### what is walked -/
section
variable {K : PySem.W.Frag} {P B : Addr → Prop} {H : Hp} {ds : List D} {vs : List V} {F : List Addr} {a : Addr}
theorem it_list (h : H a = some (.lst vs)) (hr : Reps K H ds vs F) (pa : P a) (hp : ∀ a, a ∈ F → P a) (hb : ∀ a, a ∈ F → B a) : ItOK K P B (Itl K a) ds H := by
  refine ⟨fun H' => H' a = some (.lst vs) ∧ Reps K H' ds vs F, ⟨h, hr⟩, fun H1 H2 q fr => ⟨(fr.p a pa).trans q.1, Reps.keep fr.i q.2 fun b m => fr.p b (hp b m)⟩, fun i H1 q => ⟨fun d e => ?_, fun hl => ⟨vs, SqL.of q.1, by rw [← q.2.length]; exact Nat.le_of_eq hl.symm⟩⟩⟩
  obtain ⟨v, G, e1, e2, e3⟩ := q.2.get e
  refine ⟨⟨vs, v, SqL.of q.1, e1⟩, fun x H2 y => ?_⟩
  obtain ⟨rfl, y⟩ := y
  have := y vs (SqL.of q.1)
  rw [e1] at this; cases this
  exact ⟨.inl rfl, G, e2, fun b m => hp b (e3 b m), fun b m => hb b (e3 b m)⟩
theorem it_fro (h : Fz K H a vs) (hr : Reps K H ds vs F) (hp : ∀ a, a ∈ F → P a) (hb : ∀ a, a ∈ F → B a) : ItOK K P B (Itl K a) ds H := by
  refine ⟨fun H' => Fz K H' a vs ∧ Reps K H' ds vs F, ⟨h, hr⟩, fun H1 H2 q fr => ⟨fz_keep q.1 fr.i, Reps.keep fr.i q.2 fun b m => fr.p b (hp b m)⟩, fun i H1 q => ⟨fun d e => ?_, fun hl => ⟨vs, fz_sq q.1, by rw [← q.2.length]; exact Nat.le_of_eq hl.symm⟩⟩⟩
  obtain ⟨v, G, e1, e2, e3⟩ := q.2.get e
  refine ⟨⟨vs, v, fz_sq q.1, e1⟩, fun x H2 y => ?_⟩
  obtain ⟨rfl, y⟩ := y
  have := y vs (fz_sq q.1)
  rw [e1] at this; cases this
  exact ⟨.inl rfl, G, e2, fun b m => hp b (e3 b m), fun b m => hb b (e3 b m)⟩
theorem it_tup (h : SqT K H a vs) (hr : Reps K H ds vs F) (hp : ∀ a, a ∈ F → P a) (hb : ∀ a, a ∈ F → B a) : ItOK K P B (Itt K a) ds H := by
  refine ⟨fun H' => SqT K H' a vs ∧ Reps K H' ds vs F, ⟨h, hr⟩, fun H1 H2 q fr => ⟨sqT_keep q.1 fr.i, Reps.keep fr.i q.2 fun b m => fr.p b (hp b m)⟩, fun i H1 q => ⟨fun d e => ?_, fun hl => ⟨vs, q.1, by rw [← q.2.length]; exact Nat.le_of_eq hl.symm⟩⟩⟩
  obtain ⟨v, G, e1, e2, e3⟩ := q.2.get e
  refine ⟨⟨vs, v, q.1, e1⟩, fun x H2 y => ?_⟩
  obtain ⟨rfl, y⟩ := y
  have := y vs q.1
  rw [e1] at this; cases this
  exact ⟨.inl rfl, G, e2, fun b m => hp b (e3 b m), fun b m => hb b (e3 b m)⟩
/-- the signs of a text -/
def signs (x : Str) : List D := x.cps.toList.map fun c => .str ⟨#[c]⟩
theorem it_str {x : Str} : ItOK K P B (Its x) (signs x) H := by
  refine ⟨fun _ => True, trivial, fun _ _ _ _ => trivial, fun i H1 _ => ⟨fun d e => ?_, fun hl => ?_⟩⟩
  · unfold signs at e
    rw [List.getElem?_map] at e
    obtain ⟨c, e1, e2⟩ := Option.map_eq_some_iff.mp e
    have e3 : x.cps[i]? = some c := by simpa using e1
    refine ⟨(Array.getElem?_eq_some_iff.mp e3).1, fun v H2 y => ?_⟩
    obtain ⟨rfl, c', e4, rfl⟩ := y
    rw [e3] at e4; cases e4
    subst e2
    exact ⟨.inl rfl, [], .str, nofun, nofun⟩
  · show x.cps.size ≤ i
    simp [signs] at hl; omega
def intsD (lo : Int) (n : Nat) : List D := (List.range n).map fun i => .int (lo + (i : Nat))
theorem intsD_get {lo : Int} {n i : Nat} {d : D} (e : (intsD lo n)[i]? = some d) : i < n ∧ d = .int (lo + (i : Nat)) := by
  unfold intsD at e
  rw [List.getElem?_map] at e
  obtain ⟨c, e1, e2⟩ := Option.map_eq_some_iff.mp e
  obtain ⟨h1, h2⟩ := List.getElem?_eq_some_iff.mp e1
  simp at h1 h2
  subst h2
  exact ⟨h1, e2.symm⟩
theorem it_range {lo : Int} {n : Nat} : ItOK K P B (Itr lo n) (intsD lo n) H := by
  refine ⟨fun _ => True, trivial, fun _ _ _ _ => trivial, fun i H1 _ => ⟨fun d e => ?_, fun hl => ?_⟩⟩
  · obtain ⟨h1, rfl⟩ := intsD_get e
    refine ⟨h1, fun v H2 y => ?_⟩
    obtain ⟨rfl, rfl⟩ := y
    exact ⟨.inl rfl, [], .int, nofun, nofun⟩
  · show n ≤ i
    simp [intsD] at hl; omega
end
/-- for .. in e: a list, a tuple, a text -/
def itM (f : M (Bool × D)) : M (List D) := fun s => (f s).bind fun r s' => match r.2 with
  | .lst ds => .ok ds s'
  | .tup ds => .ok ds s'
  | .fro ds => .ok ds s'
  | .str x => .ok (signs x) s'
  | _ => .stuck
/-- range(n) -/
noncomputable def rng1M (f : M (Bool × D)) : M (List D) := fun s => (f s).bind fun r s' => match r.2 with
  | .int j => if gd (-(2 ^ 62) ≤ j ∧ j < 2 ^ 62) = true then .ok (intsD 0 j.toNat) s' else .stuck
  | _ => .stuck
section
variable {X : Cx} {E : WX} {pos : Pos} {tg : Expr}
theorem _root_.L2.PI.or {e : Expr} {t t' : TI} (h : PI X tg e t) (h' : PI X tg e t') : PI X tg e (fun σ H R => t σ H R ∨ t' σ H R) := ⟨fun pins s σ H R I w => w.elim (h.run pins s σ H R I) (h'.run pins s σ H R I)⟩
theorem di_it {e : Expr} {f : M (Bool × D)} (he : PE X e (tD X.K E f)) : PI X tg e (tI X.K E (itM f)) := ((pi_list he).or ((pi_tup he).or (pi_str he))).imp fun σ H R h => by
  obtain ⟨P, B, ia, s, Fs, r, w⟩ := h
  unfold itM at w
  have w' := Post.bind w
  cases e : f s with
  | stuck => rw [e] at w'; exact w'.elim
  | exc x s1 =>
    rw [e] at w'
    exact .inl ⟨P, B, ia, s, Fs, r, by rw [e]; exact w'⟩
  | ok a s1 =>
    rw [e] at w'
    obtain ⟨fr0, d⟩ := a
    simp only [Post.ok] at w'
    split at w'
    · rename_i ds
      refine .inl ⟨P, B, ia, s, Fs, r, ?_⟩
      rw [e]
      intro v H' rv
      obtain ⟨F, Fs', h1, h2, h3, h4, h5⟩ := rv
      cases h1 with
      | @lst a _ vs G g1 g2 => exact ⟨a, rfl, ⟨vs, SqL.of g1⟩, w' _ H' _ Fs' (fun b m => .inl m) h2 h4 (it_list g1 g2 (.inr List.mem_cons_self) (fun b m => .inr (List.mem_cons_of_mem _ m)) fun b m => h3 b (List.mem_cons_of_mem _ m))⟩
    · rename_i ds
      refine .inr (.inl ⟨P, B, ia, s, Fs, r, ?_⟩)
      rw [e]
      intro v H' rv
      obtain ⟨F, Fs', h1, h2, h3, h4, h5⟩ := rv
      cases h1 with
      | @tup a _ vs G g1 g2 => exact ⟨a, rfl, ⟨vs, g1⟩, w' _ H' _ Fs' (fun b m => .inl m) h2 h4 (it_tup g1 g2 (fun b m => .inr m) h3)⟩
    · rename_i ds
      refine .inl ⟨P, B, ia, s, Fs, r, ?_⟩
      rw [e]
      intro v H' rv
      obtain ⟨F, Fs', h1, h2, h3, h4, h5⟩ := rv
      cases h1 with
      | @lsz a _ vs G g1 g2 => exact ⟨a, rfl, ⟨vs, fz_sq g1⟩, w' _ H' _ Fs' (fun b m => .inl m) h2 h4 (it_fro g1 g2 (fun b m => .inr m) h3)⟩
    · rename_i x
      refine .inr (.inr ⟨P, B, ia, s, Fs, r, ?_⟩)
      rw [e]
      intro v H' rv
      obtain ⟨F, Fs', h1, h2, h3, h4, h5⟩ := rv
      cases h1
      exact ⟨x, rfl, w' _ H' P Fs' (fun b m => m) h2 (h4.weak fun b m => .inl m) it_str⟩
    · exact w'.elim
theorem di_rng1 {a : Expr} {f : M (Bool × D)} {p : Pos} (hg : Gl X "range") (hm : X.mg "range" = none) (ha : PE X a (tD X.K E f)) (hs : starEach [a] X.env = [(false, eval a X.env)] := by rfl) : PI X tg (.Call (.Name "range" p) [a] [] pos) (tI X.K E (rng1M f)) :=
  (pi_range1 hg hm (pa_cons ha pa_nil hs) hs).imp fun σ H R h => by
    obtain ⟨P, B, ia, s, Fs, r, w⟩ := h
    refine ⟨P, B, ia, s, Fs, r, (Post.bind w).mono (fun _ _ q => q) fun a s' q v H' rv => ?_⟩
    obtain ⟨F, Fs', h1, h2, h3, h4, h5⟩ := rv
    split at q
    · rename_i j ej
      rw [ej] at h1
      cases h1
      split at q
      · rename_i hj
        have hj := gd_iff.mp hj
        exact ⟨j, rfl, hj.1, hj.2, q _ H' P Fs' (fun b m => m) h2 (h4.weak fun b m => .inl m) it_range⟩
      · exact q.elim
    · exact q.elim
end
end PV

/-! PV: defs by values. -/
namespace PV
open PySem PySem.Spec L2

/-- what a def gives: a value (fr: its object is new) and what stands in the arguments that it changes; or an exception -/
inductive FRes where
  | ret (fr : Bool) (d : D) (outs : List D)
  | exc (x : Exn) (outs : List D)
  | stuck
abbrev FS := List D → FRes

/-- behind a call: H the heap ahead of it, vs the arguments, Fa their footprints, G, Go those of what came -/
structure FV0 (K : PySem.W.Frag) (ios : List Nat) (vs : List V) (Fa : Nat → List Addr) (H H' : Hp) (outs : List D) (Go : Nat → List Addr) : Prop where
  keep : ∀ b, H b ≠ none → (∀ j, j ∈ ios → vs[j]? ≠ some (.ref b)) → H' b = H b
  len : outs.length = ios.length
  out : ∀ (n j : Nat), ios[n]? = some j → ∃ (a : Addr) (d' : D) (T : List Addr), vs[j]? = some (.ref a) ∧ outs[n]? = some d' ∧ Go n = a :: T ∧ RepM K H' d' a T ∧ a ∉ T ∧ (∀ b, b ∈ T → (∃ i, b ∈ Fa i) ∨ H b = none) ∧ ∀ m, m ≠ n → m < ios.length → a ∉ Go m
structure FV (K : PySem.W.Frag) (ios : List Nat) (vs : List V) (Fa : Nat → List Addr) (H H' : Hp) (fr : Bool) (d : D) (outs : List D) (v : V) (G : List Addr) (Go : Nat → List Addr) : Prop extends FV0 K ios vs Fa H H' outs Go where
  rep : Rep K H' d v G
  gin : ∀ b, b ∈ G → (∃ i, b ∈ Fa i) ∨ H b = none
  gio : ∀ (n j : Nat) (a : Addr), ios[n]? = some j → vs[j]? = some (.ref a) → a ∉ G
  own : fr = true → ∃ a T, v = .ref a ∧ G = a :: T ∧ RepM K H' d a T ∧ a ∉ T ∧ H a = none ∧ ∀ n, n < ios.length → a ∉ Go n
/-- a def's promise by its function F; ios: the parameters whose objects it may change -/
def spF (K : PySem.W.Frag) (ios : List Nat) (n : Nat) (F : FS) : Sp := fun vs H Q E => vs.length = n ∧ ∃ (ds : List D) (Fa : Nat → List Addr), ds.length = n ∧ (∀ i d, ds[i]? = some d → ∃ v, vs[i]? = some v ∧ Rep K H d v (Fa i)) ∧ (∀ i, n ≤ i → Fa i = []) ∧
  (∀ j, j ∈ ios → ∃ a T d, ds[j]? = some d ∧ vs[j]? = some (.ref a) ∧ Fa j = a :: T ∧ RepM K H d a T ∧ a ∉ T ∧ ∀ i, i ≠ j → a ∉ Fa i) ∧
  match F ds with
  | .ret fr d outs => ∀ v H' G Go, FV K ios vs Fa H H' fr d outs v G Go → Q v H'
  | .exc x outs => ∀ cls dx H' Go, FV0 K ios vs Fa H H' outs Go → XRep K H' x cls dx → E cls dx H'
  | .stuck => False

/-! ### the body -/
def initS (ios : List Nat) (m : Nat) (ds : List D) : S := ds.mapIdx (fun i d => some (if i ∈ ios then Own.io else Own.sh, d)) ++ List.replicate (m - ds.length) none
def outsOf (s : S) : List Nat → Option (List D)
  | [] => some []
  | i :: is => match s[i]? with
    | some (some (.io, d)) => (outsOf s is).map fun ds => d :: ds
    | _ => none
/-- a def's function from its body's: n parameters, m slots in all -/
def runF (ios : List Nat) (n m : Nat) (f : M Fl) : FS := fun ds => if ds.length = n then (match f (initS ios m ds) with
  | .ok (.rt fr d) s => (match outsOf s ios with
    | some outs => .ret fr d outs
    | none => .stuck)
  | .ok .nx s => (match outsOf s ios with
    | some outs => .ret false .non outs
    | none => .stuck)
  | .exc x s => (match outsOf s ios with
    | some outs => .exc x outs
    | none => .stuck)
  | _ => .stuck) else .stuck
theorem outsOf_get {s : S} : ∀ {ios : List Nat} {outs : List D}, outsOf s ios = some outs → outs.length = ios.length ∧ ∀ (n i : Nat), ios[n]? = some i → ∃ d : D, outs[n]? = some d ∧ s[i]? = some (some (Own.io, d))
  | [], outs, h => by cases h; exact ⟨rfl, fun n i e => by simp at e⟩
  | i :: is, outs, h => by
    rw [outsOf] at h
    split at h
    · rename_i d e
      obtain ⟨ds, e1, e2⟩ := Option.map_eq_some_iff.mp h
      subst e2
      obtain ⟨l, g⟩ := outsOf_get e1
      refine ⟨by simp [l], fun n j q => ?_⟩
      cases n with
      | zero =>
        simp at q; subst q
        exact ⟨d, rfl, e⟩
      | succ n =>
        obtain ⟨d', g1, g2⟩ := g n j (by simpa using q)
        exact ⟨d', by simpa using g1, g2⟩
    · cases h
section
variable {K : PySem.W.Frag} {ios : List Nat} {vs : List V} {Fa : Nat → List Addr} {H : Hp} {ds : List D} {N : List Str} {n : Nat}
theorem initS_get {m i : Nat} {x : Slot} (h : (initS ios m ds)[i]? = some x) : (∃ d, ds[i]? = some d ∧ x = some (if i ∈ ios then Own.io else Own.sh, d)) ∨ (ds.length ≤ i ∧ x = none) := by
  unfold initS at h
  by_cases hi : i < ds.length
  · left
    rw [List.getElem?_append_left (by simpa using hi)] at h
    rw [List.getElem?_mapIdx] at h
    obtain ⟨d, e1, e2⟩ := Option.map_eq_some_iff.mp h
    exact ⟨d, e1, e2.symm⟩
  · right
    rw [List.getElem?_append_right (by simpa using hi)] at h
    rw [List.getElem?_replicate] at h
    split at h
    · cases h; exact ⟨Nat.le_of_not_lt hi, rfl⟩
    · cases h
/-- the state at a body's start -/
theorem SR.start (hv : vs.length = n) (hd : ds.length = n) (hN : n ≤ N.length) (rep : ∀ i d, ds[i]? = some d → ∃ v, vs[i]? = some v ∧ Rep K H d v (Fa i)) (out : ∀ i, n ≤ i → Fa i = [])
    (io : ∀ j, j ∈ ios → ∃ a T d, ds[j]? = some d ∧ vs[j]? = some (.ref a) ∧ Fa j = a :: T ∧ RepM K H d a T ∧ a ∉ T ∧ ∀ i, i ≠ j → a ∉ Fa i) :
    SR K (fun b => H b ≠ none ∧ ∀ j, j ∈ ios → vs[j]? ≠ some (.ref b)) (fun b => (∃ i, b ∈ Fa i) ∨ H b = none) (fun i => match vs[i]? with | some (.ref a) => a | _ => 0) (initS ios N.length ds) (L2.start N vs) H Fa := by
  have st : ∀ {i : Nat} {v : V}, vs[i]? = some v → (L2.start N vs)[i]? = some (some v) := fun {i v} h => by
    unfold L2.start
    have hi : i < vs.length := (List.getElem?_eq_some_iff.mp h).1
    rw [List.getElem?_append_left (by simpa using hi), List.getElem?_map, h]; rfl
  refine ⟨?_, fun i o d e => ?_, fun i o d e ne => ?_, fun i d e => ?_, fun i q => ?_, fun j a m => .inl ⟨j, m⟩, fun b q => q.1, fun b q => .inr q⟩
  · unfold initS L2.start
    simp [hv, hd]
  · rcases initS_get e with ⟨d', e1, e2⟩ | ⟨_, e2⟩
    · cases e2
      obtain ⟨v, h1, h2⟩ := rep i d e1
      exact ⟨v, st h1, h2⟩
    · cases e2
  · rcases initS_get e with ⟨d', e1, e2⟩ | ⟨_, e2⟩
    · have hm : i ∈ ios := by
        by_cases hm : i ∈ ios
        · exact hm
        · rw [if_neg hm] at e2; cases e2; exact absurd rfl ne
      rw [if_pos hm] at e2; cases e2
      obtain ⟨a, T, d2, h1, h2, h3, h4, h5, h6⟩ := io i hm
      rw [e1] at h1; cases h1
      exact ⟨a, T, st h2, h3, h4, h5, fun q => q.2 i hm h2, h6⟩
    · cases e2
  · rcases initS_get e with ⟨d', e1, e2⟩ | ⟨_, e2⟩
    · have hm : i ∈ ios := by
        by_cases hm : i ∈ ios
        · exact hm
        · rw [if_neg hm] at e2; cases e2
      obtain ⟨a, T, d2, h1, h2, h3, h4, h5, h6⟩ := io i hm
      rw [st h2, h2]
    · cases e2
  · refine out i (Nat.le_of_not_lt fun hi => ?_)
    have e0 : ds[i]? = some ds[i] := List.getElem?_eq_getElem (by rw [hd]; exact hi)
    refine q (if i ∈ ios then Own.io else Own.sh) ds[i] ?_
    unfold initS
    rw [List.getElem?_append_left (by simpa [hd] using hi), List.getElem?_mapIdx, e0]; rfl
end
/-- what a body's end gives its caller -/
theorem fv0_of {K : PySem.W.Frag} {ios : List Nat} {vs : List V} {Fa : Nat → List Addr} {H H' : Hp} {s : S} {σ : St} {Fs : Nat → List Addr} {P : Addr → Prop} {outs : List D} (nd : ios.Nodup)
    (fr : Fr (fun b => H b ≠ none ∧ ∀ j, j ∈ ios → vs[j]? ≠ some (.ref b)) H H') (r : SR K P (fun b => (∃ i, b ∈ Fa i) ∨ H b = none) (fun i => match vs[i]? with | some (.ref a) => a | _ => 0) s σ H' Fs) (ho : outsOf s ios = some outs)
    (hio : ∀ j, j ∈ ios → ∃ a, vs[j]? = some (.ref a)) : FV0 K ios vs Fa H H' outs (fun n => match ios[n]? with | some j => Fs j | none => []) := by
  obtain ⟨l, g⟩ := outsOf_get ho
  refine ⟨fun b h1 h2 => fr.p b ⟨h1, h2⟩, l, fun n j e => ?_⟩
  obtain ⟨d, g1, g2⟩ := g n j e
  obtain ⟨a, T, h1, h2, h3, h4, h5, h6⟩ := r.own j _ d g2 (by decide)
  have ev := r.iov j d g2
  obtain ⟨a', ea⟩ := hio j (List.mem_of_getElem? e)
  rw [ea] at ev
  rw [h1] at ev
  cases ev
  refine ⟨_, d, T, ea, g1, by rw [e]; exact h2, h3, h4, fun b m => r.inB j b (by rw [h2]; exact List.mem_cons_of_mem _ m), fun m hm hl => ?_⟩
  rw [List.getElem?_eq_getElem hl]
  refine h6 _ fun q => hm ?_
  have e' : ios[m]? = some j := by rw [List.getElem?_eq_getElem hl, q]
  obtain ⟨hn, en⟩ := List.getElem?_eq_some_iff.mp e
  exact (List.getElem_inj nd).mp ((show ios[m] = ios[n] from q.trans en.symm))
section
variable {P : Program} {w : World} {K : PySem.W.Frag} {mg : Str → Option Value} {base : Heap} {x qual : Str} {params : Arguments} {body : List Stmt} {scope : Scope} {f : Addr} {fd : FuncData}
/-- THE RULE for a def: its body by a function keeps the promise by this function -/
theorem fn_okD {N ps : List Str} {k : Nat} {ios : List Nat} {g : M Fl} (F : FunD K x qual params body scope [] [] f fd) (S : FnScope N ps scope) (nd : ios.Nodup) (hN : ps.length ≤ N.length)
    (hbody : ∀ (cdv : Value) (A : Around) (outer : List Env) (s : Shared) (H : Hp) (E : XK), Room k (A.deeper (PyProof.Rows.envOfC qual scope s.heap.objs.size f cdv)) → PSs (cxOf (L2.CX P w) P w K mg base N qual scope f cdv A outer s H E) body (tS K (fun cls d _ H => E cls d H) g)) :
    FnOk P w K mg base (L2.CX P w) (k + 1) f fd ps (spF K ios ps.length (runF ios ps.length N.length g)) := by
  refine F.ok S (fun vs H Q E h => h.1) fun cdv A outer s H vs Q E hr h => ?_
  obtain ⟨hv, ds, Fa, hd, rep, out, io, h⟩ := h
  refine ⟨_, hbody cdv A outer s H E hr, ?_⟩
  have r := SR.start (N := N) hv hd hN rep out io
  have hio : ∀ j, j ∈ ios → ∃ a, vs[j]? = some (.ref a) := fun j hj => let ⟨a, _, _, _, e, _⟩ := io j hj; ⟨a, e⟩
  refine ⟨_, _, _, _, Fa, r, ?_⟩
  unfold runF at h
  rw [if_pos hd] at h
  cases e : g (initS ios N.length ds) with
  | stuck => rw [e] at h; exact h.elim
  | exc y s' =>
    rw [e] at h
    dsimp only at h
    cases eo : outsOf s' ios with
    | none => rw [eo] at h; exact h.elim
    | some outs =>
      rw [eo] at h
      intro σ' cls dx H' rx
      obtain ⟨Fs', h1, h2, h3⟩ := rx
      exact h cls dx H' _ (fv0_of nd h1 h2 eo hio) h3
  | ok fl s' =>
    rw [e] at h
    cases fl with
    | bk => exact h.elim
    | ct => exact h.elim
    | nx =>
      dsimp only at h
      cases eo : outsOf s' ios with
      | none => rw [eo] at h; exact h.elim
      | some outs =>
        rw [eo] at h
        intro σ' H' Fs' fr r'
        exact h .non H' [] _ ⟨fv0_of nd fr r' eo hio, .non, nofun, fun _ _ _ _ _ => List.not_mem_nil, nofun⟩
    | rt fr d =>
      dsimp only at h
      cases eo : outsOf s' ios with
      | none => rw [eo] at h; exact h.elim
      | some outs =>
        rw [eo] at h
        intro v σ' H' rv
        obtain ⟨G, Fs', h1, h2, h3, h4, h5⟩ := rv
        refine h v H' G _ ⟨fv0_of nd h2 h4 eo hio, h1, h3, fun n j a e1 e2 => ?_, fun hf => ?_⟩
        · obtain ⟨_, g⟩ := outsOf_get eo
          obtain ⟨d', g1, g2⟩ := g n j e1
          obtain ⟨a', T, k1, k2, k3, k4, k5, k6⟩ := h4.own j _ d' g2 (by decide)
          have ev := h4.iov j d' g2
          rw [e2, k1] at ev
          cases ev
          exact fun m => k5 (.inr m)
        · obtain ⟨a, T, k1, k2, k3, k4, k5, k6⟩ := h5 hf
          refine ⟨a, T, k1, k2, k3, k4, ?_, fun n hn => ?_⟩
          · refine Classical.byContradiction fun q => k5 ⟨q, fun j hj e => ?_⟩
            obtain ⟨n, hn⟩ := List.getElem?_of_mem hj
            obtain ⟨_, g⟩ := outsOf_get eo
            obtain ⟨d', g1, g2⟩ := g n j hn
            obtain ⟨a', T', m1, m2, m3, m4, m5, m6⟩ := h4.own j _ d' g2 (by decide)
            have ev := h4.iov j d' g2
            rw [e, m1] at ev
            cases ev
            exact k6 j (by rw [m2]; exact List.mem_cons_self)
          · rw [List.getElem?_eq_getElem hn]
            exact k6 _
end

/-! ### the call -/
def ioSlots : List Opd → List Nat
  | [] => []
  | .ex _ :: os => ioSlots os
  | .sl i :: os => i :: ioSlots os
def ioPos : List Opd → Nat → List Nat
  | [], _ => []
  | .ex _ :: os, n => ioPos os (n + 1)
  | .sl _ :: os, n => n :: ioPos os (n + 1)
def ulB : D → Bool
  | .dcl _ => false
  | _ => true
theorem ulB_ul {d : D} (h : ulB d = true) : d.ul := fun k e => by subst e; cases h
def isMut (s : S) (i : Nat) : Bool := match s[i]? with
  | some (some (o, d)) => decide (o ≠ .sh) && ulB d
  | _ => false
def wb (s : S) : List Nat → List D → Option S
  | [], [] => some s
  | i :: is, d :: ds => (match s[i]? with
    | some (some (o, _)) => wb (s.set i (some (o, d))) is ds
    | _ => none)
  | _, _ => none
def callM (F : FS) (os : List Opd) : M (Bool × D) := opsM os fun ds s => if decide (ioSlots os).Nodup && (ioSlots os).all (isMut s) then (match F ds with
  | .ret fr d outs => (match wb s (ioSlots os) outs with
    | some s' => .ok (fr, d) s'
    | none => .stuck)
  | .exc x outs => (match wb s (ioSlots os) outs with
    | some s' => .exc x s'
    | none => .stuck)
  | .stuck => .stuck) else .stuck
theorem ioPos_get : ∀ {os : List Opd} {c n j : Nat}, (ioPos os c)[n]? = some j → ∃ i k, j = c + k ∧ os[k]? = some (.sl i) ∧ (ioSlots os)[n]? = some i
  | [], c, n, j, h => by simp [ioPos] at h
  | .ex f :: os, c, n, j, h => by
    obtain ⟨i, k, e1, e2, e3⟩ := ioPos_get (os := os) (c := c + 1) h
    exact ⟨i, k + 1, by omega, by simpa using e2, e3⟩
  | .sl i :: os, c, 0, j, h => by
    simp [ioPos] at h
    exact ⟨i, 0, by omega, rfl, rfl⟩
  | .sl i :: os, c, n + 1, j, h => by
    obtain ⟨i', k, e1, e2, e3⟩ := ioPos_get (os := os) (c := c + 1) (n := n) (j := j) (by simpa [ioPos] using h)
    exact ⟨i', k + 1, by omega, by simpa using e2, by simpa [ioSlots] using e3⟩
theorem ioPos_len : ∀ {os : List Opd} {c : Nat}, (ioPos os c).length = (ioSlots os).length
  | [], _ => rfl
  | .ex f :: os, c => ioPos_len (os := os)
  | .sl i :: os, c => by simp [ioPos, ioSlots, ioPos_len (os := os)]
theorem ioPos_of : ∀ {os : List Opd} {c k i : Nat}, os[k]? = some (.sl i) → ∃ n : Nat, (ioPos os c)[n]? = some (c + k) ∧ (ioSlots os)[n]? = some i
  | [], c, k, i, h => by simp at h
  | .ex f :: os, c, 0, i, h => by simp at h
  | .ex f :: os, c, k + 1, i, h => by
    obtain ⟨n, e1, e2⟩ := ioPos_of (os := os) (c := c + 1) (k := k) (by simpa using h)
    exact ⟨n, by rw [ioPos, e1]; congr 1; omega, e2⟩
  | .sl j :: os, c, 0, i, h => by
    simp at h; subst h
    exact ⟨0, rfl, rfl⟩
  | .sl j :: os, c, k + 1, i, h => by
    obtain ⟨n, e1, e2⟩ := ioPos_of (os := os) (c := c + 1) (k := k) (by simpa using h)
    exact ⟨n + 1, by simp [ioPos, e1]; omega, by simpa [ioSlots] using e2⟩
theorem ioPos_nd : ∀ {os : List Opd} {c : Nat}, (ioPos os c).Nodup ∧ ∀ j, j ∈ ioPos os c → c ≤ j
  | [], _ => ⟨List.nodup_nil, fun _ h => by cases h⟩
  | .ex f :: os, c => ⟨(ioPos_nd (os := os)).1, fun j h => Nat.le_of_succ_le ((ioPos_nd (os := os)).2 j h)⟩
  | .sl i :: os, c => by
    obtain ⟨h1, h2⟩ := ioPos_nd (os := os) (c := c + 1)
    refine ⟨List.nodup_cons.mpr ⟨fun m => ?_, h1⟩, fun j h => ?_⟩
    · have := h2 c m; omega
    · rcases List.mem_cons.mp h with rfl | h
      · exact Nat.le_refl _
      · exact Nat.le_of_succ_le (h2 j h)
theorem wb_get : ∀ {is : List Nat} {ds : List D} {s s' : S}, wb s is ds = some s' → is.Nodup → s'.length = s.length ∧ ds.length = is.length ∧
    (∀ (n i : Nat), is[n]? = some i → ∃ o d d', s[i]? = some (some (o, d)) ∧ ds[n]? = some d' ∧ s'[i]? = some (some (o, d'))) ∧ ∀ j, j ∉ is → s'[j]? = s[j]?
  | [], [], s, s', h, _ => by
    cases h
    exact ⟨rfl, rfl, fun n i e => by simp at e, fun _ _ => rfl⟩
  | [], _ :: _, _, _, h, _ => by simp [wb] at h
  | _ :: _, [], _, _, h, _ => by simp [wb] at h
  | i :: is, d :: ds, s, s', h, nd => by
    rw [wb] at h
    split at h
    · rename_i o d0 e
      obtain ⟨n1, n2⟩ := List.nodup_cons.mp nd
      obtain ⟨h1, h2, h3, h4⟩ := wb_get h n2
      refine ⟨by rw [h1]; simp, by simp [h2], fun n j q => ?_, fun j hj => ?_⟩
      · cases n with
        | zero =>
          simp at q; subst q
          exact ⟨o, d0, d, e, rfl, by rw [h4 i n1]; exact get_set_eq e⟩
        | succ n =>
          obtain ⟨o', d1, d2, g1, g2, g3⟩ := h3 n j (by simpa using q)
          have hne : j ≠ i := fun z => n1 (by subst z; exact List.mem_of_getElem? (by simpa using q))
          exact ⟨o', d1, d2, by rw [get_set_ne hne] at g1; exact g1, by simpa using g2, g3⟩
      · have h5 : j ≠ i := fun z => hj (by subst z; exact List.mem_cons_self)
        rw [h4 j fun m => hj (List.mem_cons_of_mem _ m), get_set_ne h5]
    · cases h
/-- the arguments' footprints -/
def argF (Fs : Nat → List Addr) : List Opd → List (List Addr) → Nat → List Addr
  | .ex _ :: _, G :: _, 0 => G
  | .sl i :: _, _ :: _, 0 => Fs i
  | _ :: os, _ :: Gs, j + 1 => argF Fs os Gs j
  | _, _, _ => []
section
variable {K : PySem.W.Frag} {P B : Addr → Prop} {ia : Nat → Addr} {s s' : S} {σ : St} {H H' : Hp} {Fs : Nat → List Addr}
theorem OVs.arg (r : SR K P B ia s σ H Fs) : ∀ {os : List Opd} {ds : List D} {vs : List V} {Gs : List (List Addr)}, OVs K B s σ H os ds vs Gs →
    (∀ (i : Nat) (d : D), ds[i]? = some d → ∃ v, vs[i]? = some v ∧ Rep K H d v (argF Fs os Gs i)) ∧ (∀ i, os.length ≤ i → argF Fs os Gs i = []) ∧
    (∀ (j i : Nat), os[j]? = some (.sl i) → argF Fs os Gs j = Fs i ∧ ∃ (w : Own) (d : D) (v : V), s[i]? = some (some (w, d)) ∧ ds[j]? = some d ∧ vs[j]? = some v ∧ σ[i]? = some (some v)) ∧
    (∀ (j : Nat), (∀ i, os[j]? ≠ some (.sl i)) → NoOwn s σ (argF Fs os Gs j)) ∧ (∀ (j : Nat) (a : Addr), a ∈ argF Fs os Gs j → B a)
  | _, _, _, _, .nil => ⟨fun i d e => by simp at e, fun i _ => by simp [argF], fun j i e => by simp at e, fun j _ => by simp [argF]; exact .nil, fun j a m => by simp [argF] at m⟩
  | o :: os, d :: ds, v :: vs, F :: Gs, .cons h1 h2 h3 h4 => by
    obtain ⟨g1, g2, g3, g4, g5⟩ := OVs.arg r h4
    refine ⟨fun i d' e => ?_, fun i hi => ?_, fun j i e => ?_, fun j e => ?_, fun j a m => ?_⟩
    · cases i with
      | zero =>
        simp at e; subst e
        refine ⟨v, rfl, ?_⟩
        cases o with
        | ex f => exact h1.rep
        | sl i =>
          obtain ⟨w, e1, e2⟩ := h3 i rfl
          obtain ⟨v', k1, k2⟩ := r.rep i w d e1
          rw [e2] at k1; cases k1
          exact k2
      | succ i =>
        obtain ⟨v', k1, k2⟩ := g1 i d' (by simpa using e)
        exact ⟨v', by simpa using k1, by cases o <;> exact k2⟩
    · cases i with
      | zero => simp at hi
      | succ i =>
        have := g2 i (by simpa using hi)
        cases o <;> exact this
    · cases j with
      | zero =>
        simp at e; subst e
        obtain ⟨w, e1, e2⟩ := h3 i rfl
        exact ⟨rfl, w, d, v, e1, rfl, rfl, e2⟩
      | succ j =>
        obtain ⟨k1, k2⟩ := g3 j i (by simpa using e)
        exact ⟨by cases o <;> exact k1, by simpa using k2⟩
    · cases j with
      | zero =>
        cases o with
        | ex f => exact h2 rfl
        | sl i => exact absurd rfl (e i)
      | succ j =>
        have := g4 j fun i z => e i (by simpa using z)
        cases o <;> exact this
    · cases j with
      | zero =>
        cases o with
        | ex f => exact h1.inB a m
        | sl i => exact r.inB i a m
      | succ j => exact g5 j a (by cases o <;> exact m)
theorem isMut_inv {i : Nat} (h : isMut s i = true) : ∃ o d, s[i]? = some (some (o, d)) ∧ o ≠ Own.sh ∧ d.ul := by
  unfold isMut at h
  split at h
  · rename_i o d e
    obtain ⟨h1, h2⟩ := Bool.and_eq_true_iff.mp h
    exact ⟨o, d, e, of_decide_eq_true h1, ulB_ul h2⟩
  · cases h
open Classical in
/-- behind the call -/
theorem SR.call {os : List Opd} {ds : List D} {vs : List V} {Gs : List (List Addr)} {outs : List D} {Go : Nat → List Addr} (r : SR K P B ia s σ H Fs) (ov : OVs K B s σ H os ds vs Gs) (nd : (ioSlots os).Nodup) (mu : ∀ i, i ∈ ioSlots os → isMut s i = true)
    (fv : FV0 K (ioPos os 0) vs (argF Fs os Gs) H H' outs Go) (w : wb s (ioSlots os) outs = some s') :
    ∃ Fs', SR K P B ia s' σ H' Fs' ∧ Fr P H H' ∧ (∀ j, j ∉ ioSlots os → Fs' j = Fs j) ∧ ∀ n i, (ioSlots os)[n]? = some i → Fs' i = Go n := by
  obtain ⟨w1, w2, w3, w4⟩ := wb_get w nd
  obtain ⟨a1, a2, a3, a4, a5⟩ := ov.arg r
  have uq : ∀ {n m i : Nat}, (ioSlots os)[n]? = some i → (ioSlots os)[m]? = some i → n = m := fun {n m i} h h' => nd_ix nd h h'
  -- what an io slot holds
  have io : ∀ {n i : Nat}, (ioSlots os)[n]? = some i → ∃ j a d o, (ioPos os 0)[n]? = some j ∧ vs[j]? = some (.ref a) ∧ σ[i]? = some (some (.ref a)) ∧ s[i]? = some (some (o, d)) ∧ o ≠ Own.sh ∧ os[j]? = some (.sl i) ∧ d.ul := by
    intro n i h
    have hl : n < (ioPos os 0).length := by rw [ioPos_len]; exact (List.getElem?_eq_some_iff.mp h).1
    have e0 : (ioPos os 0)[n]? = some (ioPos os 0)[n] := List.getElem?_eq_getElem hl
    obtain ⟨i', k, e1, e2, e3⟩ := ioPos_get e0
    rw [h] at e3; cases e3
    rw [Nat.zero_add] at e1
    obtain ⟨_, w', d, v, b1, b2, b3, b4⟩ := a3 k i e2
    obtain ⟨o, d', c1, c2, c3⟩ := isMut_inv (mu i (List.mem_of_getElem? h))
    obtain ⟨a, F, q1, _⟩ := r.own i o d' c1 c2
    rw [b4] at q1; cases q1
    exact ⟨k, a, d', o, by rw [e0, e1], b3, b4, c1, c2, e2, c3⟩
  -- the io objects' addresses
  have isTop : ∀ {b : Addr}, (∀ (n i : Nat), (ioSlots os)[n]? = some i → σ[i]? ≠ some (some (V.ref b))) → ∀ (j : Nat), j ∈ ioPos os 0 → vs[j]? ≠ some (.ref b) := by
    intro b hb j hj e
    obtain ⟨n, hn⟩ := List.getElem?_of_mem hj
    have hl : n < (ioSlots os).length := by rw [← ioPos_len (c := 0)]; exact (List.getElem?_eq_some_iff.mp hn).1
    have e1 : (ioSlots os)[n]? = some (ioSlots os)[n] := List.getElem?_eq_getElem hl
    obtain ⟨j', a, d, o, q1, q2, q3, q4, q5, _⟩ := io e1
    rw [hn] at q1; cases q1
    rw [e] at q2; cases q2
    exact hb n _ e1 q3
  have keepF : ∀ j, j ∉ ioSlots os → ∀ b, b ∈ Fs j → H' b = H b := by
    intro j hj b m
    refine fv.keep b (r.trF m) (isTop fun n i h e => ?_)
    obtain ⟨j', a, d, o, q1, q2, q3, q4, q5, _⟩ := io h
    rw [e] at q3; cases q3
    obtain ⟨a', F, g1, g2, g3, g4, g5, g6⟩ := r.own i o d q4 q5
    rw [e] at g1; cases g1
    exact g6 j (fun z => hj (by rw [z]; exact List.mem_of_getElem? h)) m
  have fr : Fr P H H' := by
    refine ⟨fun b hb => fv.keep b (r.tr b hb) (isTop fun n i h e => ?_), fun b o hb hi => ?_⟩
    · obtain ⟨j', a, d, o, q1, q2, q3, q4, q5, _⟩ := io h
      rw [e] at q3; cases q3
      exact r.noOwn (F := [b]) (fun a m => by rw [List.mem_singleton.mp m]; exact hb) i o d b q4 q5 e List.mem_cons_self
    · rw [fv.keep b (by rw [hb]; simp) (isTop fun n i h e => ?_)]
      · exact hb
      · obtain ⟨j', a, d, o', q1, q2, q3, q4, q5, _, q7⟩ := io h
        obtain ⟨a', F, g1, g2, g3, _⟩ := r.own i o' d q4 q5
        rw [e] at g1; cases g1
        obtain ⟨ob, m1, m2⟩ := g3.mut q7
        rw [hb] at m1; cases m1
        exact m2 hi
  let Fs' : Nat → List Addr := fun i => if h : ∃ n : Nat, (ioSlots os)[n]? = some i then Go h.choose else Fs i
  have F1 : ∀ {n i : Nat}, (ioSlots os)[n]? = some i → Fs' i = Go n := by
    intro n i h
    have hx : ∃ n : Nat, (ioSlots os)[n]? = some i := ⟨n, h⟩
    show (if h : ∃ n : Nat, (ioSlots os)[n]? = some i then Go h.choose else Fs i) = Go n
    rw [dif_pos hx, uq hx.choose_spec h]
  have F2 : ∀ {j : Nat}, j ∉ ioSlots os → Fs' j = Fs j := by
    intro j h
    show (if h : ∃ n : Nat, (ioSlots os)[n]? = some j then Go h.choose else Fs j) = Fs j
    rw [dif_neg fun ⟨n, q⟩ => h (List.mem_of_getElem? q)]
  -- an io slot behind the call
  have ioN : ∀ {n i : Nat}, (ioSlots os)[n]? = some i → ∃ o d d' a T, s[i]? = some (some (o, d)) ∧ o ≠ Own.sh ∧ s'[i]? = some (some (o, d')) ∧ σ[i]? = some (some (.ref a)) ∧ Go n = a :: T ∧ RepM K H' d' a T ∧ a ∉ T ∧
      (∀ b, b ∈ T → (∃ i, b ∈ argF Fs os Gs i) ∨ H b = none) ∧ ∀ m, m ≠ n → m < (ioSlots os).length → a ∉ Go m := by
    intro n i h
    obtain ⟨j, a, d, o, q1, q2, q3, q4, q5, _⟩ := io h
    obtain ⟨o', d1, d2, g1, g2, g3⟩ := w3 n i h
    rw [q4] at g1; cases g1
    obtain ⟨a', d', T, k1, k2, k3, k4, k5, k6, k7⟩ := fv.out n j q1
    rw [q2] at k1; cases k1
    rw [g2] at k2; cases k2
    exact ⟨o, d, d2, a, T, q4, q5, g3, q3, k3, k4, k5, k6, fun m h1 h2 => k7 m h1 (by rw [ioPos_len]; exact h2)⟩
  -- a slot of one's own that isn't io has its object in nothing that came
  have sep : ∀ {j : Nat} {o : Own} {d : D} {a : Addr}, j ∉ ioSlots os → s[j]? = some (some (o, d)) → o ≠ Own.sh → σ[j]? = some (some (.ref a)) → ∀ b, ((∃ i, b ∈ argF Fs os Gs i) ∨ H b = none) → a ≠ b := by
    intro j o d a hj e n ha b hb eq
    subst eq
    rcases hb with ⟨k, hk⟩ | hb
    · by_cases hs : ∃ i, os[k]? = some (.sl i)
      · obtain ⟨i, hs⟩ := hs
        rw [(a3 k i hs).1] at hk
        obtain ⟨a', F, g1, g2, g3, g4, g5, g6⟩ := r.own j o d e n
        rw [ha] at g1; cases g1
        obtain ⟨nn, _, hn⟩ := ioPos_of (c := 0) hs
        exact g6 i (fun z => hj (by rw [← z]; exact List.mem_of_getElem? hn)) hk
      · exact a4 k (fun i z => hs ⟨i, z⟩) j o d a e n ha hk
    · exact r.ownTr e n ha hb
  have nbk : ∀ b, H' b = none → H b = none := by
    intro b hb
    refine Classical.byContradiction fun hn => ?_
    by_cases ht : ∃ (n i : Nat), (ioSlots os)[n]? = some i ∧ σ[i]? = some (some (V.ref b))
    · obtain ⟨n, i, h1, h2⟩ := ht
      obtain ⟨o, d, d', a, T, q1, q2, q3, q4, q5, q6, _⟩ := ioN h1
      rw [h2] at q4; cases q4
      exact q6.here hb
    · rw [fv.keep b hn (isTop fun n i h e => ht ⟨n, i, h, e⟩)] at hb
      exact hn hb
  refine ⟨Fs', ⟨by rw [w1]; exact r.len, fun j o d e => ?_, fun j o d e n => ?_, fun j d e => ?_, fun j q => ?_, fun j a m => ?_, fun b q => by rw [fr.p b q]; exact r.tr b q, fun b q => r.nb b (nbk b q)⟩, fr, fun j h => F2 h, fun n i h => F1 h⟩
  · by_cases hj : j ∈ ioSlots os
    · obtain ⟨n, hn⟩ := List.getElem?_of_mem hj
      obtain ⟨o', d1, d', a, T, q1, q2, q3, q4, q5, q6, _⟩ := ioN hn
      rw [e] at q3; cases q3
      exact ⟨.ref a, q4, by rw [F1 hn, q5]; exact q6.rep⟩
    · rw [w4 j hj] at e
      obtain ⟨v, g1, g2⟩ := r.rep j o d e
      exact ⟨v, g1, by rw [F2 hj]; exact g2.keep fr.i fun b m => keepF j hj b m⟩
  · by_cases hj : j ∈ ioSlots os
    · obtain ⟨m, hm⟩ := List.getElem?_of_mem hj
      obtain ⟨o', d1, d', a, T, q1, q2, q3, q4, q5, q6, q7, q8, q9⟩ := ioN hm
      rw [e] at q3; cases q3
      obtain ⟨a', F, g1, g2, g3, g4, g5, g6⟩ := r.own j _ d1 q1 q2
      rw [q4] at g1; cases g1
      refine ⟨a, T, q4, by rw [F1 hm]; exact q5, q6, q7, g5, fun k hk => ?_⟩
      by_cases hk2 : k ∈ ioSlots os
      · obtain ⟨m2, hm2⟩ := List.getElem?_of_mem hk2
        rw [F1 hm2]
        exact q9 m2 (fun z => hk (by rw [z, hm] at hm2; exact (Option.some.inj hm2).symm)) (List.getElem?_eq_some_iff.mp hm2).1
      · rw [F2 hk2]; exact g6 k hk
    · rw [w4 j hj] at e
      obtain ⟨a, F, g1, g2, g3, g4, g5, g6⟩ := r.own j o d e n
      refine ⟨a, F, g1, by rw [F2 hj]; exact g2, g3.keep fr.i fun b m => keepF j hj b (by rw [g2]; exact m), g4, g5, fun k hk => ?_⟩
      by_cases hk2 : k ∈ ioSlots os
      · obtain ⟨m2, hm2⟩ := List.getElem?_of_mem hk2
        obtain ⟨o', d1, d', a', T, q1, q2, q3, q4, q5, q6, q7, q8, q9⟩ := ioN hm2
        rw [F1 hm2, q5]
        intro m
        rcases List.mem_cons.mp m with rfl | m
        · obtain ⟨b, F', k1, k2, _⟩ := r.own k o' d1 q1 q2
          rw [q4] at k1; cases k1
          exact g6 k hk (by rw [k2]; exact List.mem_cons_self)
        · exact sep hj e n g1 a (q8 a m) rfl
      · rw [F2 hk2]; exact g6 k hk
  · by_cases hj : j ∈ ioSlots os
    · obtain ⟨m, hm⟩ := List.getElem?_of_mem hj
      obtain ⟨o', d1, d', a, T, q1, q2, q3, q4, _⟩ := ioN hm
      rw [e] at q3; cases q3
      exact r.iov j d1 q1
    · rw [w4 j hj] at e; exact r.iov j d e
  · have hj : j ∉ ioSlots os := fun hj => by
      obtain ⟨m, hm⟩ := List.getElem?_of_mem hj
      obtain ⟨o', d1, d', a, T, q1, q2, q3, _⟩ := ioN hm
      exact q _ _ q3
    rw [F2 hj]
    exact r.dead j fun o d z => q o d (by rw [w4 j hj]; exact z)
  · by_cases hj : j ∈ ioSlots os
    · obtain ⟨n, hn⟩ := List.getElem?_of_mem hj
      obtain ⟨o', d1, d', a', T, q1, q2, q3, q4, q5, q6, q7, q8, q9⟩ := ioN hn
      rw [F1 hn, q5] at m
      rcases List.mem_cons.mp m with rfl | m
      · obtain ⟨b, F', k1, k2, _⟩ := r.own j o' d1 q1 q2
        rw [q4] at k1; cases k1
        exact r.inB j a (by rw [k2]; exact List.mem_cons_self)
      · rcases q8 a m with ⟨i, mi⟩ | hn
        · exact a5 i a mi
        · exact r.nb a hn
    · rw [F2 hj] at m; exact r.inB j a m
end
end PV

/-! PV: calls of defs and of built-ins, what changes a list or a dict. -/
namespace PV
open PySem PySem.Spec L2

section
variable {X : Cx} {E : WX} {f : Addr} {fd : FuncData} {ps : List Str} {x : Str} {p pos : Pos} {e : Expr} {es : List Expr} {F : FS} {os : List Opd} {k : Nat}
theorem tD_call {K : PySem.W.Frag} {n : Nat} (hn : os.length = n) (σ : St) (H : Hp) (Q : VK) (h : tD K E (callM F os) σ H Q) : tCallS (spF K (ioPos os 0) n F) (WE E) (rdOs K E os) σ H Q := by
  obtain ⟨P, B, ia, s, Fs, r, w⟩ := h
  refine rdOps r w (fun _ _ q => q) fun ds s1 vs H1 Gs Fs1 q ov fr r1 => ?_
  cases hc : decide (ioSlots os).Nodup && (ioSlots os).all (isMut s1) with
  | false => rw [hc] at q; exact q.elim
  | true =>
    rw [hc] at q
    obtain ⟨hnd, hmu⟩ := Bool.and_eq_true_iff.mp hc
    have nd := of_decide_eq_true hnd
    have mu : ∀ i, i ∈ ioSlots os → isMut s1 i = true := List.all_eq_true.mp hmu
    obtain ⟨a1, a2, a3, a4, a5⟩ := ov.arg r1
    obtain ⟨l1, l2⟩ := ov.length
    rw [if_pos rfl] at q
    refine ⟨by rw [← l1, l2, hn], ds, argF Fs1 os Gs, by rw [l2, hn], a1, fun i hi => a2 i (by rw [hn]; exact hi), fun j hj => ?_, ?_⟩
    · obtain ⟨m, hm⟩ := List.getElem?_of_mem hj
      obtain ⟨i, kk, e1, e2, e3⟩ := ioPos_get hm
      rw [Nat.zero_add] at e1; subst e1
      obtain ⟨b1, w', d, v, b2, b3, b4, b5⟩ := a3 _ i e2
      obtain ⟨o, d', c1, c2, _⟩ := isMut_inv (mu i (List.mem_of_getElem? e3))
      rw [b2] at c1; cases c1
      obtain ⟨a, T, g1, g2, g3, g4, g5, g6⟩ := r1.own i _ d b2 c2
      rw [b5] at g1; cases g1
      refine ⟨a, T, d, b3, b4, by rw [b1, g2], g3, g4, fun m' hm' => ?_⟩
      by_cases hs : ∃ i', os[m']? = some (.sl i')
      · obtain ⟨i', hs⟩ := hs
        rw [(a3 m' i' hs).1]
        refine g6 i' fun z => hm' ?_
        subst z
        obtain ⟨n1, f1, f2⟩ := ioPos_of (c := 0) hs
        obtain ⟨n2, f3, f4⟩ := ioPos_of (c := 0) e2
        have : n1 = n2 := nd_ix nd f2 f4
        subst this
        rw [f1] at f3
        have := Option.some.inj f3
        omega
      · exact a4 m' (fun i z => hs ⟨i, z⟩) i _ d a b2 c2 b5
    · cases hF : F ds with
      | stuck => rw [hF] at q; exact q
      | exc y outs =>
        rw [hF] at q
        dsimp only at q
        split at q
        · rename_i s2 ew
          intro cls dx H2 Go fv xr
          obtain ⟨Fs2, r2, fr2, _⟩ := SR.call r1 ov nd mu fv ew
          exact q cls dx H2 ⟨Fs2, fr.trans fr2, r2, xr⟩
        · exact q.elim
      | ret f d outs =>
        rw [hF] at q
        dsimp only at q
        split at q
        · rename_i s2 ew
          intro v H2 G Go fv
          obtain ⟨Fs2, r2, fr2, F2, F1⟩ := SR.call r1 ov nd mu fv.toFV0 ew
          obtain ⟨w1, w2, w3, w4⟩ := wb_get ew nd
          have gB : ∀ a, a ∈ G → B a := fun a m => (fv.gin a m).elim (fun ⟨i, h⟩ => a5 i a h) fun h => r1.nb a h
          have no : NoOwn s2 σ G := by
            intro j o d' a ej n ea m
            by_cases hj : j ∈ ioSlots os
            · obtain ⟨m', hm'⟩ := List.getElem?_of_mem hj
              have hl : m' < (ioPos os 0).length := by rw [ioPos_len]; exact (List.getElem?_eq_some_iff.mp hm').1
              have e0 : (ioPos os 0)[m']? = some (ioPos os 0)[m'] := List.getElem?_eq_getElem hl
              obtain ⟨i', kk, e1, e2, e3⟩ := ioPos_get e0
              rw [hm'] at e3; cases e3
              rw [Nat.zero_add] at e1
              obtain ⟨_, w', d2, v2, b2, b3, b4, b5⟩ := a3 kk j e2
              rw [ea] at b5; cases b5
              exact fv.gio m' kk a (by rw [e0, e1]) b4 m
            · rw [w4 j hj] at ej
              rcases fv.gin a m with ⟨i, hi⟩ | hn
              · by_cases hs : ∃ i', os[i]? = some (.sl i')
                · obtain ⟨i', hs⟩ := hs
                  rw [(a3 i i' hs).1] at hi
                  obtain ⟨a', T, g1, g2, g3, g4, g5, g6⟩ := r1.own j o d' ej n
                  rw [ea] at g1; cases g1
                  obtain ⟨n1, f1, f2⟩ := ioPos_of (c := 0) hs
                  exact g6 i' (fun z => hj (by rw [← z]; exact List.mem_of_getElem? f2)) hi
                · exact a4 i (fun i' z => hs ⟨i', z⟩) j o d' a ej n ea hi
              · exact r1.ownTr ej n ea hn
          refine q v H2 ⟨G, Fs2, fv.rep, fr.trans fr2, gB, r2.prot fv.rep.tr no, fun hf => ?_⟩
          obtain ⟨a, T, k1, k2, k3, k4, k5, k6⟩ := fv.own hf
          refine ⟨a, T, k1, k2, k3, k4, fun q => r1.tr a q k5, fun j m => ?_⟩
          by_cases hj : j ∈ ioSlots os
          · obtain ⟨m', hm'⟩ := List.getElem?_of_mem hj
            rw [F1 m' j hm'] at m
            exact k6 m' (by rw [ioPos_len]; exact (List.getElem?_eq_some_iff.mp hm').1) m
          · rw [F2 j hj] at m
            exact r1.trF m k5
        · exact q.elim
/-- f(..) of a def -/
theorem de_call {ios : List Nat} (G : FnOk X.prog X.w X.K X.mg X.base (L2.CX X.prog X.w) k f fd ps (spF X.K ios ps.length F)) (hr : Room k X.A) (hg : Gl X x) (hm : X.mg x = some (.ref f)) (hk : PySem.W.keepIn X.K (.ref f) = true) (hb : Binds X.K fd ps []) (tk : Takes X E)
    (ha : PAd X E (e :: es) os) (hio : ioPos os 0 = ios := by rfl) (hn : os.length = ps.length := by rfl) (hdb : (x == ("__debug__" : Str)) = false := by decide) (he : starEach (e :: es) X.env = (false, eval e X.env) :: starEach es X.env := by rfl) (hpl : (backTo pos (starEach es X.env)).any (·.1) = false := by rfl) :
    PE X (.Call (.Name x p) (e :: es) [] pos) (tD X.K E (callM F os)) := by
  subst hio
  exact (pe_callS G hr hg hm hk hb (passAt tk) ha hdb he hpl).imp (tD_call hn)
end

/-! ### built-ins of one value -/
def OpD1 (K : PySem.W.Frag) (g : D → Option (Bool × D)) (r : V → Hp → VK → Prop) : Prop :=
  ∀ {P B : Addr → Prop} {ia : Nat → Addr} {s : S} {σ : St} {H H0 : Hp} {Fs : Nat → List Addr} {dx : D} {q : Bool × D} {x : V} {F : List Addr} {Q : VK}, SR K P B ia s σ H Fs → OV K B s σ H dx x F → Fr P H0 H → g dx = some q →
    (∀ v H', RV K P B ia s σ H0 H' q.1 q.2 v → Q v H') → r x H Q
def unM (g : D → Option (Bool × D)) (a : Opd) : M (Bool × D) := op1 a fun x s => match g x with
  | some r => .ok r s
  | none => .stuck
theorem tD_un {K : PySem.W.Frag} {E : WX} {g : D → Option (Bool × D)} {r : V → Hp → VK → Prop} (hd : OpD1 K g r) {a : Opd} (σ : St) (H : Hp) (Q : VK) (h : tD K E (unM g a) σ H Q) : rdO K E a σ H fun x H1 => r x H1 Q := by
  obtain ⟨P, B, ia, s, Fs, R, h⟩ := h
  refine rd1 R ((op1_post h).mono (fun _ _ q => q) fun d s' w x H' F Fs' ov fr R' => ?_)
  cases e : g d with
  | none => rw [e] at w; exact (show False from w).elim
  | some z =>
    rw [e] at w
    exact hd R' ov fr e w
section
variable {X : Cx} {E : WX} {x : Str} {p pos : Pos} {e e2 : Expr} {o o2 : Opd}
theorem CallR.or {f : Value} {r r' : List V → Hp → VK → Prop} (h : CallR X f r) (h' : CallR X f r') : CallR X f (fun xs H Q => r xs H Q ∨ r' xs H Q) := fun pins s σ H xs us Q I rs q => q.elim (h pins s σ H xs us Q I rs) (h' pins s σ H xs us Q I rs)
theorem de_b1 {id : String} {r : List V → Hp → VK → Prop} {g : D → Option (Bool × D)} (hc : CallR X (.builtin id) r) (hd : OpD1 X.K g fun x H Q => r [x] H Q) (hg : Gl X x) (hm : X.mg x = none) (hv : bootBuiltins x = some (.builtin id)) (ha : PE X e (rdO X.K E o)) (hn : x ≠ "__name__" := by decide)
    (hs : starEach [e] X.env = [(false, eval e X.env)] := by rfl) (hdb : (x == ("__debug__" : Str)) = false := by decide) (hpl : (backTo pos (starEach [] X.env)).any (·.1) = false := by rfl) : PE X (.Call (.Name x p) [e] [] pos) (tD X.K E (unM g o)) :=
  (pe_callB hc hg hm hv (pa_cons ha pa_nil hs) hn hdb hs hpl).imp (tD_un hd)
theorem de_t1 {T : String} {r : List V → Hp → VK → Prop} {g : D → Option (Bool × D)} (hc : CallR X (.type T) r) (hd : OpD1 X.K g fun x H Q => r [x] H Q) (hg : Gl X x) (hm : X.mg x = none) (hv : bootBuiltins x = some (.type T)) (ha : PE X e (rdO X.K E o)) (hn : x ≠ "__name__" := by decide)
    (hs : starEach [e] X.env = [(false, eval e X.env)] := by rfl) (hdb : (x == ("__debug__" : Str)) = false := by decide) (hpl : (backTo pos (starEach [] X.env)).any (·.1) = false := by rfl) : PE X (.Call (.Name x p) [e] [] pos) (tD X.K E (unM g o)) :=
  (pe_callTy hc hg hm hv (pa_cons ha pa_nil hs) hn hdb hs hpl).imp (tD_un hd)
theorem de_b2 {id : String} {r : List V → Hp → VK → Prop} {g : D → D → Option (Bool × D)} (hc : CallR X (.builtin id) r) (hd : OpD X.K g fun x y H Q => r [x, y] H Q) (hg : Gl X x) (hm : X.mg x = none) (hv : bootBuiltins x = some (.builtin id)) (ha : PE X e (rdO X.K E o)) (hb : PE X e2 (rdO X.K E o2))
    (hn : x ≠ "__name__" := by decide) (hs : starEach [e, e2] X.env = [(false, eval e X.env), (false, eval e2 X.env)] := by rfl) (hs2 : starEach [e2] X.env = [(false, eval e2 X.env)] := by rfl) (hdb : (x == ("__debug__" : Str)) = false := by decide) (hpl : (backTo pos (starEach [e2] X.env)).any (·.1) = false := by rfl) :
    PE X (.Call (.Name x p) [e, e2] [] pos) (tD X.K E (binM g o o2)) :=
  (pe_callB hc hg hm hv (pa_cons ha (pa_cons hb pa_nil hs2) (by rw [hs, hs2])) hn hdb (by rw [hs, hs2]) hpl).imp (tD_op hd)
end
section
variable {K : PySem.W.Frag}
/-- len -/
def lenD : D → Option (Bool × D)
  | .str x => if x.length ≤ sizeLine then some (false, .int x.length) else none
  | .lst ds => some (false, .int ds.length)
  | .tup ds => some (false, .int ds.length)
  | .fro ds => some (false, .int ds.length)
  | .dct kds => some (false, .int kds.length)
  | _ => none
def rLenD (K : PySem.W.Frag) : List V → Hp → VK → Prop := fun xs H Q => (∃ x n, xs = [x] ∧ LenV K x H n ∧ Q (.int n) H) ∨ ∃ a kvs, xs = [V.ref a] ∧ H a = some (.dK kvs) ∧ Q (.int kvs.length) H
theorem or_len {X : Cx} : CallR X (.builtin "len") (rLenD X.K) := CallR.or call_len call_lenD
theorem opd_len : OpD1 K lenD fun x H Q => rLenD K [x] H Q := by
  intro P B ia s σ H H0 Fs dx q x F Q R o fr e k
  unfold lenD at e
  split at e
  · split at e
    · rename_i hz
      cases e; exact .inl ⟨x, _, rfl, by rw [o.str_inv]; exact ⟨hz, rfl⟩, k _ _ (.flat .int fr R)⟩
    · cases e
  · cases e
    obtain ⟨a, vs, G, rfl, h1, h2, no, ib⟩ := o.lst_inv
    exact .inl ⟨_, _, rfl, .inl ⟨vs, SqL.of h1, h2.length⟩, k _ _ (.flat .int fr R)⟩
  · cases e
    obtain ⟨a, vs, rfl, h1, h2, no⟩ := o.tup_inv
    exact .inl ⟨_, _, rfl, .inr ⟨vs, h1, h2.length⟩, k _ _ (.flat .int fr R)⟩
  · cases e
    obtain ⟨a, vs, rfl, h1, h2, no⟩ := o.fro_inv
    exact .inl ⟨_, _, rfl, .inl ⟨vs, fz_sq h1, h2.length⟩, k _ _ (.flat .int fr R)⟩
  · cases e
    obtain ⟨a, vs, G, rfl, h1, h2, no, ib⟩ := o.dct_inv
    exact .inr ⟨_, _, rfl, h1, by rw [← h2.length]; exact k _ _ (.flat .int fr R)⟩
  · cases e
/-- int, abs, str -/
def toInt : D → Option (Bool × D)
  | .int i => some (false, .int i)
  | .bl b => some (false, .int (if b then 1 else 0))
  | _ => none
theorem opd_toInt : OpD1 K toInt fun x H Q => (∃ i, [x] = [V.int i] ∧ Q (.int i) H) ∨ ∃ k, [x] = [V.bl k] ∧ Q (.int (if k then 1 else 0)) H := by
  intro P B ia s σ H H0 Fs dx q x F Q R o fr e k
  unfold toInt at e
  split at e
  · cases e; exact .inl ⟨_, by rw [o.int_inv], k _ _ (.flat .int fr R)⟩
  · cases e; exact .inr ⟨_, by rw [o.bl_inv], k _ _ (.flat .int fr R)⟩
  · cases e
def absD : D → Option (Bool × D)
  | .int i => some (false, .int (if i < 0 then -i else i))
  | _ => none
theorem opd_abs : OpD1 K absD fun x H Q => ∃ i, [x] = [V.int i] ∧ Q (.int (if i < 0 then -i else i)) H := by
  intro P B ia s σ H H0 Fs dx q x F Q R o fr e k
  unfold absD at e
  split at e
  · cases e; exact ⟨_, by rw [o.int_inv], k _ _ (.flat .int fr R)⟩
  · cases e
def toStr : D → Option (Bool × D)
  | .int i => if i.natAbs.log2 < 1920 then some (false, .str (toString i)) else none
  | .str x => some (false, .str x)
  | _ => none
def rStrD : List V → Hp → VK → Prop := fun xs H Q => (∃ i, xs = [V.int i] ∧ i.natAbs.log2 < 1920 ∧ Q (.str (toString i)) H) ∨ ∃ a, xs = [V.str a] ∧ Q (.str a) H
theorem or_str {X : Cx} : CallR X (.type "str") rStrD := CallR.or call_str_int SkE.call_str_str
theorem opd_toStr : OpD1 K toStr fun x H Q => rStrD [x] H Q := by
  intro P B ia s σ H H0 Fs dx q x F Q R o fr e k
  unfold toStr at e
  split at e
  · split at e
    · rename_i hz
      cases e; exact .inl ⟨_, by rw [o.int_inv], hz, k _ _ (.flat .str fr R)⟩
    · cases e
  · cases e; exact .inr ⟨_, by rw [o.str_inv], k _ _ (.flat .str fr R)⟩
  · cases e
/-- tuple(xs), list(xs) -/
def toTup : D → Option (Bool × D)
  | .lst ds => some (false, .tup ds)
  | .tup ds => some (false, .tup ds)
  | .fro ds => some (false, .tup ds)
  | _ => none
theorem opd_toTup : OpD1 K toTup fun x H Q => ∃ p ys, [x] = [V.ref p] ∧ ((SqL K H p ys ∧ ∀ l, H l = none → Q (.ref l) (upd H l (.tup ys))) ∨ (SqT K H p ys ∧ Q (.ref p) H)) := by
  intro P B ia s σ H H0 Fs dx q x F Q R o fr e k
  unfold toTup at e
  split at e
  · cases e
    obtain ⟨a, vs, G, rfl, h1, h2, no, ib⟩ := o.lst_inv
    exact ⟨a, vs, rfl, .inl ⟨SqL.of h1, fun l hl => k _ _ (.tup h2 no ib fr R hl)⟩⟩
  · cases e
    obtain ⟨a, vs, rfl, h1, h2, no⟩ := o.tup_inv
    exact ⟨a, vs, rfl, .inr ⟨h1, k _ _ (.part (.tup h1 h2) no o.inB fr R)⟩⟩
  · cases e
    obtain ⟨a, vs, rfl, h1, h2, no⟩ := o.fro_inv
    exact ⟨a, vs, rfl, .inl ⟨fz_sq h1, fun l hl => k _ _ (.tup h2 no o.inB fr R hl)⟩⟩
  · cases e
def toLst : D → Option (Bool × D)
  | .lst ds => some (true, .lst ds)
  | .tup ds => some (true, .lst ds)
  | .fro ds => some (true, .lst ds)
  | _ => none
theorem opd_toLst : OpD1 K toLst fun x H Q => ∃ p ys, [x] = [V.ref p] ∧ (SqL K H p ys ∨ SqT K H p ys) ∧ ∀ l, H l = none → Q (.ref l) (upd H l (.lst ys)) := by
  intro P B ia s σ H H0 Fs dx q x F Q R o fr e k
  unfold toLst at e
  split at e
  · cases e
    obtain ⟨a, vs, G, rfl, h1, h2, no, ib⟩ := o.lst_inv
    exact ⟨a, vs, rfl, .inl (SqL.of h1), fun l hl => k _ _ (.lst h2 no ib fr R hl)⟩
  · cases e
    obtain ⟨a, vs, rfl, h1, h2, no⟩ := o.tup_inv
    exact ⟨a, vs, rfl, .inr h1, fun l hl => k _ _ (.lst h2 no o.inB fr R hl)⟩
  · cases e
    obtain ⟨a, vs, rfl, h1, h2, no⟩ := o.fro_inv
    exact ⟨a, vs, rfl, .inl (fz_sq h1), fun l hl => k _ _ (.lst h2 no o.inB fr R hl)⟩
  · cases e
/-- all, any of a list of truth values -/
def bls : List D → Option (List Bool)
  | [] => some []
  | .bl b :: ds => (bls ds).map fun bs => b :: bs
  | _ => none
theorem Reps.bls {H : Hp} : ∀ {ds : List D} {vs : List V} {F : List Addr} {bs : List Bool}, Reps K H ds vs F → PV.bls ds = some bs → vs = bs.map V.bl
  | [], _, _, _, h, e => by cases h; cases e; rfl
  | d :: ds, _, _, _, h, e => by
    cases h with
    | cons h1 h2 =>
      cases h1 with
      | bl =>
        rw [PV.bls] at e
        obtain ⟨bs', e1, e2⟩ := Option.map_eq_some_iff.mp e
        subst e2
        rw [h2.bls e1]; rfl
      | _ => cases e
def allD : D → Option (Bool × D)
  | .lst ds => (bls ds).map fun bs => (false, .bl (bs.all id))
  | _ => none
def anyD : D → Option (Bool × D)
  | .lst ds => (bls ds).map fun bs => (false, .bl (bs.any id))
  | _ => none
theorem opd_all : OpD1 K allD fun x H Q => rAll K [x] H Q := by
  intro P B ia s σ H H0 Fs dx q x F Q R o fr e k
  unfold allD at e
  split at e
  · obtain ⟨bs, e1, e2⟩ := Option.map_eq_some_iff.mp e
    cases e2
    obtain ⟨a, vs, G, rfl, h1, h2, no, ib⟩ := o.lst_inv
    exact ⟨a, bs, rfl, by rw [← h2.bls e1]; exact SqL.of h1, k _ _ (.flat .bl fr R)⟩
  · cases e
theorem opd_any : OpD1 K anyD fun x H Q => rAny K [x] H Q := by
  intro P B ia s σ H H0 Fs dx q x F Q R o fr e k
  unfold anyD at e
  split at e
  · obtain ⟨bs, e1, e2⟩ := Option.map_eq_some_iff.mp e
    cases e2
    obtain ⟨a, vs, G, rfl, h1, h2, no, ib⟩ := o.lst_inv
    exact ⟨a, bs, rfl, by rw [← h2.bls e1]; exact SqL.of h1, k _ _ (.flat .bl fr R)⟩
  · cases e
/-- isinstance -/
def tyName : D → String
  | .non => "NoneType"
  | .bl _ => "bool"
  | .int _ => "int"
  | .str _ => "str"
  | .tup _ => "tuple"
  | .lst _ => "list"
  | .fro _ => "list"
  | .dct _ => "dict"
  | .dcl _ => "dict"
  | .ty _ => "type"
def isiD : D → D → Option (Bool × D)
  | .ty _, _ => none
  | .dcl _, _ => none
  | d, .ty n => (kitB (tyName d) n).map fun b => (false, .bl b)
  | _, _ => none
theorem opd_isi : OpD K isiD fun x y H Q => rIsi K [x, y] H Q := by
  intro P B ia s σ H H0 Fs dx dy q x y F G Q R o1 o2 fr e k
  unfold isiD at e
  split at e
  · cases e
  · cases e
  · rename_i n hn hn2
    obtain ⟨b, e1, e2⟩ := Option.map_eq_some_iff.mp e
    cases e2
    have ey : y = .ty n := by have := o2.rep; cases this; rfl
    subst ey
    refine ⟨x, .ty n, .type (tyName dx), .type n, b, rfl, .ty n, ?_, kit_ty e1, k _ _ (.flat .bl fr R)⟩
    cases dx with
    | non => rw [o1.non_inv]; exact .base .non
    | bl b => rw [o1.bl_inv]; exact .base (.bl _)
    | int b => rw [o1.int_inv]; exact .base (.int _)
    | str b => rw [o1.str_inv]; exact .base (.str _)
    | ty m => exact absurd rfl (hn m)
    | dcl m => exact absurd rfl (hn2 m)
    | tup ds =>
      obtain ⟨a, vs, rfl, h1, h2, no⟩ := o1.tup_inv
      rcases h1 with (h1 | ⟨o, h1⟩) | ⟨o, its, n, h1, h3, _⟩
      · exact .base (.tup h1)
      · exact .fTuple h1
      · exact .kTuple h1 h3
    | lst ds =>
      obtain ⟨a, vs, _, rfl, h1, h2, no⟩ := o1.lst_inv
      exact .base (.lst h1)
    | fro ds =>
      obtain ⟨a, vs, rfl, h1, h2, no⟩ := o1.fro_inv
      rcases h1 with ⟨o, h1⟩ | ⟨o, its, n, h1, h3, _⟩
      · exact .base (.frz h1)
      · exact .kList h1 h3
    | dct ds =>
      obtain ⟨a, vs, _, rfl, h1, h2, no⟩ := o1.dct_inv
      exact .base (.dK h1)
  · cases e
/-- max, min of two ints -/
abbrev maxD := intD (fun _ _ => true) fun i j => if j > i then j else i
abbrev minD := intD (fun _ _ => true) fun i j => if j < i then j else i
theorem opd_two {f : Int → Int → Int} : OpD K (intD (fun _ _ => true) f) fun x y H Q => ∃ i j, [x, y] = [V.int i, V.int j] ∧ Q (.int (f i j)) H := by
  intro P B ia s σ H H0 Fs dx dy q x y F G Q R o1 o2 fr e k
  unfold intD at e
  split at e
  · cases e; exact ⟨_, _, by rw [o1.int_inv, o2.int_inv], k _ _ (.flat .int fr R)⟩
  · cases e
end
end PV

/-! PV: what changes a list or a dict; dicts; methods of texts. -/
namespace PV
open PySem PySem.Spec L2

/-! ### xs.append(e), xs.extend(e) -/
def appD (ds : List D) (y : D) : Option (List D) := if ds.length < sizeLine then some (ds ++ [y]) else none
def extD (ds : List D) (y : D) : Option (List D) := match y with
  | .lst zs => if ds.length + zs.length ≤ sizeLine then some (ds ++ zs) else none
  | _ => none
def isLst (s : S) (i : Nat) : Bool := match s[i]? with
  | some (some (_, .lst _)) => true
  | _ => false
def growM (g : List D → D → Option (List D)) (i : Nat) (f : M (Bool × D)) : M (Bool × D) := fun s => if isLst s i = true then (f s).bind fun y s1 => (match s1[i]? with
  | some (some (o, .lst ds)) => if o = .sh then .stuck else (match g ds y.2 with
    | some ds' => .ok (false, .non) (s1.set i (some (o, .lst ds')))
    | none => .stuck)
  | _ => .stuck) else .stuck
/-- the rule r grows a list as g says -/
def GrowR (K : PySem.W.Frag) (g : List D → D → Option (List D)) (r : V → List V → Hp → VK → Prop) : Prop :=
  ∀ {H : Hp} {a : Addr} {vs : List V} {ds ds' : List D} {y : D} {v : V} {F G : List Addr} {Q : VK}, H a = some (.lst vs) → Reps K H ds vs F → Rep K H y v G → g ds y = some ds' →
    (∀ vs' F', (∀ H', (∀ b o, H b = some o → Im o → H' b = some o) → (∀ b, b ∈ F ++ G → b ≠ a → H' b = H b) → a ∉ F' → Reps K H' ds' vs' F') → (∀ b, b ∈ F' → b ∈ F ∨ b ∈ G) → Q .non (upd H a (.lst vs'))) → r (.ref a) [v] H Q
theorem grow_app {K : PySem.W.Frag} : GrowR K appD rAppend := by
  intro H a vs ds ds' y v F G Q h hr hy e k
  unfold appD at e
  split at e
  · rename_i hz
    cases e
    refine ⟨a, vs, v, rfl, rfl, h, by rw [← hr.length]; exact hz, k (vs ++ [v]) (F ++ G) (fun H' i f na => ?_) fun b m => List.mem_append.mp m⟩
    have f' : ∀ b, b ∈ F ++ G → H' b = H b := fun b m => f b m fun e => na (e ▸ m)
    exact (Reps.keep i hr fun b m => f' b (List.mem_append_left _ m)).append (Reps.one (hy.keep i fun b m => f' b (List.mem_append_right _ m)))
  · cases e
theorem grow_ext {K : PySem.W.Frag} : GrowR K extD rExtend := by
  intro H a vs ds ds' y v F G Q h hr hy e k
  unfold extD at e
  split at e
  · rename_i zs
    split at e
    · rename_i hz
      cases e
      cases hy with
      | @lst b _ ws G' h1 h2 =>
        refine ⟨a, b, vs, ws, rfl, rfl, h, h1, by rw [← hr.length, ← h2.length]; exact hz, k (vs ++ ws) (F ++ G') (fun H' i f na => ?_) fun c m => (List.mem_append.mp m).imp (fun m => m) fun m => List.mem_cons_of_mem _ m⟩
        have f' : ∀ c, c ∈ F ++ G' → H' c = H c := fun c m => f c ((List.mem_append.mp m).elim (fun m => List.mem_append_left _ m) fun m => List.mem_append_right _ (List.mem_cons_of_mem _ m)) fun e => na (e ▸ m)
        exact (Reps.keep i hr fun c m => f' c (List.mem_append_left _ m)).append (Reps.keep i h2 fun c m => f' c (List.mem_append_right _ m))
    · cases e
  · cases e
theorem isLst_inv {s : S} {i : Nat} (h : isLst s i = true) : ∃ o ds, s[i]? = some (some (o, .lst ds)) := by
  unfold isLst at h
  split at h
  · rename_i o ds e; exact ⟨o, ds, e⟩
  · cases h
theorem tD_grow {K : PySem.W.Frag} {E : WX} {g : List D → D → Option (List D)} {r : V → List V → Hp → VK → Prop} (hg : GrowR K g r) {i : Nat} {f : M (Bool × D)} (σ : St) (H : Hp) (Q : VK) (h : tD K E (growM g i f) σ H Q) : tBM K "list" r (tVar i) (tCons (tD K E f) tNil) σ H Q := by
  obtain ⟨P, B, ia, s, Fs, R, w⟩ := h
  unfold growM at w
  split at w
  · rename_i hl
    obtain ⟨o, ds, e⟩ := isLst_inv hl
    obtain ⟨v, F0, hv, ov⟩ := R.opd e
    obtain ⟨a, vs, G0, rfl, h1, h2, _, _⟩ := ov.lst_inv
    refine ⟨.ref a, hv, .inl ⟨rfl, vs, SqL.of h1⟩, P, B, ia, s, Fs, R, (Post.bind w).mono (fun _ _ q => q) fun y s1 q u H1 rv => ?_⟩
    obtain ⟨G, Fs1, g1, g2, g3, g4, g5⟩ := rv
    split at q
    · rename_i o1 ds1 e1
      split at q
      · exact q.elim
      · rename_i ho
        split at q
        · rename_i ds2 e2
          obtain ⟨a', F, k1, k2, k3, k4, k5, k6⟩ := g4.own i o1 _ e1 ho
          rw [hv] at k1; cases k1
          cases k3 with
          | @lst _ _ vs1 _ m1 m2 =>
            refine hg m1 m2 g1 e2 fun vs' F' hr hF => ?_
            have na : a ∉ F' := fun m => (hF a m).elim k4 fun m => k5 (.inr m)
            have rm : RepM K (upd H1 a (.lst vs')) (.lst ds2) a F' := .lst upd_same (hr _ (fun b o hb hi => by rw [upd_ne fun e => by subst e; rw [m1] at hb; cases hb; exact hi]; exact hb) (fun b m hb => upd_ne hb) na)
            obtain ⟨r2, fr2⟩ := g4.write e1 ho hv k2 rm hF (fun b m => g3 b m)
            exact q .non _ (.flat .non (g2.trans fr2) r2)
        · exact q.elim
    · exact q.elim
  · exact w.elim
/-- a method that grows a list: h is pe_bm .. -/
theorem dm_grow {X : Cx} {E : WX} {e : Expr} {g : List D → D → Option (List D)} {r : V → List V → Hp → VK → Prop} {i : Nat} {f : M (Bool × D)} (h : PE X e (tBM X.K "list" r (tVar i) (tCons (tD X.K E f) tNil))) (hg : GrowR X.K g r) : PE X e (tD X.K E (growM g i f)) := h.imp (tD_grow hg)

/-! ### xs.pop(), xs.pop(i) -/
def popM (i : Nat) : M (Bool × D) := fun s => match s[i]? with
  | some (some (o, .lst ds)) => if o = .sh then .stuck else (match ds[ds.length - 1]? with
    | some d => .ok (false, d) (s.set i (some (o, .lst ds.dropLast)))
    | none => .stuck)
  | _ => .stuck
theorem Reps.dropLast {K : PySem.W.Frag} {H : Hp} {ds : List D} {vs : List V} {F : List Addr} (h : Reps K H ds vs F) : ∃ G, Reps K H ds.dropLast vs.dropLast G ∧ ∀ b, b ∈ G → b ∈ F := by
  rw [List.dropLast_eq_take, List.dropLast_eq_take, h.length]
  have := h.sub 0 (vs.length - 1)
  simpa using this
theorem Reps.erase {K : PySem.W.Frag} {H : Hp} : ∀ {ds : List D} {vs : List V} {F : List Addr} (k : Nat), Reps K H ds vs F → ∃ G, Reps K H (ds.eraseIdx k) (vs.eraseIdx k) G ∧ ∀ b, b ∈ G → b ∈ F
  | [], _, _, k, h => by cases h; exact ⟨[], by simpa using Reps.nil, fun _ m => m⟩
  | d :: ds, _, _, 0, h => by
    cases h with
    | cons h1 h2 => exact ⟨_, h2, fun b m => List.mem_append_right _ m⟩
  | d :: ds, _, _, k + 1, h => by
    cases h with
    | @cons _ v F1 _ vs G h1 h2 =>
      obtain ⟨G', e1, e2⟩ := Reps.erase k h2
      refine ⟨F1 ++ G', .cons h1 e1, fun b m => ?_⟩
      rcases List.mem_append.mp m with m | m
      · exact List.mem_append_left _ m
      · exact List.mem_append_right _ (e2 b m)
/-- a list in a slot of one's own becomes a part of itself, a part is handed out -/
theorem SR.less {K : PySem.W.Frag} {P B : Addr → Prop} {ia : Nat → Addr} {s : S} {σ : St} {H H0 : Hp} {Fs : Nat → List Addr} {i : Nat} {o : Own} {d d' y : D} {a : Addr} {v : V} {F F' G : List Addr} {ob : HO} (r : SR K P B ia s σ H Fs) (fr : Fr P H0 H) (e : s[i]? = some (some (o, d))) (n : o ≠ .sh) (ha : σ[i]? = some (some (V.ref a)))
    (hF : Fs i = a :: F) (h : ∀ H', (∀ b o, H b = some o → Im o → H' b = some o) → (∀ b, b ≠ a → H' b = H b) → H' a = some ob → RepM K H' d' a F') (hF' : ∀ b, b ∈ F' → b ∈ F) (hy : Rep K H y v G) (hG : ∀ b, b ∈ G → b ∈ F) (hu : d.ul := by intro _ h; cases h) :
    RV K P B ia (s.set i (some (o, d'))) σ H0 (upd H a ob) false y v := by
  obtain ⟨a', F0, k1, k2, k3, k4, k5, k6⟩ := r.own i o d e n
  rw [ha] at k1; cases k1
  rw [hF] at k2; cases k2
  obtain ⟨ob0, m1, m2⟩ := k3.mut hu
  have im : ∀ b o, H b = some o → Im o → upd H a ob b = some o := fun b o hb hi => by
    rw [upd_ne fun e => by subst e; rw [m1] at hb; cases hb; exact m2 hi]; exact hb
  have rm := h (upd H a ob) im (fun b hb => upd_ne hb) upd_same
  obtain ⟨r2, fr2⟩ := SR.write (F2 := []) (r.weak fun b m => m.elim (fun m => m) fun m => by cases m) e n ha hF rm (fun b m => .inl (hF' b m)) (fun b m => by cases m) hu
  have naG : ∀ b, b ∈ G → b ≠ a := fun b m z => k4 (by rw [← z]; exact hG b m)
  have no : NoOwn (s.set i (some (o, d'))) σ G := by
    intro j o' d2 b q n' x m
    by_cases hj : j = i
    · subst hj
      rw [ha] at x; cases x
      exact naG _ m rfl
    · rw [get_set_ne hj] at q
      obtain ⟨c, F2, g1, g2, g3, g4, g5, g6⟩ := r.own j o' d2 q n'
      rw [x] at g1; cases g1
      exact g6 i (Ne.symm hj) (by rw [hF]; exact List.mem_cons_of_mem _ (hG b m))
  exact .part (hy.keep im fun b m => upd_ne (naG b m)) no (fun b m => r.inB i b (by rw [hF]; exact List.mem_cons_of_mem _ (hG b m))) (fr.trans fr2) r2
theorem tD_pop {K : PySem.W.Frag} {E : WX} {i : Nat} (σ : St) (H : Hp) (Q : VK) (h : tD K E (popM i) σ H Q) : tBM0 K "list" rPop (tVar i) σ H Q := by
  obtain ⟨P, B, ia, s, Fs, R, w⟩ := h
  unfold popM at w
  split at w
  · rename_i o ds e
    split at w
    · exact w.elim
    · rename_i ho
      split at w
      · rename_i d ed
        obtain ⟨a, F, k1, k2, k3, k4, k5, k6⟩ := R.own i o _ e ho
        cases k3 with
        | @lst _ _ vs _ m1 m2 =>
          obtain ⟨v, G, g1, g2, g3⟩ := m2.get ed
          obtain ⟨F', f1, f2⟩ := m2.dropLast
          refine ⟨.ref a, k1, .inl ⟨rfl, vs, SqL.of m1⟩, a, vs, v, rfl, rfl, m1, by rw [← m2.length]; exact g1, w v _ (R.less Fr.refl e ho k1 k2 (fun H' i f ha => .lst ha (Reps.keep i f1 fun b m => f b fun z => k4 (by rw [← z]; exact f2 b m))) f2 g2 g3)⟩
      · exact w.elim
  · exact w.elim
theorem dm_pop {X : Cx} {E : WX} {e : Expr} {i : Nat} (h : PE X e (tBM0 X.K "list" rPop (tVar i))) : PE X e (tD X.K E (popM i)) := h.imp tD_pop
def popAtM (i : Nat) (f : M (Bool × D)) : M (Bool × D) := fun s => if isLst s i = true then (f s).bind fun y s1 => (match s1[i]?, y.2 with
  | some (some (o, .lst ds)), .int k => if o = .sh then .stuck else if -(2 ^ 63) ≤ k ∧ k < 2 ^ 63 then (match seqIndex? k ds.length with
    | some j => (match ds[j]? with
      | some d => .ok (false, d) (s1.set i (some (o, .lst (ds.eraseIdx j))))
      | none => .stuck)
    | none => .stuck) else .stuck
  | _, _ => .stuck) else .stuck
theorem tD_popAt {K : PySem.W.Frag} {E : WX} {i : Nat} {f : M (Bool × D)} (σ : St) (H : Hp) (Q : VK) (h : tD K E (popAtM i f) σ H Q) : tBM K "list" rPopAt (tVar i) (tCons (tD K E f) tNil) σ H Q := by
  obtain ⟨P, B, ia, s, Fs, R, w⟩ := h
  unfold popAtM at w
  split at w
  · rename_i hl
    obtain ⟨o, ds, e⟩ := isLst_inv hl
    obtain ⟨v, F0, hv, ov⟩ := R.opd e
    obtain ⟨a, vs, G0, rfl, h1, h2, _, _⟩ := ov.lst_inv
    refine ⟨.ref a, hv, .inl ⟨rfl, vs, SqL.of h1⟩, P, B, ia, s, Fs, R, (Post.bind w).mono (fun _ _ q => q) fun y s1 q u H1 rv => ?_⟩
    obtain ⟨G, Fs1, g1, g2, g3, g4, g5⟩ := rv
    split at q
    · rename_i o1 ds1 k e1 e2
      split at q
      · exact q.elim
      · rename_i ho
        split at q
        · rename_i hk
          split at q
          · rename_i j ej
            split at q
            · rename_i d ed
              obtain ⟨a', F, k1, k2, k3, k4, k5, k6⟩ := g4.own i o1 _ e1 ho
              rw [hv] at k1; cases k1
              cases k3 with
              | @lst _ _ vs1 _ m1 m2 =>
                obtain ⟨v', G', q1, q2, q3⟩ := m2.get ed
                obtain ⟨F', f1, f2⟩ := m2.erase j
                have eu : u = .int k := by rw [e2] at g1; cases g1; rfl
                exact ⟨a, vs1, k, j, v', rfl, by rw [eu], m1, hk.1, hk.2, by rw [← m2.length]; exact ej, q1, q v' _ ((g4.weak fun b m => .inl m).less g2 e1 ho hv k2 (fun H' i f ha => .lst ha (Reps.keep i f1 fun b m => f b fun z => k4 (by rw [← z]; exact f2 b m))) f2 q2 q3)⟩
            · exact q.elim
          · exact q.elim
        · exact q.elim
    · exact q.elim
  · exact w.elim
theorem dm_popAt {X : Cx} {E : WX} {e : Expr} {i : Nat} {f : M (Bool × D)} (h : PE X e (tBM X.K "list" rPopAt (tVar i) (tCons (tD X.K E f) tNil))) : PE X e (tD X.K E (popAtM i f)) := h.imp tD_popAt

/-! ### x[k] = e at a slot: a list, a dict -/
def kput (kds : List (Key × D)) (k : Key) (d : D) : List (Key × D) := if kds.any (fun q => decide (q.1 = k)) then kds.map (fun q => if q.1 = k then (q.1, d) else q) else kds ++ [(k, d)]
theorem RepK.any {K : PySem.W.Frag} {H : Hp} {k : Key} : ∀ {kds : List (Key × D)} {kvs : List (Key × V)} {F : List Addr}, RepK K H kds kvs F → kds.any (fun q => decide (q.1 = k)) = kvs.any (fun q => decide (q.1 = k))
  | [], _, _, h => by cases h; rfl
  | (k', d) :: ds, _, _, h => by
    cases h with
    | cons h1 h2 => simp [RepK.any h2]
theorem RepK.mapk {K : PySem.W.Frag} {H : Hp} {k : Key} {y : D} {v : V} {G : List Addr} (hy : Rep K H y v G) : ∀ {kds : List (Key × D)} {kvs : List (Key × V)} {F : List Addr}, RepK K H kds kvs F →
    ∃ F', RepK K H (kds.map fun q => if q.1 = k then (q.1, y) else q) (kvs.map fun q => if q.1 = k then (q.1, v) else q) F' ∧ ∀ b, b ∈ F' → b ∈ F ∨ b ∈ G
  | [], _, _, h => by cases h; exact ⟨[], .nil, fun _ m => nomatch m⟩
  | (k', d) :: ds, _, _, h => by
    cases h with
    | @cons _ _ w F1 _ vs F2 h1 h2 =>
      obtain ⟨F', e1, e2⟩ := RepK.mapk (k := k) hy h2
      by_cases hk : k' = k
      · refine ⟨G ++ F', ?_, fun b m => ?_⟩
        · simp only [List.map_cons, if_pos hk]; exact .cons hy e1
        · rcases List.mem_append.mp m with m | m
          · exact .inr m
          · exact (e2 b m).imp (fun m => List.mem_append_right _ m) fun m => m
      · refine ⟨F1 ++ F', ?_, fun b m => ?_⟩
        · simp only [List.map_cons, if_neg hk]; exact .cons h1 e1
        · rcases List.mem_append.mp m with m | m
          · exact .inl (List.mem_append_left _ m)
          · exact (e2 b m).imp (fun m => List.mem_append_right _ m) fun m => m
theorem RepK.app {K : PySem.W.Frag} {H : Hp} {k : Key} {y : D} {v : V} {G : List Addr} (hy : Rep K H y v G) : ∀ {kds : List (Key × D)} {kvs : List (Key × V)} {F : List Addr}, RepK K H kds kvs F → RepK K H (kds ++ [(k, y)]) (kvs ++ [(k, v)]) (F ++ G)
  | [], _, _, h => by
    cases h
    have := RepK.cons (k := k) hy (RepK.nil (K := K) (H := H))
    simpa using this
  | (k', d) :: ds, _, _, h => by
    cases h with
    | cons h1 h2 =>
      rw [List.append_assoc]
      exact .cons h1 (RepK.app hy h2)
theorem RepK.put {K : PySem.W.Frag} {H : Hp} {k : Key} {y : D} {v : V} {G : List Addr} (hy : Rep K H y v G) {kds : List (Key × D)} {kvs : List (Key × V)} {F : List Addr} (h : RepK K H kds kvs F) : ∃ F', RepK K H (kput kds k y) (putK kvs k v) F' ∧ ∀ b, b ∈ F' → b ∈ F ∨ b ∈ G := by
  unfold kput putK
  rw [h.any]
  split
  · exact RepK.mapk hy h
  · exact ⟨F ++ G, RepK.app hy h, fun b m => List.mem_append.mp m⟩
def isBox (s : S) (i : Nat) : Bool := match s[i]? with
  | some (some (_, .lst _)) => true
  | some (some (_, .dct _)) => true
  | _ => false
/-- what stands behind x[k] = y -/
def setD (x k y : D) : Option D := match x with
  | .lst ds => (match k with
    | .int j => (ixN ds.length j).map fun j => .lst (ds.set j y)
    | _ => none)
  | .dct kds => k.key.bind fun k => if kds.length < sizeLine then some (.dct (kput kds k y)) else none
  | _ => none
def setItM (i : Nat) (k f : M (Bool × D)) : M Fl := fun s => (f s).bind fun y s1 => if isBox s1 i = true then (k s1).bind fun kk s2 => (match s2[i]? with
  | some (some (o, x)) => if o = .sh then .stuck else (match setD x kk.2 y.2 with
    | some x' => .ok .nx (s2.set i (some (o, x')))
    | none => .stuck)
  | _ => .stuck) else .stuck
theorem Reps.set {K : PySem.W.Frag} {H : Hp} {y : D} {v : V} {G : List Addr} (hy : Rep K H y v G) : ∀ {ds : List D} {vs : List V} {F : List Addr} (j : Nat), Reps K H ds vs F → ∃ F', Reps K H (ds.set j y) (vs.set j v) F' ∧ ∀ b, b ∈ F' → b ∈ F ∨ b ∈ G
  | [], _, _, j, h => by cases h; exact ⟨[], by simpa using Reps.nil, fun _ m => nomatch m⟩
  | d :: ds, _, _, 0, h => by
    cases h with
    | cons h1 h2 => exact ⟨_, .cons hy h2, fun b m => (List.mem_append.mp m).elim .inr fun m => .inl (List.mem_append_right _ m)⟩
  | d :: ds, _, _, j + 1, h => by
    cases h with
    | @cons _ w F1 _ vs F2 h1 h2 =>
      obtain ⟨F', e1, e2⟩ := Reps.set hy j h2
      refine ⟨F1 ++ F', .cons h1 e1, fun b m => ?_⟩
      rcases List.mem_append.mp m with m | m
      · exact .inl (List.mem_append_left _ m)
      · exact (e2 b m).imp (fun m => List.mem_append_right _ m) fun m => m
/-- the two rules' readings -/
def rSetA (ti te : TE) (i : Nat) : TS := fun Dn σ H => tAsg te (gSub (tVar i) ti rSetL) Dn σ H ∨ sDPut (tVar i) ti te Dn σ H
theorem tS_setIt {K : PySem.W.Frag} {E : WX} {i : Nat} {k f : M (Bool × D)} (Dn : Ends) (σ : St) (H : Hp) (h : tS K E (setItM i k f) Dn σ H) : rSetA (tD K E k) (tD K E f) i Dn σ H := by
  obtain ⟨P, B, ia, s, Fs, R, w⟩ := h
  unfold setItM at w
  -- one end for both kinds
  have fin : ∀ {y : Bool × D} {s1 s2 : S} {H1 H2 : Hp} {u kv : V} {G Gk : List Addr} {Fs1 Fs2 : Nat → List Addr} {kk : Bool × D} {o : Own} {x x' : D} {a : Addr}, Rep K H1 y.2 u G → Fr P H H1 → (∀ a, a ∈ G → B a) → Fr (fun b => P b ∨ b ∈ G) H1 H2 → SR K (fun b => (P b ∨ b ∈ G) ∨ b ∈ Gk) B ia s2 σ H2 Fs2 →
      s2[i]? = some (some (o, x)) → o ≠ .sh → setD x kk.2 y.2 = some x' → Rep K H2 kk.2 kv Gk → σ[i]? = some (some (V.ref a)) → SPd K P B ia H Dn .nx (s2.set i (some (o, x'))) →
      (∃ ds vs j z, x = .lst ds ∧ H2 a = some (.lst vs) ∧ kv = .int z ∧ ixN vs.length z = some j ∧ Dn.nx σ (upd H2 a (.lst (vs.set j u)))) ∨ (∃ kds kvs kx, x = .dct kds ∧ H2 a = some (.dK kvs) ∧ kv = kV kx ∧ kvs.length < sizeLine ∧ Dn.nx σ (upd H2 a (.dK (putK kvs kx u)))) := by
    intro y s1 s2 H1 H2 u kv G Gk Fs1 Fs2 kk o x x' a hy f1 hb f2 r2 e ho es hk hv q
    have hy2 : Rep K H2 y.2 u G := hy.keep f2.i fun b m => f2.p b (.inr m)
    obtain ⟨a', F, k1, k2, k3, k4, k5, k6⟩ := r2.own i o x e ho
    rw [hv] at k1; cases k1
    have r3 : SR K (fun b => P b ∨ b ∈ G) B ia s2 σ H2 Fs2 := r2.weak fun b m => .inl m
    have f12 : Fr P H H2 := f1.trans (f2.mono fun b m => .inl m)
    cases k3 with
    | @lst _ ds vs _ m1 m2 =>
      left
      simp only [setD] at es
      split at es
      · rename_i z hz
        obtain ⟨j, e1, e2⟩ := Option.map_eq_some_iff.mp es
        subst e2
        rw [hz] at hk
        cases hk
        obtain ⟨F', g1, g2⟩ := m2.set hy2 j
        refine ⟨ds, vs, j, z, rfl, m1, rfl, by rw [← m2.length]; exact e1, ?_⟩
        have na : a ∉ F' := fun m => (g2 a m).elim k4 fun m => k5 (.inl (.inr m))
        have im : ∀ b o, H2 b = some o → Im o → upd H2 a (.lst (vs.set j u)) b = some o := fun b o hb hi => by rw [upd_ne fun e => by subst e; rw [m1] at hb; cases hb; exact hi]; exact hb
        obtain ⟨r4, f4⟩ := r3.write e ho hv k2 (RepM.lst (K := K) (H := upd H2 a (.lst (vs.set j u))) upd_same (Reps.keep im g1 fun b m => upd_ne fun z => na (z ▸ m))) g2 hb
        exact q σ _ _ (f12.trans f4) r4
      · cases es
    | @dct _ kds kvs _ m1 m2 =>
      right
      simp only [setD] at es
      obtain ⟨kx, e1, e2⟩ := Option.bind_eq_some_iff.mp es
      split at e2
      · rename_i hz
        cases e2
        obtain ⟨F', g1, g2⟩ := RepK.put (k := kx) hy2 m2
        refine ⟨kds, kvs, kx, rfl, m1, hk.key e1, by rw [← m2.length]; exact hz, ?_⟩
        have na : a ∉ F' := fun m => (g2 a m).elim k4 fun m => k5 (.inl (.inr m))
        have im : ∀ b o, H2 b = some o → Im o → upd H2 a (.dK (putK kvs kx u)) b = some o := fun b o hb hi => by rw [upd_ne fun e => by subst e; rw [m1] at hb; cases hb; exact hi]; exact hb
        obtain ⟨r4, f4⟩ := r3.write e ho hv k2 (RepM.dct (K := K) (H := upd H2 a (.dK (putK kvs kx u))) upd_same (RepK.keep im g1 fun b m => upd_ne fun z => na (z ▸ m))) g2 hb
        exact q σ _ _ (f12.trans f4) r4
      · cases e2
    | dcl _ _ => cases es
  have w' := Post.bind w
  cases ef : f s with
  | stuck => rw [ef] at w'; exact w'.elim
  | exc x s1 =>
    rw [ef] at w'
    exact .inl ⟨P, B, ia, s, Fs, R, by rw [ef]; exact w'.to⟩
  | ok y s1 =>
    rw [ef] at w'
    simp only [Post.ok] at w'
    split at w'
    · rename_i hbx
      cases ek : k s1 with
      | stuck => rw [ek] at w'; exact w'.elim
      | exc x s2 =>
        rw [ek] at w'
        -- the box's kind tells the rule
        unfold isBox at hbx
        split at hbx
        · rename_i o ds e1
          left
          refine ⟨P, B, ia, s, Fs, R, ?_⟩
          rw [ef]
          intro u H1 rv
          obtain ⟨G, Fs1, g1, g2, g3, g4, g5⟩ := rv
          obtain ⟨v, F0, hv, ov⟩ := g4.opd e1
          exact ⟨v, hv, _, B, ia, s1, Fs1, g4, by rw [ek]; exact fun cls dx H2 rx => w' σ cls dx H2 (rx.weak g2 fun b m => .inl m)⟩
        · rename_i o ds e1
          left
          refine ⟨P, B, ia, s, Fs, R, ?_⟩
          rw [ef]
          intro u H1 rv
          obtain ⟨G, Fs1, g1, g2, g3, g4, g5⟩ := rv
          obtain ⟨v, F0, hv, ov⟩ := g4.opd e1
          exact ⟨v, hv, _, B, ia, s1, Fs1, g4, by rw [ek]; exact fun cls dx H2 rx => w' σ cls dx H2 (rx.weak g2 fun b m => .inl m)⟩
        · cases hbx
      | ok kk s2 =>
        rw [ek] at w'
        simp only [Res.bind_ok] at w'
        split at w'
        · rename_i o x e2
          split at w'
          · exact w'.elim
          · rename_i ho
            split at w'
            · rename_i x' ex
              have live : ∃ o' d', s1[i]? = some (some (o', d')) := by
                unfold isBox at hbx
                split at hbx
                · rename_i o' ds e1; exact ⟨_, _, e1⟩
                · rename_i o' ds e1; exact ⟨_, _, e1⟩
                · cases hbx
              obtain ⟨o', d', e1⟩ := live
              cases x with
              | lst ds =>
                left
                refine ⟨P, B, ia, s, Fs, R, ?_⟩
                rw [ef]
                intro u H1 rv
                obtain ⟨G, Fs1, g1, g2, g3, g4, g5⟩ := rv
                obtain ⟨v, F0, hv, ov⟩ := g4.opd e1
                refine ⟨v, hv, _, B, ia, s1, Fs1, g4, ?_⟩
                rw [ek]
                intro kv H2 rv2
                obtain ⟨Gk, Fs2, k1, k2, k3, k4, k5⟩ := rv2
                obtain ⟨a, F, q1, q2, q3, _⟩ := k4.own i o _ e2 ho
                rw [hv] at q1; cases q1
                rcases fin (s1 := s1) (Fs1 := Fs1) g1 g2 g3 k2 k4 e2 ho ex k1 hv w' with ⟨ds, vs, j, z, _, m1, m2, m3, m4⟩ | ⟨_, _, _, m1, _⟩
                · exact ⟨a, vs, z, j, rfl, m2, m1, m3, m4⟩
                · cases m1
              | dct kds =>
                right
                refine ⟨P, B, ia, s, Fs, R, ?_⟩
                rw [ef]
                intro u H1 rv
                obtain ⟨G, Fs1, g1, g2, g3, g4, g5⟩ := rv
                obtain ⟨v, F0, hv, ov⟩ := g4.opd e1
                refine ⟨v, hv, _, B, ia, s1, Fs1, g4, ?_⟩
                rw [ek]
                intro kv H2 rv2
                obtain ⟨Gk, Fs2, k1, k2, k3, k4, k5⟩ := rv2
                obtain ⟨a, F, q1, q2, q3, _⟩ := k4.own i o _ e2 ho
                rw [hv] at q1; cases q1
                rcases fin (s1 := s1) (Fs1 := Fs1) g1 g2 g3 k2 k4 e2 ho ex k1 hv w' with ⟨_, _, _, _, m1, _⟩ | ⟨kds, kvs, kx, _, m1, m2, m3, m4⟩
                · cases m1
                · exact ⟨a, _, rfl, .inl ⟨kvs, kx, m1, m2, m3, rfl⟩, m4⟩
              | _ => simp [setD] at ex
            · exact w'.elim
        · exact w'.elim
    · exact w'.elim
theorem PS.or {X : Cx} {st : Stmt} {t t' : TS} (h : PS X st t) (h' : PS X st t') : PS X st (fun Dn σ H => t Dn σ H ∨ t' Dn σ H) := ⟨fun pins s σ H Dn I w => w.elim (h.run pins s σ H Dn I) (h'.run pins s σ H Dn I)⟩
/-- h1: ps_asg he (pg_sub (pv i) hk set_list); h2: ps_dput hu (pv i) hk he rfl -/
theorem ds_setIt {X : Cx} {E : WX} {st : Stmt} {i : Nat} {k f : M (Bool × D)} (h1 : PS X st (tAsg (tD X.K E f) (gSub (tVar i) (tD X.K E k) rSetL))) (h2 : PS X st (sDPut (tVar i) (tD X.K E k) (tD X.K E f))) : PS X st (tS X.K E (setItM i k f)) := (PS.or h1 h2).imp tS_setIt

/-! ### dict displays -/
def flat2 : List (M (Bool × D) × M (Bool × D)) → List (M (Bool × D))
  | [] => []
  | (k, v) :: r => k :: v :: flat2 r
/-- keys and values in a row, as pairs -/
def kpairs : List D → Option (List (Key × D))
  | [] => some []
  | k :: d :: r => k.key.bind fun kk => (kpairs r).map fun ps => (kk, d) :: ps
  | _ => none
def kmerge (kds more : List (Key × D)) : List (Key × D) := more.foldl (fun acc q => kput acc q.1 q.2) kds
def dispM (ps : List (M (Bool × D) × M (Bool × D))) : M (Bool × D) := opsM ((flat2 ps).map .ex) fun ds s => match kpairs ds with
  | some kds => if kds.length ≤ 15 then .ok (true, .dct (kmerge [] kds)) s else .stuck
  | none => .stuck
theorem rdOs_mono {K : PySem.W.Frag} {E : WX} : ∀ {os : List Opd} {σ : St} {H : Hp} {Q Q' : List V → Hp → Prop}, rdOs K E os σ H Q → (∀ vs H, Q vs H → Q' vs H) → rdOs K E os σ H Q'
  | [], σ, H, Q, Q', h, q => q _ _ h
  | o :: os, σ, H, Q, Q', h, q => rdO_mono (o := o) h fun x H1 h1 => rdOs_mono (os := os) h1 fun vs H2 h2 => q _ _ h2
theorem tPairs_of {K : PySem.W.Frag} {E : WX} : ∀ {ps : List (M (Bool × D) × M (Bool × D))} {σ : St} {H : Hp} {Q : List (V × V) → Hp → Prop}, rdOs K E ((flat2 ps).map .ex) σ H (fun vs H' => ∀ qs : List (V × V), vs = qs.flatMap (fun q => [q.1, q.2]) → Q qs H') → tPairs (ps.map fun p => (tD K E p.1, tD K E p.2)) σ H Q
  | [], σ, H, Q, h => h [] rfl
  | (k, v) :: r, σ, H, Q, h => by
    refine tD_mono h fun x H1 h1 => tD_mono h1 fun y H2 h2 => tPairs_of ?_
    exact rdOs_mono h2 fun vs H' q qs e => q ((x, y) :: qs) (by rw [e]; rfl)
theorem Rep.keyF {K : PySem.W.Frag} {H : Hp} {d : D} {v : V} {F : List Addr} {k : Key} (h : Rep K H d v F) (e : d.key = some k) : F = [] := by
  cases h <;> cases e <;> rfl
/-- pairs by their representation -/
theorem kpairs_rep {K : PySem.W.Frag} {H : Hp} : ∀ {ds : List D} {vs : List V} {F : List Addr} {kds : List (Key × D)}, Reps K H ds vs F → kpairs ds = some kds →
    ∃ kvs : List (Key × V), vs = kvs.flatMap (fun q => [kV q.1, q.2]) ∧ RepK K H kds kvs F
  | [], _, _, _, h, e => by cases h; cases e; exact ⟨[], rfl, .nil⟩
  | [_], _, _, _, h, e => by simp [kpairs] at e
  | k :: d :: r, _, _, _, h, e => by
    rw [kpairs] at e
    obtain ⟨kk, e1, e2⟩ := Option.bind_eq_some_iff.mp e
    obtain ⟨ps, e3, e4⟩ := Option.map_eq_some_iff.mp e2
    subst e4
    cases h with
    | @cons _ v1 F1 _ _ G1 h1 h2 =>
      cases h2 with
      | @cons _ v2 F2 _ _ G2 h3 h4 =>
        obtain ⟨kvs, g1, g2⟩ := kpairs_rep h4 e3
        have ek := h1.key e1
        have f1 : F1 = [] := h1.keyF e1
        subst ek
        subst f1
        exact ⟨(kk, v2) :: kvs, by rw [g1]; rfl, by simpa using RepK.cons (k := kk) h3 g2⟩
theorem RepK.merge {K : PySem.W.Frag} {H : Hp} : ∀ {more : List (Key × D)} {moreV : List (Key × V)} {G : List Addr} {kds : List (Key × D)} {kvs : List (Key × V)} {F : List Addr}, RepK K H more moreV G → RepK K H kds kvs F →
    ∃ F', RepK K H (kmerge kds more) (mergeK kvs moreV) F' ∧ ∀ b, b ∈ F' → b ∈ F ∨ b ∈ G
  | [], _, _, _, _, F, h, h' => by cases h; exact ⟨F, h', fun b m => .inl m⟩
  | (k, d) :: more, _, _, _, _, _, h, h' => by
    cases h with
    | cons h1 h2 =>
      obtain ⟨F1, e1, e2⟩ := RepK.put (k := k) h1 h'
      obtain ⟨F2, g1, g2⟩ := RepK.merge h2 e1
      exact ⟨F2, g1, fun b m => (g2 b m).elim (fun m => (e2 b m).imp (fun m => m) fun m => List.mem_append_left _ m) fun m => .inr (List.mem_append_right _ m)⟩
theorem flatMap_inj2 : ∀ {qs : List (V × V)} {kvs : List (Key × V)}, qs.flatMap (fun q => [q.1, q.2]) = kvs.flatMap (fun q => [kV q.1, q.2]) → qs = kvs.map fun q => (kV q.1, q.2)
  | [], [], _ => rfl
  | [], _ :: _, h => by simp at h
  | _ :: _, [], h => by simp at h
  | (a, b) :: qs, (k, v) :: kvs, h => by
    simp only [List.flatMap_cons, List.cons_append, List.nil_append, List.cons.injEq] at h
    obtain ⟨h1, h2, h3⟩ := h
    subst h1 h2
    rw [List.map_cons, flatMap_inj2 h3]
theorem tD_disp {K : PySem.W.Frag} {E : WX} {ps : List (M (Bool × D) × M (Bool × D))} (σ : St) (H : Hp) (Q : VK) (h : tD K E (dispM ps) σ H Q) : tDisp (ps.map fun p => (tD K E p.1, tD K E p.2)) σ H Q := by
  obtain ⟨P, B, ia, s, Fs, r, w⟩ := h
  intro p np
  have f0 : Fr P H (upd H p (.dK [])) := Fr.new np r.tr
  -- the new dict is protected while the pairs are made, and in nothing that they make
  have r1 : SR K (fun b => P b ∨ b ∈ [p]) (fun b => B b ∧ b ≠ p) ia s σ (upd H p (.dK [])) Fs := by
    have r0 := (r.new np (o := .dK [])).prot (F := [p]) (fun a m => by rw [List.mem_singleton.mp m, upd_same]; simp) (fun i o d a e n x m => by rw [List.mem_singleton.mp m] at x; exact r.ownTr e n x np)
    exact ⟨r0.len, r0.rep, r0.own, r0.iov, r0.dead, fun j a m => ⟨r0.inB j a m, fun e => r.trF m (e ▸ np)⟩, r0.tr, fun b q => ⟨r0.nb b q, fun e => by rw [e, upd_same] at q; cases q⟩⟩
  refine tPairs_of (rdOps (α := Bool × D) r1 w (fun x s' q cls dx H' rx => ?_) fun ds s' vs H' Gs Fs' q ov fr r' => ?_)
  · obtain ⟨Fs', h1, h2, h3⟩ := rx
    exact q cls dx H' ⟨Fs', f0.trans (h1.mono fun b m => .inl m), ⟨h2.len, h2.rep, fun i o d e n => let ⟨a, F, k1, k2, k3, k4, k5, k6⟩ := h2.own i o d e n; ⟨a, F, k1, k2, k3, k4, fun m => k5 (.inl m), k6⟩, h2.iov, h2.dead, fun j a m => (h2.inB j a m).1, fun b m => h2.tr b (.inl m), fun b m => (h2.nb b m).1⟩, h3⟩
  · intro qs eq
    split at q
    · rename_i kds ek
      split at q
      · rename_i hl
        obtain ⟨G, g1, g2, g3⟩ := ov.reps (allEx _)
        obtain ⟨kvs, k1, k2⟩ := kpairs_rep g1 ek
        obtain ⟨F', m1, m2⟩ := RepK.merge k2 (RepK.nil (K := K) (H := H'))
        have hp : H' p = some (.dK []) := (fr.p p (.inr List.mem_cons_self)).trans upd_same
        have m3 : ∀ b, b ∈ F' → b ∈ G := fun b m => (m2 b m).elim (fun m => by cases m) fun m => m
        have np' : p ∉ F' := fun m => (g3 p (m3 p m)).2 rfl
        refine ⟨hp, kvs, flatMap_inj2 (eq.symm.trans k1), by rw [← k2.length]; exact hl, q (.ref p) _ ?_⟩
        have im : ∀ b o, H' b = some o → Im o → upd H' p (.dK (mergeK [] kvs)) b = some o := fun b o hb hi => by rw [upd_ne fun e => by subst e; rw [hp] at hb; cases hb; exact hi]; exact hb
        have rm : RepM K (upd H' p (.dK (mergeK [] kvs))) (.dct (kmerge [] kds)) p F' := .dct upd_same (RepK.keep im m1 fun b m => upd_ne fun z => np' (z ▸ m))
        have fr2 : Fr P H (upd H' p (.dK (mergeK [] kvs))) := ⟨fun b hb => by
            have hbp : b ≠ p := fun e => r.tr b hb (by rw [e]; exact np)
            rw [upd_ne hbp]
            exact (fr.p b (.inl hb)).trans (upd_ne hbp), fun b o hb hi => im b o (fr.i b o (by rw [upd_ne (ne_of_none hb np)]; exact hb) hi) hi⟩
        have npF : ∀ j, p ∉ Fs' j := fun j m => (r'.inB j p m).2 rfl
        have r2 : SR K P B ia s' σ (upd H' p (.dK (mergeK [] kvs))) Fs' := by
          refine ⟨r'.len, fun j o d e => let ⟨v, h1, h2⟩ := r'.rep j o d e; ⟨v, h1, h2.keep im fun a m => upd_ne fun z => npF j (z ▸ m)⟩,
            fun j o d e n => let ⟨a, F, h1, h2, h3, h4, h5, h6⟩ := r'.own j o d e n; ⟨a, F, h1, h2, h3.keep im fun b m => upd_ne fun z => npF j (by rw [h2]; exact z ▸ m), h4, fun m => h5 (.inl m), h6⟩, r'.iov, r'.dead, fun j a m => (r'.inB j a m).1, fun b m => ?_, fun b m => ?_⟩
          · by_cases hb : b = p
            · subst hb; rw [upd_same]; simp
            · rw [upd_ne hb]; exact r'.tr b (.inl m)
          · by_cases hb : b = p
            · subst hb; rw [upd_same] at m; cases m
            · rw [upd_ne hb] at m; exact (r'.nb b m).1
        have no : NoOwn s' σ (p :: F') := by
          intro j o d a e n x m
          rcases List.mem_cons.mp m with rfl | m
          · obtain ⟨a', F, h1, h2, h3, h4, h5, h6⟩ := r'.own j o d e n
            rw [x] at h1; cases h1
            exact h5 (.inr List.mem_cons_self)
          · exact g2 j o d a e n x (m3 a m)
        refine ⟨p :: F', Fs', rm.rep, fr2, fun b m => ?_, r2.prot rm.rep.tr no, fun _ => ⟨p, F', rfl, rfl, rm, np', fun q => r.tr p q np, npF⟩⟩
        rcases List.mem_cons.mp m with rfl | m
        · exact r.nb _ np
        · exact (g3 b (m3 b m)).1
      · exact q.elim
    · exact q.elim
/-- {k: v, ..}; h: pe_disp (pps_cons ..) .. -/
theorem dm_disp {X : Cx} {E : WX} {e : Expr} {ps : List (M (Bool × D) × M (Bool × D))} (h : PE X e (tDisp (ps.map fun p => (tD X.K E p.1, tD X.K E p.2)))) : PE X e (tD X.K E (dispM ps)) := h.imp tD_disp
/-- {} -/
def emptyM : M (Bool × D) := fun s => .ok (true, .dct []) s
theorem de_dict0 {X : Cx} {E : WX} {pos : Pos} : PE X (.Dict [] [] pos) (tD X.K E emptyM) := pe_dnewK.imp fun σ H Q h => by
  obtain ⟨P, B, ia, s, Fs, r, w⟩ := h
  intro p np
  have rm : RepM X.K (upd H p (.dK [])) (.dct []) p [] := .dct upd_same .nil
  exact w (.ref p) _ ⟨[p], Fs, rm.rep, Fr.new np r.tr, fun b m => by rw [List.mem_singleton.mp m]; exact r.nb _ np, (r.new np).prot rm.rep.tr (NoOwn.cons r np .nil), fun _ => ⟨p, [], rfl, rfl, rm, nofun, fun q => r.tr p q np, fun j m => r.trF m np⟩⟩
end PV

/-! PV: list comprehensions; dict.get; methods of texts. -/
namespace PV
open PySem PySem.Spec L2

def killAll (s : S) : List Nat → S
  | [] => s
  | i :: is => (killAll s is).set i none
def nox {α : Type} (r : Res α) : Res α := match r with
  | .exc _ _ => .stuck
  | r => r
def lcL (t : Tg) (tt : M Bool) (te : M (Bool × D)) (vs : List Nat) : List D → List D → S → Res (List D)
  | [], acc, s => .ok acc s
  | d :: ds, acc, s => match t.put d s with
    | none => .stuck
    | some s1 => (nox (tt s1)).bind fun b s2 => if b = true then (nox (te s2)).bind fun y s3 => if acc.length < sizeLine then lcL t tt te vs ds (acc ++ [y.2]) (killAll s3 vs) else .stuck
      else lcL t tt te vs ds acc (killAll s2 vs)
/-- [te for t in it if tt]; vs: the slots of the comprehension's own names -/
def compM (it : M (List D)) (t : Tg) (tt : M Bool) (te : M (Bool × D)) (vs : List Nat) : M (Bool × D) := fun s => (it s).bind fun ds s1 => (lcL t tt te vs ds [] (killAll s1 vs)).bind fun acc s2 => .ok (true, .lst acc) s2
def yesM : M Bool := fun s => .ok true s
mutual
def Tg.slots : Tg → List Nat
  | .nm i => [i]
  | .tp ts => Tg.slotss ts
def Tg.slotss : List Tg → List Nat
  | [] => []
  | t :: ts => t.slots ++ Tg.slotss ts
end
theorem nox_post {α β : Type} {QX : Exn → S → Prop} {Q : β → S → Prop} {r : Res α} {f : α → S → Res β} (h : Post QX Q ((nox r).bind f)) : Post (fun _ _ => False) (fun a s => Post QX Q (f a s)) r := by
  cases r with
  | ok a s => exact h
  | exc x s => exact h
  | stuck => exact h
theorem killAll_len (s : S) : ∀ vs : List Nat, (killAll s vs).length = s.length
  | [] => rfl
  | v :: vs => by simp [killAll, killAll_len s vs]
theorem killAll_in {s : S} {i : Nat} : ∀ {vs : List Nat}, i ∈ vs → ∀ x, (killAll s vs)[i]? ≠ some (some x)
  | v :: vs, h, x => by
    rw [killAll]
    by_cases hv : i = v
    · subst hv
      intro e
      rw [List.getElem?_set] at e
      simp at e
    · rw [get_set_ne hv]
      rcases List.mem_cons.mp h with e | h
      · exact absurd e hv
      · exact killAll_in h x
theorem killAll_out {s : S} {i : Nat} : ∀ {vs : List Nat}, i ∉ vs → (killAll s vs)[i]? = s[i]?
  | [], _ => rfl
  | v :: vs, h => by
    rw [killAll, get_set_ne fun e => h (by rw [e]; exact List.mem_cons_self), killAll_out fun m => h (List.mem_cons_of_mem _ m)]
theorem wipe_in {σ : St} {i : Nat} (hi : i < σ.length) : ∀ {vs : List Nat}, i ∈ vs → (wipe σ vs)[i]? = some none
  | v :: vs, h => by
    rw [wipe]
    by_cases hv : i = v
    · subst hv
      rw [List.getElem?_set_self (by rw [wipe_length]; exact hi)]
    · rw [List.getElem?_set_ne fun e => hv e.symm]
      rcases List.mem_cons.mp h with e | h
      · exact absurd e hv
      · exact wipe_in hi h
theorem wipe_ext {σ σ2 : St} {vs : List Nat} (hl : σ2.length = σ.length) (h : ∀ j, j ∉ vs → σ2[j]? = σ[j]?) : wipe σ2 vs = wipe σ vs := by
  refine List.ext_getElem? fun j => ?_
  by_cases hj : j ∈ vs
  · by_cases hi : j < σ.length
    · rw [wipe_in (by rw [hl]; exact hi) hj, wipe_in hi hj]
    · rw [List.getElem?_eq_none (by rw [wipe_length, hl]; omega), List.getElem?_eq_none (by rw [wipe_length]; omega)]
  · rw [wipe_out hj, wipe_out hj, h j hj]
section
variable {K : PySem.W.Frag} {P B : Addr → Prop} {ia : Nat → Addr} {s : S} {σ σ' : St} {H H' : Hp} {Fs : Nat → List Addr}
/-- other values in slots that hold nothing -/
theorem SR.cong (r : SR K P B ia s σ H Fs) (hl : σ'.length = σ.length) (h : ∀ (i : Nat) (o : Own) (d : D), s[i]? = some (some (o, d)) → σ'[i]? = σ[i]?) : SR K P B ia s σ' H Fs :=
  ⟨by rw [hl]; exact r.len, fun i o d e => by rw [h i o d e]; exact r.rep i o d e, fun i o d e n => by rw [h i o d e]; exact r.own i o d e n, fun i d e => by rw [h i _ d e]; exact r.iov i d e, r.dead, r.inB, r.tr, r.nb⟩
theorem SR.killAll (r : SR K P B ia s σ H Fs) : ∀ vs : List Nat, ∃ Fs', SR K P B ia (PV.killAll s vs) σ H Fs' ∧ ∀ j a, a ∈ Fs' j → a ∈ Fs j
  | [] => ⟨Fs, r, fun _ _ m => m⟩
  | v :: vs => by
    obtain ⟨Fs', r', h⟩ := r.killAll vs
    by_cases hv : v < (PV.killAll s vs).length
    · refine ⟨_, r'.kill (List.getElem?_eq_getElem hv), fun j a m => ?_⟩
      by_cases hj : j = v
      · rw [if_pos hj] at m; cases m
      · rw [if_neg hj] at m; exact h j a m
    · refine ⟨Fs', ?_, h⟩
      rw [PV.killAll, List.set_eq_of_length_le (by omega)]
      exact r'
end
mutual
theorem put_ok2 {K : PySem.W.Frag} {P B : Addr → Prop} {ia : Nat → Addr} {H : Hp} : ∀ {t : Tg} {d : D} {s s' : S} {σ : St} {Fs : Nat → List Addr} {x : V} {F : List Addr} {Q : St → Hp → Prop}, t.put d s = some s' → SR K P B ia s σ H Fs → Rep K H d x F → (∀ a, a ∈ F → P a) → (∀ a, a ∈ F → B a) →
    (∀ σ' Fs', SR K P B ia s' σ' H Fs' → σ'.length = σ.length → (∀ j, j ∉ t.slots → σ'[j]? = σ[j]?) → Q σ' H) → gT K t x σ H Q
  | .nm i, d, s, s', σ, Fs, x, F, Q, h, r, hr, hp, hb, k => by
    rw [Tg.put] at h
    obtain ⟨y, e1, e2, e3⟩ := putS_inv h
    subst e3
    rw [gT]
    exact k _ _ (r.set hr (r.noOwn hp) hb e1 e2 (by decide) fun n => absurd rfl n) (by simp) fun j hj => List.getElem?_set_ne fun e => hj (by rw [Tg.slots, e]; exact List.mem_cons_self)
  | .tp ts, d, s, s', σ, Fs, x, F, Q, h, r, hr, hp, hb, k => by
    cases d with
    | tup ds =>
      rw [Tg.put] at h
      cases hr with
      | @tup a _ vs F h1 h2 =>
        rw [gT]
        exact ⟨a, vs, rfl, h1, by rw [← h2.length]; exact puts_len h, puts_ok2 h r h2 hp hb fun σ' Fs' r' l f => k σ' Fs' r' l fun j hj => f j (by rw [Tg.slots] at hj; exact hj)⟩
    | _ => simp [Tg.put] at h
theorem puts_ok2 {K : PySem.W.Frag} {P B : Addr → Prop} {ia : Nat → Addr} {H : Hp} : ∀ {ts : List Tg} {ds : List D} {s s' : S} {σ : St} {Fs : Nat → List Addr} {xs : List V} {F : List Addr} {Q : St → Hp → Prop}, Tg.puts ts ds s = some s' → SR K P B ia s σ H Fs → Reps K H ds xs F → (∀ a, a ∈ F → P a) → (∀ a, a ∈ F → B a) →
    (∀ σ' Fs', SR K P B ia s' σ' H Fs' → σ'.length = σ.length → (∀ j, j ∉ Tg.slotss ts → σ'[j]? = σ[j]?) → Q σ' H) → gTs K ts xs σ H Q
  | [], [], s, s', σ, Fs, xs, F, Q, h, r, hr, hp, hb, k => by
    cases hr
    rw [Tg.puts] at h; cases h
    rw [gTs]
    exact ⟨rfl, k σ Fs r rfl fun _ _ => rfl⟩
  | [], _ :: _, _, _, _, _, _, _, _, h, _, _, _, _, _ => by simp [Tg.puts] at h
  | _ :: _, [], _, _, _, _, _, _, _, h, _, _, _, _, _ => by simp [Tg.puts] at h
  | t :: ts, d :: ds, s, s', σ, Fs, xs, F, Q, h, r, hr, hp, hb, k => by
    rw [Tg.puts] at h
    obtain ⟨s1, e1, e2⟩ := Option.bind_eq_some_iff.mp h
    cases hr with
    | @cons _ v F1 _ vs G h1 h2 =>
      rw [gTs]
      refine ⟨v, vs, rfl, put_ok2 e1 r h1 (fun a m => hp a (List.mem_append_left _ m)) (fun a m => hb a (List.mem_append_left _ m)) fun σ1 Fs1 r1 l1 f1 => ?_⟩
      refine puts_ok2 e2 r1 h2 (fun a m => hp a (List.mem_append_right _ m)) (fun a m => hb a (List.mem_append_right _ m)) fun σ2 Fs2 r2 l2 f2 => k σ2 Fs2 r2 (l2.trans l1) fun j hj => ?_
      rw [Tg.slotss] at hj
      rw [f2 j fun m => hj (List.mem_append_right _ m), f1 j fun m => hj (List.mem_append_left _ m)]
end
abbrev EN : WX := fun _ _ _ _ => False
theorem tD_comp {K : PySem.W.Frag} {E : WX} {it : M (List D)} {t : Tg} {tt : M Bool} {te : M (Bool × D)} {vs : List Nat} (hs : ∀ i, i ∈ t.slots → i ∈ vs) (σ : St) (H : Hp) (Q : VK) (h : tD K E (compM it t tt te vs) σ H Q) : tLc (tI K E it) (gT K t) (tT K EN tt) (tD K EN te) vs σ H Q := by
  obtain ⟨P, B, ia, s, Fs, r, w⟩ := h
  refine ⟨P, B, ia, s, Fs, r, (Post.bind w).mono (fun _ _ q => q) fun ds s1 q J H1 P' Fs1 hP fr1 r1 ok p np => ?_⟩
  obtain ⟨inv, i0, keep, turn⟩ := ok
  have q := Post.bind q
  have npP : ¬ P' p := fun h => r1.tr p h np
  have Pne : ∀ {b}, P' b → b ≠ p := fun h e => npP (e ▸ h)
  let QX : Exn → S → Prop := fun x s' => ∀ cls dx H', RX K P B ia s' σ H H' x cls dx → E cls dx σ H'
  let QF : List D → S → Prop := fun acc s2 => ∀ v H', RV K P B ia s2 σ H H' true (.lst acc) v → Q v H'
  let W : Nat → Nat → Hp → Prop := fun i m H' => m + i = ds.length ∧ ∃ st Fs acc vacc F, (∀ i, i ∈ vs → ∀ x, st[i]? ≠ some (some x)) ∧ inv H' ∧ Fr P H H' ∧ H' p = some (.lst vacc) ∧ Reps K H' acc vacc F ∧ (∀ a, a ∈ F → B a ∧ a ≠ p) ∧
    SR K (fun b => (P' b ∨ b = p) ∨ b ∈ F) (fun b => B b ∧ b ≠ p) ia st (wipe σ vs) H' Fs ∧ Post QX QF (lcL t tt te vs (ds.drop i) acc st)
  have toWipe : ∀ {P0 B0 : Addr → Prop} {st : S} {σ0 : St} {H0 : Hp} {F0 : Nat → List Addr}, (∀ i, i ∈ vs → ∀ x, st[i]? ≠ some (some x)) → SR K P0 B0 ia st σ0 H0 F0 → SR K P0 B0 ia st (wipe σ0 vs) H0 F0 := fun hd r0 =>
    r0.cong (wipe_length _ _) fun i o d e => wipe_out fun m => hd i m _ e
  refine ⟨W, ⟨ds.length, by simp, ?_⟩, ?_⟩
  · obtain ⟨Fs2, r2, sub⟩ := r1.killAll vs
    have hd : ∀ i, i ∈ vs → ∀ x, (killAll s1 vs)[i]? ≠ some (some x) := fun i m x => killAll_in m x
    have fr2 : Fr P' H1 (upd H1 p (.lst [])) := Fr.new np r1.tr
    refine ⟨killAll s1 vs, Fs2, [], [], [], hd, keep _ _ i0 fr2, fr1.trans (fr2.mono hP), upd_same, .nil, fun a m => (by cases m), ?_, by simpa using q⟩
    have r3 := toWipe hd (r2.new np (o := .lst []))
    have r4 := r3.prot (F := [p]) (fun a m => by rw [List.mem_singleton.mp m, upd_same]; simp) (fun i o d a e n x m => by
      rw [List.mem_singleton.mp m] at x
      have hi : i ∉ vs := fun m => hd i m _ e
      rw [wipe_out hi] at x
      exact r2.ownTr e n x np)
    exact ⟨r4.len, r4.rep, fun i o d e n => let ⟨a, F, h1, h2, h3, h4, h5, h6⟩ := r4.own i o d e n; ⟨a, F, h1, h2, h3, h4, fun q => h5 (q.elim (fun q => q.imp (fun q => q) fun q => by rw [q]; exact List.mem_cons_self) fun m => by cases m), h6⟩,
      r4.iov, r4.dead, fun j a m => ⟨r4.inB j a m, fun e => r2.trF m (e ▸ np)⟩, fun b q => r4.tr b (q.elim (fun q => q.imp (fun q => q) fun q => by rw [q]; exact List.mem_cons_self) fun m => by cases m), fun b q => ⟨r4.nb b q, fun e => by rw [e, upd_same] at q; cases q⟩⟩
  · rintro i m H2 ⟨em, st, Fs2, acc, vacc, F, hd, i2, fr2, hp, hr, hb, r2, w2⟩
    obtain ⟨go, stop⟩ := turn i H2 i2
    cases e : ds[i]? with
    | none =>
      have hl : ds.length ≤ i := List.getElem?_eq_none_iff.mp e
      rw [List.drop_eq_nil_of_le hl, lcL] at w2
      refine .inl ⟨stop (by omega), w2 (.ref p) H2 ?_⟩
      have r3 : SR K (fun b => (P' b ∨ b = p) ∨ b ∈ F) (fun b => B b ∧ b ≠ p) ia st σ H2 Fs2 := r2.cong (by rw [wipe_length]) fun i o d e => (wipe_out fun m => hd i m _ e).symm
      refine ⟨p :: F, Fs2, .lst hp hr, fr2, fun a m => ?_, ?_, fun _ => ⟨p, F, rfl, rfl, .lst hp hr, fun m => (hb p m).2 rfl, fun q => npP (hP p q), fun j m => (r3.inB j p m).2 rfl⟩⟩
      · rcases List.mem_cons.mp m with rfl | m
        · exact r1.nb _ np
        · exact (hb a m).1
      · have r4 := r3.weak (P' := fun b => P b ∨ b ∈ p :: F) fun b q => q.elim (fun q => .inl (.inl (hP b q))) fun m => (List.mem_cons.mp m).elim (fun e => .inl (.inr e)) .inr
        exact ⟨r4.len, r4.rep, r4.own, r4.iov, r4.dead, fun j a m => (r4.inB j a m).1, r4.tr, fun b q => (r4.nb b q).1⟩
    | some d =>
      obtain ⟨g1, g2⟩ := go d e
      have hi : i < ds.length := (List.getElem?_eq_some_iff.mp e).1
      have ed : ds.drop i = d :: ds.drop (i + 1) := by
        rw [List.drop_eq_getElem_cons hi, (List.getElem?_eq_some_iff.mp e).2]
      rw [ed, lcL] at w2
      refine .inr ⟨g1, fun H' => W (i + 1) (m - 1) H', fun H' hN => ⟨m - 1, by omega, hN⟩, fun x H3 y => ?_⟩
      obtain ⟨hH, Fd, rep, hpd, hbd⟩ := g2 x H3 y
      have fr3 : Fr (fun b => (P' b ∨ b = p) ∨ b ∈ F) H2 H3 := by
        rcases hH with e | ⟨p', o, np', e⟩
        · subst e; exact Fr.refl
        · subst e; exact Fr.new np' r2.tr
      have r3 : SR K (fun b => (P' b ∨ b = p) ∨ b ∈ F) (fun b => B b ∧ b ≠ p) ia st (wipe σ vs) H3 Fs2 := by
        rcases hH with e | ⟨p', o, np', e⟩
        · subst e; exact r2
        · subst e; exact r2.new np'
      split at w2
      · exact w2.elim
      · rename_i s3 e3
        refine put_ok2 e3 r3 rep (fun a m => .inl (.inl (hpd a m))) (fun a m => ⟨hbd a m, Pne (hpd a m)⟩) fun σ4 Fs4 r4 l4 f4 => ?_
        have hw : wipe σ4 vs = wipe σ vs := by
          refine wipe_ext (by rw [l4, wipe_length]) fun j hj => ?_
          rw [f4 j fun m => hj (hs j m), wipe_out hj]
        refine ⟨hw, _, _, ia, s3, Fs4, r4, (nox_post w2).mono (fun _ _ q => q.elim) fun b s5 q5 H5 Fs5 fr5 r5 => ?_⟩
        have fr25 : Fr P H H5 := fr2.trans ((fr3.trans fr5).mono fun b h => .inl (.inl (hP b h)))
        have i5 : inv H5 := keep _ _ i2 ((fr3.trans fr5).mono fun b h => .inl (.inl h))
        have hp5 : H5 p = some (.lst vacc) := ((fr3.trans fr5).p p (.inl (.inr rfl))).trans hp
        have hr5 : Reps K H5 acc vacc F := Reps.keep (fr3.trans fr5).i hr fun a m => (fr3.trans fr5).p a (.inr m)
        cases b with
        | false =>
          rw [if_neg (by decide)] at q5
          refine iteF ?_
          obtain ⟨Fs6, r6, sub⟩ := r5.killAll vs
          have hd6 : ∀ i, i ∈ vs → ∀ x, (killAll s5 vs)[i]? ≠ some (some x) := fun i m x => killAll_in m x
          exact ⟨by omega, killAll s5 vs, Fs6, acc, vacc, F, hd6, i5, fr25, hp5, hr5, hb, by rw [← hw]; exact toWipe hd6 r6, q5⟩
        | true =>
          rw [if_pos rfl] at q5
          refine iteT ⟨_, _, ia, s5, Fs5, r5, (nox_post q5).mono (fun _ _ q => q.elim) fun y s6 q6 yv H6 rv => ?_⟩
          obtain ⟨G, Fs6, k1, k2, k3, k4, k5⟩ := rv
          split at q6
          · rename_i hz
            have hp6 : H6 p = some (.lst vacc) := (k2.p p (.inl (.inr rfl))).trans hp5
            have hr6 : Reps K H6 acc vacc F := Reps.keep k2.i hr5 fun a m => k2.p a (.inr m)
            refine ⟨vacc, hp6, by rw [← hr6.length]; exact hz, ?_⟩
            obtain ⟨Fs7, r7, sub⟩ := k4.killAll vs
            have hd7 : ∀ i, i ∈ vs → ∀ x, (killAll s6 vs)[i]? ≠ some (some x) := fun i m x => killAll_in m x
            have r8 := toWipe hd7 r7
            rw [hw] at r8
            have im : ∀ b o, H6 b = some o → Im o → upd H6 p (.lst (vacc ++ [yv])) b = some o := fun b o hx hi => by rw [upd_ne fun e => by subst e; rw [hp6] at hx; cases hx; exact hi]; exact hx
            have npF : ∀ a, a ∈ F ++ G → a ≠ p := fun a m => (List.mem_append.mp m).elim (fun m => (hb a m).2) fun m => (k3 a m).2
            have hr7 : Reps K (upd H6 p (.lst (vacc ++ [yv]))) (acc ++ [y.2]) (vacc ++ [yv]) (F ++ G) := Reps.keep im (hr6.append (Reps.one k1)) fun a m => upd_ne (npF a m)
            have fr6 : Fr P' H5 (upd H6 p (.lst (vacc ++ [yv]))) := ⟨fun b hb => by rw [upd_ne (Pne hb)]; exact k2.p b (.inl (.inl hb)), fun b o hb hi => im b o (k2.i b o hb hi) hi⟩
            refine ⟨by omega, killAll s6 vs, Fs7, acc ++ [y.2], vacc ++ [yv], F ++ G, hd7, keep _ _ i5 fr6, fr25.trans (fr6.mono hP), upd_same, hr7, fun a m => (List.mem_append.mp m).elim (hb a) (k3 a), ?_, q6⟩
            have r9 : SR K (fun b => (P' b ∨ b = p) ∨ b ∈ F ++ G) (fun b => B b ∧ b ≠ p) ia (killAll s6 vs) (wipe σ vs) H6 Fs7 := r8.weak fun b q => q.elim (fun q => .inl (.inl q)) fun m => (List.mem_append.mp m).elim (fun m => .inl (.inr m)) .inr
            have npS : ∀ j a, a ∈ Fs7 j → a ≠ p := fun j a m => (r9.inB j a m).2
            refine ⟨r9.len, fun j o d e => let ⟨v, h1, h2⟩ := r9.rep j o d e; ⟨v, h1, h2.keep im fun a m => upd_ne (npS j a m)⟩,
              fun j o d e n => let ⟨a, F, h1, h2, h3, h4, h5, h6⟩ := r9.own j o d e n; ⟨a, F, h1, h2, h3.keep im fun b m => upd_ne (npS j b (by rw [h2]; exact m)), h4, h5, h6⟩, r9.iov, r9.dead, r9.inB, fun b q => ?_, fun b q => ?_⟩
            · by_cases hbp : b = p
              · subst hbp; rw [upd_same]; simp
              · rw [upd_ne hbp]; exact r9.tr b q
            · by_cases hbp : b = p
              · subst hbp; rw [upd_same] at q; cases q
              · rw [upd_ne hbp] at q; exact r9.nb b q
          · exact q6.elim
section
variable {X : Cx}
theorem _root_.L2.PTs.imp {ifs : List Expr} {t t' : TT} (h : PTs X ifs t) (q : ∀ σ H Q, t' σ H Q → t σ H Q) : PTs X ifs t' := ⟨fun pins s σ H Q I w => h.run pins s σ H Q I (q σ H Q w)⟩
theorem dts_nil {E : WX} {K : PySem.W.Frag} : PTs X [] (tT K E yesM) := pts_nil.imp fun σ H Q h => by
  obtain ⟨P, B, ia, s, Fs, r, w⟩ := h
  exact w H Fs Fr.refl r
end
/-- a comprehension; h: pe_lc .. -/
theorem dm_comp {X : Cx} {E : WX} {e : Expr} {it : M (List D)} {t : Tg} {tt : M Bool} {te : M (Bool × D)} {vs : List Nat} (h : PE X e (tLc (tI X.K E it) (gT X.K t) (tT X.K EN tt) (tD X.K EN te) vs)) (hs : t.slots.all (fun i => vs.contains i) = true := by rfl) : PE X e (tD X.K E (compM it t tt te vs)) :=
  h.imp (tD_comp fun i m => by simpa using List.all_eq_true.mp hs i m)
/-- y = [..]; h: ps_setLc .. -/
theorem ds_comp {X : Cx} {E : WX} {st : Stmt} {i : Nat} {it : M (List D)} {t : Tg} {tt : M Bool} {te : M (Bool × D)} {vs : List Nat} (h : PS X st (tAsg (tLc (tI X.K E it) (gT X.K t) (tT X.K EN tt) (tD X.K EN te) vs) (gName i))) (hs : t.slots.all (fun i => vs.contains i) = true := by rfl) :
    PS X st (tS X.K E (setM i (compM it t tt te vs))) :=
  h.imp fun Dn σ H w => tD_comp (fun i m => by simpa using List.all_eq_true.mp hs i m) _ _ _ (tS_set Dn σ H w)
end PV

/-! PV: methods of texts, dict.get, chains of comparisons. -/
namespace PV
open PySem PySem.Spec L2

/-- a text, at once -/
def strM (a : Opd) : M (Bool × D) := op1 a fun x s => match x with
  | .str z => .ok (false, .str z) s
  | _ => .stuck
theorem tD_str {K : PySem.W.Frag} {E : WX} {a : Opd} {σ : St} {H : Hp} {Q : VK} (h : tD K E (strM a) σ H Q) : rdO K E a σ H fun x H1 => ∃ i, x = .str i ∧ Q (.str i) H1 := by
  obtain ⟨P, B, ia, s, Fs, r, w⟩ := h
  refine rd1 r ((op1_post w).mono (fun _ _ q => q) fun d s' q x H' F Fs' ov fr r' => ?_)
  split at q
  · exact ⟨_, ov.str_inv, q _ _ (.flat .str fr r')⟩
  · exact q.elim
/-- a method of a text: g of the text and the arguments -/
def methS (g : Str → List D → Option (Bool × D)) (o : Opd) (as : List Opd) : M (Bool × D) := opsM (.ex (strM o) :: as) fun ds s => match ds with
  | .str x :: ds => (match g x ds with
    | some r => .ok r s
    | none => .stuck)
  | _ => .stuck
/-- g is what the rule r asks -/
def OpS (K : PySem.W.Frag) (g : Str → List D → Option (Bool × D)) (r : V → List V → Hp → VK → Prop) : Prop :=
  ∀ {P B : Addr → Prop} {ia : Nat → Addr} {s : S} {σ : St} {H H0 : Hp} {Fs : Nat → List Addr} {x : Str} {os : List Opd} {ds : List D} {vs : List V} {Gs : List (List Addr)} {q : Bool × D} {Q : VK}, SR K P B ia s σ H Fs → OVs K B s σ H os ds vs Gs → Fr P H0 H → g x ds = some q →
    (∀ v H', RV K P B ia s σ H0 H' q.1 q.2 v → Q v H') → r (.str x) vs H Q
theorem rdMeth {K : PySem.W.Frag} {E : WX} {g : Str → List D → Option (Bool × D)} {r : V → List V → Hp → VK → Prop} (hr : OpS K g r) {o : Opd} {as : List Opd} (σ : St) (H : Hp) (Q : VK) (h : tD K E (methS g o as) σ H Q) :
    rdO K E o σ H fun x H1 => ∃ z, x = .str z ∧ rdOs K E as σ H1 fun xs H2 => r (.str z) xs H2 Q := by
  obtain ⟨P, B, ia, s, Fs, R, w⟩ := h
  have key : rdOs K E (.ex (strM o) :: as) σ H (fun vs H' => match vs with | .str z :: xs => r (.str z) xs H' Q | _ => True) := by
    refine rdOps R w (fun _ _ q => q) fun ds s' vs H' Gs Fs' q ov fr r' => ?_
    cases ov with
    | cons o1 _ _ t =>
      split at q
      · rename_i x ds' heq
        cases heq
        rw [o1.str_inv]
        split at q
        · rename_i e; exact hr r' t fr e q
        · exact q.elim
      · exact q.elim
  exact rdO_mono (tD_str key) fun x H1 ⟨z, e, k⟩ => ⟨z, e, k⟩
theorem tD_methB {K : PySem.W.Frag} {E : WX} {g : Str → List D → Option (Bool × D)} {r : V → List V → Hp → VK → Prop} (hr : OpS K g r) {o : Opd} {as : List Opd} (σ : St) (H : Hp) (Q : VK) (h : tD K E (methS g o as) σ H Q) : tBM K "str" r (rdO K E o) (rdOs K E as) σ H Q :=
  rdO_mono (rdMeth hr σ H Q h) fun x H1 ⟨z, e, k⟩ => by subst e; exact ⟨rfl, k⟩
theorem tD_meth1 {K : PySem.W.Frag} {E : WX} {g : Str → List D → Option (Bool × D)} {r : V → List V → Hp → VK → Prop} (hr : OpS K g r) {o a : Opd} (σ : St) (H : Hp) (Q : VK) (h : tD K E (methS g o [a]) σ H Q) : tM1 r (rdO K E o) (rdO K E a) σ H Q :=
  rdO_mono (rdMeth hr σ H Q h) fun x H1 ⟨z, e, k⟩ => by subst e; exact ⟨⟨z, rfl⟩, k⟩
section
variable {X : Cx} {E : WX} {e : Expr}
theorem dm_methB {g : Str → List D → Option (Bool × D)} {r : V → List V → Hp → VK → Prop} {o : Opd} {as : List Opd} (h : PE X e (tBM X.K "str" r (rdO X.K E o) (rdOs X.K E as))) (hr : OpS X.K g r) : PE X e (tD X.K E (methS g o as)) := h.imp (tD_methB hr)
theorem dm_meth1 {g : Str → List D → Option (Bool × D)} {r : V → List V → Hp → VK → Prop} {o a : Opd} (h : PE X e (tM1 r (rdO X.K E o) (rdO X.K E a))) (hr : OpS X.K g r) : PE X e (tD X.K E (methS g o [a])) := h.imp (tD_meth1 hr)
end
/-- x.find(y, i) -/
def findD (x : Str) : List D → Option (Bool × D)
  | [.str y, .int i] => some (false, .int (Txt.find3 x y i))
  | _ => none
theorem ops_find {K : PySem.W.Frag} : OpS K findD fun x xs H Q => ∃ (a b : Str) (i : Int), x = .str a ∧ xs = [.str b, .int i] ∧ Q (.int (Txt.find3 a b i)) H := by
  intro P B ia s σ H H0 Fs x os ds vs Gs q Q R ov fr e k
  unfold findD at e
  split at e
  · cases e
    cases ov with
    | cons o1 _ _ t =>
      cases t with
      | cons o2 _ _ t =>
        cases t
        exact ⟨_, _, _, rfl, by rw [o1.str_inv, o2.int_inv], k _ _ (.flat .int fr R)⟩
  · cases e
/-- texts of a list -/
def txts : List D → Option (List Str)
  | [] => some []
  | .str x :: ds => (txts ds).map fun xs => x :: xs
  | _ => none
theorem Reps.txts {K : PySem.W.Frag} {H : Hp} : ∀ {ds : List D} {vs : List V} {F : List Addr} {xs : List Str}, Reps K H ds vs F → PV.txts ds = some xs → vs = xs.map V.str ∧ F = []
  | [], _, _, _, h, e => by cases h; cases e; exact ⟨rfl, rfl⟩
  | d :: ds, _, _, _, h, e => by
    cases h with
    | cons h1 h2 =>
      cases h1 with
      | str =>
        rw [PV.txts] at e
        obtain ⟨xs', e1, e2⟩ := Option.map_eq_some_iff.mp e
        subst e2
        obtain ⟨h3, h4⟩ := h2.txts e1
        exact ⟨by rw [h3]; rfl, by rw [h4]; rfl⟩
      | _ => cases e
theorem reps_txts {K : PySem.W.Frag} {H : Hp} : ∀ xs : List Str, Reps K H (xs.map D.str) (xs.map V.str) []
  | [] => .nil
  | x :: xs => by simpa using Reps.cons (F := []) Rep.str (reps_txts xs)
/-- sep.join(xs) -/
def joinD (x : Str) : List D → Option (Bool × D)
  | [.lst ds] => (txts ds).bind fun ys => if (ys.map (·.length)).sum + ys.length * x.length ≤ 16777216 then some (false, .str (Txt.join x ys)) else none
  | [.tup ds] => (txts ds).bind fun ys => if (ys.map (·.length)).sum + ys.length * x.length ≤ 16777216 then some (false, .str (Txt.join x ys)) else none
  | _ => none
theorem ops_join {K : PySem.W.Frag} : OpS K joinD fun x xs H Q => ∃ a p, ∃ ys : List Str, x = .str a ∧ xs = [.ref p] ∧ (SqL K H p (ys.map V.str) ∨ SqT K H p (ys.map V.str)) ∧ (ys.map (·.length)).sum + ys.length * a.length ≤ 16777216 ∧ Q (.str (Txt.join a ys)) H := by
  intro P B ia s σ H H0 Fs x os ds vs Gs q Q R ov fr e k
  unfold joinD at e
  split at e
  · obtain ⟨ys, e1, e2⟩ := Option.bind_eq_some_iff.mp e
    split at e2
    · rename_i hz
      cases e2
      cases ov with
      | cons o1 _ _ t =>
        cases t
        obtain ⟨a, ws, G, rfl, h1, h2, _, _⟩ := o1.lst_inv
        obtain ⟨rfl, _⟩ := h2.txts e1
        exact ⟨_, _, ys, rfl, rfl, .inl (SqL.of h1), hz, k _ _ (.flat .str fr R)⟩
    · cases e2
  · obtain ⟨ys, e1, e2⟩ := Option.bind_eq_some_iff.mp e
    split at e2
    · rename_i hz
      cases e2
      cases ov with
      | cons o1 _ _ t =>
        cases t
        obtain ⟨a, ws, rfl, h1, h2, _⟩ := o1.tup_inv
        obtain ⟨rfl, _⟩ := h2.txts e1
        exact ⟨_, _, ys, rfl, rfl, .inr h1, hz, k _ _ (.flat .str fr R)⟩
    · cases e2
  · cases e
/-- x.split(y) -/
def splitD (x : Str) : List D → Option (Bool × D)
  | [.str y] => if (y.length == 0) = false ∧ x.length + 2 ≤ sizeLine then some (true, .lst ((Txt.split x y).map D.str)) else none
  | _ => none
theorem ops_split {K : PySem.W.Frag} : OpS K splitD fun x xs H Q => ∃ a b, x = .str a ∧ xs = [.str b] ∧ (b.length == 0) = false ∧ a.length + 2 ≤ sizeLine ∧ rNewStrs (Txt.split a b) H Q := by
  intro P B ia s σ H H0 Fs x os ds vs Gs q Q R ov fr e k
  unfold splitD at e
  split at e
  · split at e
    · rename_i hz
      cases e
      cases ov with
      | cons o1 _ _ t =>
        cases t
        exact ⟨_, _, rfl, by rw [o1.str_inv], hz.1, hz.2, fun p np => k _ _ (.lst (reps_txts _) .nil (fun _ m => nomatch m) fr R np)⟩
    · cases e
  · cases e

/-! ### d.get(k, x) at a slot -/
def isDct (s : S) (i : Nat) : Bool := match s[i]? with
  | some (some (_, .dct _)) => true
  | _ => false
def dgetM (i : Nat) (k x : M (Bool × D)) : M (Bool × D) := fun s => if isDct s i = true then opsM [.ex k, .ex x] (fun ds s1 => match s1[i]?, ds with
  | some (some (_, .dct kds)), [kk, y] => (match kk.key with
    | some key => .ok (false, (kget kds key).getD y) s1
    | none => .stuck)
  | _, _ => .stuck) s else .stuck
theorem tD_dget {K : PySem.W.Frag} {E : WX} {i : Nat} {k x : M (Bool × D)} (σ : St) (H : Hp) (Q : VK) (h : tD K E (dgetM i k x) σ H Q) : tDGet2 (tVar i) (tD K E k) (tD K E x) σ H Q := by
  obtain ⟨P, B, ia, s, Fs, R, w⟩ := h
  unfold dgetM at w
  split at w
  · rename_i hd
    unfold isDct at hd
    split at hd
    · rename_i o kds e
      obtain ⟨v, F0, hv, ov⟩ := R.opd e
      obtain ⟨a, kvs, G0, rfl, h1, _⟩ := ov.dct_inv
      refine ⟨.ref a, hv, a, rfl, .inl ⟨kvs, .inl h1⟩, ?_⟩
      have key : rdOs K E [.ex k, .ex x] σ H (fun vs H' => match vs with | [y, z] => ∃ o, DGet H' a y o ∧ Q (o.getD z) H' | _ => False) := by
        refine rdOps R w (fun _ _ q => q) fun ds s' vs H' Gs Fs' q ovs fr r' => ?_
        split at q
        · rename_i o' kds' kk y e1
          split at q
          · rename_i key ek
            cases ovs with
            | cons o1 n1 _ t =>
              cases t with
              | cons o2 n2 _ t =>
                cases t
                obtain ⟨v', F1, hv', ov'⟩ := r'.opd e1
                rw [hv] at hv'; cases hv'
                obtain ⟨a', kvs', G1, ea, h1', h2', no, ib⟩ := ov'.dct_inv
                cases ea
                refine ⟨valV kvs' key, .inl ⟨kvs', key, .inl h1', o1.rep.key ek, rfl⟩, ?_⟩
                rcases h2'.get key with ⟨q1, q2⟩ | ⟨d', w', G2, q1, q2, q3, q4⟩
                · rw [q1] at q; rw [q2]
                  exact q _ _ (.part o2.rep (n2 rfl) o2.inB fr r')
                · rw [q1] at q; rw [q2]
                  exact q _ _ (.part q3 (no.sub q4) (fun b m => ib b (q4 b m)) fr r')
          · exact q.elim
        · exact q.elim
      exact key
    · cases hd
  · exact w.elim
theorem dm_dget {X : Cx} {E : WX} {e : Expr} {i : Nat} {k x : M (Bool × D)} (h : PE X e (tDGet2 (tVar i) (tD X.K E k) (tD X.K E x))) : PE X e (tD X.K E (dgetM i k x)) := h.imp tD_dget

/-! ### a < b < c -/
theorem tD_chain {K : PySem.W.Frag} {E : WX} {r r' : R2} {g g' : D → D → Option (Bool × D)} {fa fb fc : M (Bool × D)} (hg : OpD K g r) (hg' : OpD K g' r') (σ : St) (H : Hp) (Q : VK) (h : tD K E (chainM g g' fa fb fc) σ H Q) : tChain r r' (tD K E fa) (tD K E fb) (tD K E fc) σ H Q := by
  obtain ⟨P, B, ia, s, Fs, R, w⟩ := h
  refine ⟨P, B, ia, s, Fs, R, (Post.bind w).mono (fun _ _ q => q) fun x s1 q v H1 rv => ?_⟩
  obtain ⟨F, Fs1, h1, h2, h3, h4, h5⟩ := rv
  refine ⟨_, B, ia, s1, Fs1, h4, (Post.bind q).mono (fun y s2 q cls dx H2 rx => q cls dx H2 (rx.weak h2 fun b m => .inl m)) fun y s2 q v2 H2 rv2 => ?_⟩
  obtain ⟨G, Fs2, g1, g2, g3, g4, g5⟩ := rv2
  have f02 : Fr P H H2 := h2.trans (g2.mono fun b m => .inl m)
  have r2 : SR K P B ia s2 σ H2 Fs2 := g4.weak fun b m => .inl (.inl m)
  have o1 : OV K B s2 σ H2 x.2 v F := ⟨h1.keep g2.i fun a m => g2.p a (.inr m), h3, .inl (g4.noOwn fun a m => .inl (.inr m))⟩
  have o2 : OV K B s2 σ H2 y.2 v2 G := ⟨g1, g3, .inl (g4.noOwn fun a m => .inr m)⟩
  split at q
  · rename_i z eg
    refine hg (g4.weak (P' := fun b => P b ∨ b ∈ G) fun b m => m.elim (fun m => .inl (.inl m)) .inr) o1 o2 (H0 := H2) Fr.refl eg fun w H3 rv3 => ?_
    obtain ⟨F3, Fs3, k1, k2, k3, k4, k5⟩ := rv3
    have ew : w = .bl true := by cases k1; rfl
    refine ⟨true, ew, iteT ⟨_, B, ia, s2, Fs3, k4.weak (P' := fun b => P b ∨ b ∈ G) fun b m => .inl m, (Post.bind q).mono (fun y s4 q cls dx H4 rx => q cls dx H4 (rx.weak (f02.trans (k2.mono fun b m => .inl m)) fun b m => .inl m)) fun y3 s4 q v4 H4 rv4 => ?_⟩⟩
    obtain ⟨F4, Fs4, m1, m2, m3, m4, m5⟩ := rv4
    split at q
    · rename_i e4
      exact hg' (m4.weak fun b m => .inl (.inl m)) ⟨(g1.keep k2.i fun a m => k2.p a (.inr m)).keep m2.i fun a m => m2.p a (.inr m), g3, .inl (m4.noOwn fun a m => .inl (.inr m))⟩ ⟨m1, m3, .inl (m4.noOwn fun a m => .inr m)⟩ (f02.trans ((k2.mono fun b m => .inl m).trans (m2.mono fun b m => .inl m))) e4 q
    · exact q.elim
  · rename_i z eg
    refine hg r2 o1 o2 f02 eg fun w H3 rv3 => ?_
    have ew : w = .bl false := by obtain ⟨F3, Fs3, k1, _⟩ := rv3; cases k1; rfl
    refine ⟨false, ew, iteF (q _ _ ?_)⟩
    obtain ⟨F3, Fs3, k1, k2, k3, k4, k5⟩ := rv3
    exact .flat .bl k2 (k4.weak fun b m => .inl m)
  · exact q.elim
theorem de_chain {X : Cx} {E : WX} {a b c : Expr} {op op' : CmpOp} {r r' : R2} {g g' : D → D → Option (Bool × D)} {fa fb fc : M (Bool × D)} {pos : Pos} (ho : OpR X (compareOp op) r) (ho' : OpR X (compareOp op') r') (hg : OpD X.K g r) (hg' : OpD X.K g' r') (ha : PE X a (tD X.K E fa)) (hb : PE X b (tD X.K E fb)) (hc : PE X c (tD X.K E fc))
    (hm : lastMarks [op, op'] [b, c] = false := by with_unfolding_all rfl) : PE X (.Compare a [op, op'] [b, c] pos) (tD X.K E (chainM g g' fa fb fc)) := (pe_chain ho ho' ha hb hc hm).imp (tD_chain hg hg')
end PV

/-! PV: what a printed text leans on: the module's constants, the defs' promises by level, what is not walked. -/
namespace PV
open PySem PySem.Spec L2
def stkM {α : Type} : M α := fun _ => .stuck
theorem ds_never {X : Cx} {E : WX} {st : Stmt} : PS X st (tS X.K E stkM) := ps_never.imp fun Dn σ H h => by
  obtain ⟨P, B, ia, s, Fs, r, w⟩ := h
  exact w.elim

/-- == of two of a kind at once; else as data -/
def eqS (neg : Bool) : D → D → Option (Bool × D)
  | .int i, .int j => some (false, .bl (if neg then !decide (i = j) else decide (i = j)))
  | .str i, .str j => some (false, .bl (if neg then !decide (i = j) else decide (i = j)))
  | .bl i, .bl j => some (false, .bl (if neg then !decide (i = j) else decide (i = j)))
  | x, y => eqDD neg x y
theorem opd_eqS {K : PySem.W.Frag} : OpD K (eqS false) (fun x y H Q => rEq x y H Q ∨ rEqD K x y H Q) := by
  intro P B ia s σ H H0 Fs dx dy q x y F G Q R o1 o2 fr e k
  unfold eqS at e
  split at e
  · cases e
    rw [o1.int_inv, o2.int_inv]
    refine .inl ⟨rfl, ?_⟩
    have := k _ _ (RV.flat .bl fr R)
    simpa using this
  · cases e
    rw [o1.str_inv, o2.str_inv]
    refine .inl ⟨rfl, ?_⟩
    have := k _ _ (RV.flat .bl fr R)
    simpa using this
  · cases e
    rw [o1.bl_inv, o2.bl_inv]
    refine .inl ⟨rfl, ?_⟩
    have := k _ _ (RV.flat .bl fr R)
    simpa using this
  · exact .inr (opd_eq R o1 o2 fr e k)
theorem opd_neS {K : PySem.W.Frag} : OpD K (eqS true) (fun x y H Q => rNe x y H Q ∨ rNeD K x y H Q) := by
  intro P B ia s σ H H0 Fs dx dy q x y F G Q R o1 o2 fr e k
  unfold eqS at e
  split at e
  · cases e
    rw [o1.int_inv, o2.int_inv]
    refine .inl ⟨rfl, ?_⟩
    have := k _ _ (RV.flat .bl fr R)
    simpa using this
  · cases e
    rw [o1.str_inv, o2.str_inv]
    refine .inl ⟨rfl, ?_⟩
    have := k _ _ (RV.flat .bl fr R)
    simpa using this
  · cases e
    rw [o1.bl_inv, o2.bl_inv]
    refine .inl ⟨rfl, ?_⟩
    have := k _ _ (RV.flat .bl fr R)
    simpa using this
  · exact .inr (opd_ne R o1 o2 fr e k)
theorem or_eqS {X : Cx} (hu : X.A.units + 64 < cLine) : OpR X (compareOp .Eq) (fun x y H Q => rEq x y H Q ∨ rEqD X.K x y H Q) := OpR.or op_eq (op_eqD hu)
theorem or_neS {X : Cx} (hu : X.A.units + 64 < cLine) : OpR X (compareOp .NotEq) (fun x y H Q => rNe x y H Q ∨ rNeD X.K x y H Q) := OpR.or op_ne (op_neD hu)
/-- a bool as a test -/
def truB (f : M (Bool × D)) : M Bool := fun s => (f s).bind fun r s' => match r.2 with
  | .bl b => .ok b s'
  | _ => .stuck
theorem tTest_of {K : PySem.W.Frag} {E : WX} {f : M (Bool × D)} {t : TE} (ht : ∀ σ H Q, tD K E f σ H Q → t σ H Q) (σ : St) (H : Hp) (Q : Bool → Hp → Prop) (h : tT K E (truB f) σ H Q) : tTest t σ H Q := by
  obtain ⟨P, B, ia, s, Fs, r, w⟩ := h
  refine ht _ _ _ ⟨P, B, ia, s, Fs, r, (Post.bind w).mono (fun _ _ q => q) fun a s' q v H' rv => ?_⟩
  obtain ⟨fr, d⟩ := a
  obtain ⟨F, Fs', ov, f1, r'⟩ := rv.ov
  cases d with
  | bl b => exact ⟨b, ov.bl_inv, q H' Fs' f1 r'⟩
  | _ => exact q.elim
section
variable {X : Cx} {E : WX} {a b c : Expr} {oa ob : Opd} {pos : Pos}
theorem dt_cmp {op : CmpOp} {g : D → D → Option (Bool × D)} {r : R2} (ho : OpR X (compareOp op) r) (hd : OpD X.K g r) (ha : PE X a (rdO X.K E oa)) (hb : PE X b (rdO X.K E ob)) (hm : behindInMarks op b = false) : PT X (.Compare a [op] [b] pos) (tT X.K E (truB (binM g oa ob))) :=
  (pt_cmpR ho ha hb hm).imp (tTest_of (tD_op hd))
theorem dt_chain {op op' : CmpOp} {r r' : R2} {g g' : D → D → Option (Bool × D)} {fa fb fc : M (Bool × D)} (ho : OpR X (compareOp op) r) (ho' : OpR X (compareOp op') r') (hg : OpD X.K g r) (hg' : OpD X.K g' r') (ha : PE X a (tD X.K E fa)) (hb : PE X b (tD X.K E fb)) (hc : PE X c (tD X.K E fc))
    (hm : lastMarks [op, op'] [b, c] = false := by with_unfolding_all rfl) : PT X (.Compare a [op, op'] [b, c] pos) (tT X.K E (truB (chainM g g' fa fb fc))) := (pt_chain ho ho' ha hb hc hm).imp (tTest_of (tD_chain hg hg'))
end
/-- the module's x holds what d says, and nobody changes it -/
def Gc (K : PySem.W.Frag) (mg : Str → Option Value) (x : Str) (d : D) : Prop := ∃ (u : Value) (v : V), mg x = some u ∧ RelV v u ∧ ∀ H, Rep K H d v []
section
variable {K : PySem.W.Frag} {mg : Str → Option Value} {x : Str}
theorem Gc.str {z : Str} (h : ∃ t, mg x = some (.str z t)) : Gc K mg x (.str z) := let ⟨t, e⟩ := h; ⟨_, .str z, e, ⟨t, rfl⟩, fun _ => .str⟩
theorem Gc.int {i : Int} (h : ∃ t, mg x = some (.int i t)) : Gc K mg x (.int i) := let ⟨t, e⟩ := h; ⟨_, .int i, e, ⟨t, rfl⟩, fun _ => .int⟩
theorem reps_strs {H : Hp} : ∀ xs : List Str, Reps K H (xs.map D.str) (xs.map V.str) []
  | [] => .nil
  | y :: ys => by
    have h := Reps.cons (Rep.str (K := K) (H := H) (x := y)) (reps_strs (H := H) ys)
    exact h
theorem Gc.strs {a : Addr} {xs : List Str} (h : mg x = some (.ref a)) (s : ∀ H, SqT K H a (xs.map V.str)) : Gc K mg x (.tup (xs.map D.str)) := ⟨_, .ref a, h, rfl, fun H => .tup (s H) (reps_strs xs)⟩
end
theorem de_glo {X : Cx} {E : WX} {x : Str} {d : D} {pos : Pos} (h : Gc X.K X.mg x d) (hg : Gl X x := by rfl) (hd : (x == ("__debug__" : Str)) = false := by decide) : PE X (.Name x pos) (tD X.K E (constM d)) := by
  obtain ⟨u, v, h1, h2, h3⟩ := h
  exact de_const (pe_glob hg h1 h2 hd) h3
theorem de_ty {X : Cx} {E : WX} {x : Str} {n : String} {pos : Pos} (h : X.mg x = none) (hg : Gl X x := by rfl) (hv : bootBuiltins x = some (.type n) := by rfl) (hn : x ≠ "__name__" := by decide) (hd : (x == ("__debug__" : Str)) = false := by decide) : PE X (.Name x pos) (tD X.K E (constM (.ty n))) :=
  de_const (v := .ty n) (pe_bltn hg h hv rfl hn hd) fun _ => .ty
/-- the def x keeps its promise by F at level k -/
def Kn (P : Program) (w : World) (K : PySem.W.Frag) (mg : Str → Option Value) (base : Heap) (k : Nat) (x : Str) (ps : List Str) (ios : List Nat) (F : FS) : Prop :=
  ∃ (f : Addr) (fd : FuncData), mg x = some (.ref f) ∧ PySem.W.keepIn K (.ref f) = true ∧ Binds K fd ps [] ∧ FnOk P w K mg base (L2.CX P w) k f fd ps (spF K ios ps.length F)
def stkF : FS := fun _ => .stuck
section
variable {P : Program} {w : World} {K : PySem.W.Frag} {mg : Str → Option Value} {base : Heap} {k : Nat} {x : Str} {ps : List Str} {ios : List Nat} {f : Addr} {fd : FuncData} {F : FS}
theorem Kn.zero (h1 : mg x = some (.ref f)) (h2 : PySem.W.keepIn K (.ref f) = true) (h3 : Binds K fd ps []) : Kn P w K mg base k x ps ios stkF :=
  ⟨f, fd, h1, h2, h3, fun vs H Q E h => h.1, fun A outer s H args us vs Q E hr h0 hb hv h => by
    obtain ⟨_, ds, Fa, _, _, _, _, h⟩ := h
    exact h.elim⟩
end
theorem de_callK {X : Cx} {E : WX} {k : Nat} {x : Str} {p pos : Pos} {e : Expr} {es : List Expr} {ps : List Str} {ios : List Nat} {F : FS} {os : List Opd} (G : Kn X.prog X.w X.K X.mg X.base k x ps ios F) (hr : Room k X.A) (tk : Takes X E)
    (ha : PAd X E (e :: es) os) (hg : Gl X x := by rfl) (hio : ioPos os 0 = ios := by rfl) (hn : os.length = ps.length := by rfl) (hdb : (x == ("__debug__" : Str)) = false := by decide) (he : starEach (e :: es) X.env = (false, eval e X.env) :: starEach es X.env := by rfl) (hpl : (backTo pos (starEach es X.env)).any (·.1) = false := by rfl) :
    PE X (.Call (.Name x p) (e :: es) [] pos) (tD X.K E (callM F os)) := by
  obtain ⟨f, fd, h1, h2, h3, h4⟩ := G
  exact de_call h4 hr hg h1 h2 h3 tk ha hio hn hdb he hpl
theorem sq_fz {K : PySem.W.Frag} {H : Hp} {a : Addr} {vs : List V} (h : SqL K H a vs) (o : Only H) : Fz K H a vs := by
  rcases h with (h | ⟨u, h⟩) | h
  · rcases o a with e | ⟨u, xs, e⟩
    · rw [h] at e; cases e
    · rw [h] at e; cases e
  · exact .inl ⟨u, h⟩
  · exact .inr h
theorem reps_ints {K : PySem.W.Frag} {H : Hp} : ∀ xs : List Int, Reps K H (xs.map D.int) (xs.map V.int) []
  | [] => .nil
  | y :: ys => by
    have h := Reps.cons (Rep.int (K := K) (H := H) (i := y)) (reps_ints (H := H) ys)
    exact h
/-- a law's promise from its function -/
theorem law_sp {K : PySem.W.Frag} {F : FS} {ns : List Int} (h : ∃ fr, F [.fro (ns.map .int)] = .ret fr (.bl true) []) {H : Hp} {a : Addr} (o : Only H) (q : SqL K H a (ns.map V.int)) :
    spF K [] 1 F [.ref a] H (fun v _ => v = .bl true) fun _ _ _ => False := by
  refine ⟨rfl, [.fro (ns.map .int)], fun _ => [], rfl, fun i d e => ?_, fun _ _ => rfl, fun j m => (nomatch m), ?_⟩
  · cases i with
    | zero => cases e; exact ⟨_, rfl, .lsz (sq_fz q o) (reps_ints ns)⟩
    | succ i => simp at e
  · obtain ⟨fr, e⟩ := h
    rw [e]
    intro v H' G Go fv
    have r := fv.rep
    cases r
    rfl
theorem cx_no {P : Program} {w : World} (H : Hp) (s : Shared) (e : Value) (s' : Shared) (h : L2.CX P w [] H s (fun _ _ _ => False) e s') : False := by
  obtain ⟨_, _, _, _, _, _, _, _, _, _, _, _, z⟩ := h
  exact z
/-- the law's end: its def keeps the promise by f, f says True -/
theorem walk_pv {l : PySem.W.OpenLaw} {k : Nat} {q : Program} {loose : List Str} {XP : (Str → Option Value) → Heap → Prop} {YP : World → Heap → Prop} {d : DefRec} {x : Str} (most : l.most = some 63) (nodef : d.params.defaults = []) (room : Room k PySem.callerA)
    (all : ∀ (w : World) (mg : Str → Option Value) (fa : Addr) (h : Heap), YP w h → h.Ns mainGlobals mg → mg d.name = some (.ref fa) → ∃ (K : PySem.W.Frag) (fd : FuncData) (f : FS), K.In h ∧ (∀ (s : Shared) (u : Value), BindsTo s fd ⟨[u], []⟩ [(x, u)]) ∧
      (∀ ns : List Int, ns.length ≤ 63 → (∀ i ∈ ns, Builtin.Int.intBits i ≤ 1048576) → ∃ fr, f [.fro (ns.map .int)] = .ret fr (.bl true) []) ∧ ∀ base : Heap, K.In base → base.Ns mainGlobals mg → FnOk l.prog w K mg base (L2.CX l.prog w) k fa fd [x] (spF K [] 1 f)) :
    PySem.W.WalkO q loose XP YP l.row.toRowW d [] (fun f vs => PySem.call f vs) := by
  refine Att.attach_callB most nodef fun w _ s1 mg _ fa _ _ _ _ a _ ns gr yy _ _ _ i4 i5 i6 i7 i8 i9 => ?_
  obtain ⟨K, fd, f, kin, bnd, val, keeps⟩ := all w mg fa _ yy gr.T.g i4
  exact law_call kin gr.T.g gr.T.b gr.T.builtins gr.T.nolimit i9 i5 i6 (Nat.le_trans i7 (by decide)) room keeps bnd (fun _ only sq => law_sp (val ns i7 i8) only sq) fun H e s' z => cx_no H s1 e s' z
end PV

/-! PV: the tape of the laws' draws. -/
namespace PV
open PySem PySem.Spec L2
noncomputable def tapeB : M Fl :=
  (seqM (setM 1 (compM (itM (varM 0)) (.nm 3) yesM (unM absD (.ex (unM toInt (.sl 3)))) [3]))
    (seqM (setM 2 (constM (.int 7)))
    (seqM (forM (itM (varM 1)) (.nm 3) (setM 2 (binM modD (.ex (unM toInt (.ex (binM addD (.ex (binM mulD (.sl 2) (.ex (constM (.int 31))))) (.sl 3))))) (.ex (constM (.int 2147483647))))))
    (retM (dispM [((constM (.str "cells")), (varM 1)), ((constM (.str "at")), (constM (.int 0))), ((constM (.str "left")), (constM (.int 0))), ((constM (.str "seed")), (varM 2)), ((constM (.str "salt")), (constM (.int 0)))])))))
noncomputable def takeA : M Fl :=
  (iteM (andM (truB (binM (eqS false) (.ex (binM ixD (.sl 0) (.ex (constM (.str "left"))))) (.ex (constM (.int 0))))) (truB (binM ltD (.ex (binM ixD (.sl 0) (.ex (constM (.str "at"))))) (.ex (unM lenD (.ex (binM ixD (.sl 0) (.ex (constM (.str "cells")))))))))) (seqM (setItM 0 (constM (.str "left")) (binM ixD (.ex (binM ixD (.sl 0) (.ex (constM (.str "cells"))))) (.ex (binM ixD (.sl 0) (.ex (constM (.str "at")))))))
    (setItM 0 (constM (.str "at")) (binM addD (.ex (binM ixD (.sl 0) (.ex (constM (.str "at"))))) (.ex (constM (.int 1)))))) nxM)
noncomputable def takeC : M Fl :=
  (seqM (iteM (truB (binM gtD (.ex (binM ixD (.sl 0) (.ex (constM (.str "left"))))) (.ex (constM (.int 0))))) (seqM (setM 2 (binM modD (.ex (unM toInt (.ex (binM ixD (.sl 0) (.ex (constM (.str "left"))))))) (.sl 1)))
    (seqM (setItM 0 (constM (.str "left")) (binM divD (.ex (binM ixD (.sl 0) (.ex (constM (.str "left"))))) (.sl 1)))
    (retM (moveM 2)))) nxM)
    (seqM (setItM 0 (constM (.str "salt")) (binM addD (.ex (binM ixD (.sl 0) (.ex (constM (.str "salt"))))) (.ex (constM (.int 1)))))
    (seqM (setM 3 (binM modD (.ex (unM toInt (.ex (binM addD (.ex (binM mulD (.ex (binM ixD (.sl 0) (.ex (constM (.str "seed"))))) (.ex (constM (.int 48271))))) (.ex (binM mulD (.ex (binM ixD (.sl 0) (.ex (constM (.str "salt"))))) (.ex (constM (.int 69621))))))))) (.ex (constM (.int 2147483647)))))
    (seqM (setM 3 (binM modD (.ex (unM toInt (.ex (binM addD (.ex (binM addD (.ex (binM mulD (.sl 3) (.sl 3))) (.ex (binM mulD (.ex (binM ixD (.sl 0) (.ex (constM (.str "salt"))))) (.ex (constM (.int 40692))))))) (.ex (constM (.int 12345))))))) (.ex (constM (.int 2147483399)))))
    (retM (binM modD (.ex (unM toInt (.sl 3))) (.sl 1)))))))
noncomputable def takeB : M Fl := seqM takeA takeC
/-- the tape as a value -/
def tpD (cs : List D) (at_ left seed salt : Int) : D := .dct [(.inr "cells", .lst cs), (.inr "at", .int at_), (.inr "left", .int left), (.inr "seed", .int seed), (.inr "salt", .int salt)]
section
variable {cs : List D} {a l e t x : Int}
theorem tp_cells : ixD (tpD cs a l e t) (.str "cells") = some (false, .lst cs) := by rfl
theorem tp_at : ixD (tpD cs a l e t) (.str "at") = some (false, .int a) := by rfl
theorem tp_left : ixD (tpD cs a l e t) (.str "left") = some (false, .int l) := by rfl
theorem tp_seed : ixD (tpD cs a l e t) (.str "seed") = some (false, .int e) := by rfl
theorem tp_salt : ixD (tpD cs a l e t) (.str "salt") = some (false, .int t) := by rfl
theorem st_at : setD (tpD cs a l e t) (.str "at") (.int x) = some (tpD cs x l e t) := by rfl
theorem st_left : setD (tpD cs a l e t) (.str "left") (.int x) = some (tpD cs a x e t) := by rfl
theorem st_salt : setD (tpD cs a l e t) (.str "salt") (.int x) = some (tpD cs a l e x) := by rfl
end
end PV

/-! PV: how the terms run: rows for simp. -/
namespace PV
open PySem PySem.Spec L2
/-- a sign of f, so that simp leaves f alone until its turn comes -/
structure Tok {α β : Type} (f : α → S → Res β) : Type where
def Res.bd {α β : Type} (r : Res α) (f : α → S → Res β) (_ : Tok f) : Res β := r.bind f
@[simp ↓] theorem bind_bd {α β : Type} (r : Res α) (f : α → S → Res β) : r.bind f = r.bd f ⟨⟩ := rfl
@[simp] theorem bd_ok {α β : Type} (a : α) (s : S) (f : α → S → Res β) (t : Tok f) : (Res.ok a s).bd f t = f a s := rfl
@[simp] theorem bd_exc {α β : Type} (x : Exn) (s : S) (f : α → S → Res β) (t : Tok f) : (Res.exc x s : Res α).bd f t = .exc x s := rfl
@[simp] theorem bd_stuck {α β : Type} (f : α → S → Res β) (t : Tok f) : (Res.stuck : Res α).bd f t = .stuck := rfl
section
variable {s : S}
@[simp] theorem gd_True : gd True = true := gd_yes trivial
@[simp] theorem gd_False : gd False = false := by
  cases h : gd False with
  | false => rfl
  | true => exact (gd_iff.mp h).elim
@[simp] theorem ev_seq (a b : M Fl) : seqM a b s = (a s).bind fun fl s' => match fl with
  | .nx => b s'
  | fl => .ok fl s' := rfl
@[simp] theorem ev_nx : nxM s = .ok .nx s := rfl
@[simp] theorem ev_bk : bkM s = .ok .bk s := rfl
@[simp] theorem ev_ct : ctM s = .ok .ct s := rfl
@[simp] theorem ev_drop (f : M (Bool × D)) : dropM f s = (f s).bind fun _ s' => .ok .nx s' := rfl
@[simp] theorem ev_ret (f : M (Bool × D)) : retM f s = (f s).bind fun r s' => .ok (.rt r.1 r.2) s' := rfl
@[simp] theorem ev_retN : retN s = .ok (.rt false .non) s := rfl
@[simp] theorem ev_set (i : Nat) (f : M (Bool × D)) : setM i f s = (f s).bind fun r s' => match putS s' i (if r.1 = true then .ow else .sh) r.2 with
  | some s2 => .ok .nx s2
  | none => .stuck := rfl
@[simp] theorem ev_putS (i : Nat) (o : Own) (d : D) : putS s i o d = match s[i]? with
  | some (some (.io, _)) => none
  | some _ => some (s.set i (some (o, d)))
  | none => none := rfl
@[simp] theorem ev_ite {α : Type} (t : M Bool) (a b : M α) : iteM t a b s = (t s).bind fun x s' => if x = true then a s' else b s' := rfl
@[simp] theorem ev_and (a b : M Bool) : andM a b s = (a s).bind fun x s' => if x = true then b s' else .ok false s' := rfl
@[simp] theorem ev_or (a b : M Bool) : orM a b s = (a s).bind fun x s' => if x = true then .ok true s' else b s' := rfl
@[simp] theorem ev_not (a : M Bool) : notM a s = (a s).bind fun b s' => .ok (!b) s' := rfl
@[simp] theorem ev_tru (a : Opd) : truM a s = op1 a (fun x s => match truD x with
  | some b => .ok b s
  | none => .stuck) s := rfl
@[simp] theorem ev_truB (f : M (Bool × D)) : truB f s = (f s).bind fun r s' => match r.2 with
  | .bl b => .ok b s'
  | _ => .stuck := rfl
@[simp] theorem ev_andV (a b : M (Bool × D)) : andV a b s = (a s).bind fun x s' => match truD x.2 with
  | some true => b s'
  | some false => .ok x s'
  | none => .stuck := rfl
@[simp] theorem ev_orV (a b : M (Bool × D)) : orV a b s = (a s).bind fun x s' => match truD x.2 with
  | some true => .ok x s'
  | some false => b s'
  | none => .stuck := rfl
@[simp] theorem ev_notV (a : Opd) : notV a s = op1 a (fun x s => match truD x with
  | some b => .ok (false, .bl (!b)) s
  | none => .stuck) s := rfl
@[simp] theorem ev_const (d : D) : constM d s = .ok (false, d) s := rfl
@[simp] theorem ev_var (i : Nat) : varM i s = match s[i]? with
  | some (some (.sh, d)) => .ok (false, d) s
  | some (some (.ow, d)) => .ok (false, d) (s.set i (some (.sh, d)))
  | _ => .stuck := rfl
@[simp] theorem ev_move (i : Nat) : moveM i s = match s[i]? with
  | some (some (.sh, d)) => .ok (false, d) s
  | some (some (.ow, d)) => .ok (true, d) (s.set i none)
  | _ => .stuck := rfl
@[simp] theorem ev_op1 {α : Type} (a : Opd) (k : D → S → Res α) : op1 a k s = (a.run s).bind fun x s1 => match a.get s1 x with
  | some dx => k dx s1
  | none => .stuck := rfl
@[simp] theorem ev_op2 {α : Type} (a b : Opd) (k : D → D → S → Res α) : op2 a b k s = (a.run s).bind fun x s1 => (b.run s1).bind fun y s2 => match a.get s2 x, b.get s2 y with
  | some dx, some dy => k dx dy s2
  | _, _ => .stuck := rfl
@[simp] theorem ev_runE (f : M (Bool × D)) : (Opd.ex f).run s = (f s).bind fun r s' => .ok (some r.2) s' := rfl
@[simp] theorem ev_runS (i : Nat) : (Opd.sl i).run s = match s[i]? with
    | some (some _) => .ok none s
    | _ => .stuck := rfl
@[simp] theorem ev_getE (f : M (Bool × D)) (x : Option D) : (Opd.ex f).get s x = x := rfl
@[simp] theorem ev_getS (i : Nat) (x : Option D) : (Opd.sl i).get s x = match s[i]? with
    | some (some (_, d)) => some d
    | _ => none := rfl
@[simp] theorem ev_un (g : D → Option (Bool × D)) (a : Opd) : unM g a s = op1 a (fun x s => match g x with
  | some r => .ok r s
  | none => .stuck) s := rfl
@[simp] theorem ev_bin (g : D → D → Option (Bool × D)) (a b : Opd) : binM g a b s = op2 a b (fun x y s => match g x y with
  | some r => .ok r s
  | none => .stuck) s := rfl
@[simp] theorem ev_ops {α : Type} (os : List Opd) (k : List D → S → Res α) : opsM os k s = (runs os s).bind fun xs s1 => match gets s1 os xs with
  | some ds => k ds s1
  | none => .stuck := rfl
@[simp] theorem ev_runs0 : runs [] s = .ok [] s := rfl
@[simp] theorem ev_runs (o : Opd) (os : List Opd) : runs (o :: os) s = (o.run s).bind fun x s1 => (runs os s1).bind fun xs s2 => .ok (x :: xs) s2 := rfl
@[simp] theorem ev_gets0 (xs : List (Option D)) : gets s [] xs = some [] := rfl
@[simp] theorem ev_gets (o : Opd) (os : List Opd) (x : Option D) (xs : List (Option D)) : gets s (o :: os) (x :: xs) = match o.get s x, gets s os xs with
    | some d, some ds => some (d :: ds)
    | _, _ => none := rfl
@[simp] theorem ev_tup (fs : List (M (Bool × D))) : tupM fs s = opsM (fs.map .ex) (fun ds s => if ds.length ≤ sizeLine then .ok (false, .tup ds) s else .stuck) s := rfl
@[simp] theorem ev_lst (fs : List (M (Bool × D))) : lstM fs s = opsM (fs.map .ex) (fun ds s => if ds.length ≤ sizeLine then .ok (true, .lst ds) s else .stuck) s := rfl
@[simp] theorem ev_call (F : FS) (os : List Opd) : callM F os s = opsM os (fun ds s => if decide (ioSlots os).Nodup && (ioSlots os).all (isMut s) then (match F ds with
  | .ret fr d outs => (match wb s (ioSlots os) outs with
    | some s' => .ok (fr, d) s'
    | none => .stuck)
  | .exc x outs => (match wb s (ioSlots os) outs with
    | some s' => .exc x s'
    | none => .stuck)
  | .stuck => .stuck) else .stuck) s := rfl
def boxD : D → Bool
  | .lst _ => true
  | .dct _ => true
  | _ => false
@[simp] theorem ev_box (i : Nat) : isBox s i = match s[i]? with
  | some (some (_, d)) => boxD d
  | _ => false := by
  unfold isBox boxD
  cases s[i]? with
  | none => rfl
  | some x =>
    cases x with
    | none => rfl
    | some x =>
      obtain ⟨o, d⟩ := x
      cases d <;> rfl
@[simp] theorem box_tp {cs : List D} {a l e t : Int} : boxD (tpD cs a l e t) = true := rfl
@[simp] theorem box_l {ds : List D} : boxD (.lst ds) = true := rfl
@[simp] theorem box_d {ds : List (Key × D)} : boxD (.dct ds) = true := rfl
@[simp] theorem ev_setIt (i : Nat) (k f : M (Bool × D)) : setItM i k f s = (f s).bind fun y s1 => if isBox s1 i = true then (k s1).bind fun kk s2 => (match s2[i]? with
  | some (some (o, x)) => if o = .sh then .stuck else (match setD x kk.2 y.2 with
    | some x' => .ok .nx (s2.set i (some (o, x')))
    | none => .stuck)
  | _ => .stuck) else .stuck := rfl
@[simp] theorem ev_disp (ps : List (M (Bool × D) × M (Bool × D))) : dispM ps s = opsM ((flat2 ps).map .ex) (fun ds s => match kpairs ds with
  | some kds => if kds.length ≤ 15 then .ok (true, .dct (kmerge [] kds)) s else .stuck
  | none => .stuck) s := rfl
@[simp] theorem ev_grow (g : List D → D → Option (List D)) (i : Nat) (f : M (Bool × D)) : growM g i f s = if isLst s i = true then (f s).bind fun y s1 => (match s1[i]? with
  | some (some (o, .lst ds)) => if o = .sh then .stuck else (match g ds y.2 with
    | some ds' => .ok (false, .non) (s1.set i (some (o, .lst ds')))
    | none => .stuck)
  | _ => .stuck) else .stuck := rfl
@[simp] theorem ev_isLst (i : Nat) : isLst s i = match s[i]? with
  | some (some (_, .lst _)) => true
  | _ => false := rfl
@[simp] theorem ev_itM (f : M (Bool × D)) : itM f s = (f s).bind fun r s' => match r.2 with
  | .lst ds => .ok ds s'
  | .tup ds => .ok ds s'
  | .fro ds => .ok ds s'
  | .str x => .ok (signs x) s'
  | _ => .stuck := rfl
noncomputable def rngD : D → Option (List D)
  | .int j => if gd (-(2 ^ 62) ≤ j ∧ j < 2 ^ 62) = true then some (intsD 0 j.toNat) else none
  | _ => none
@[simp] theorem ev_rng1 (f : M (Bool × D)) : rng1M f s = (f s).bind fun r s' => match rngD r.2 with
  | some ds => .ok ds s'
  | none => .stuck := by
  unfold rng1M rngD
  congr 1
  funext r s'
  cases r.2 with
  | int j =>
    by_cases h : gd (-(2 ^ 62) ≤ j ∧ j < 2 ^ 62) = true
    · simp only [if_pos h]
    · simp only [if_neg h]
  | _ => rfl
theorem rng_int {i : Int} (h0 : 0 ≤ i) (h : i ≤ 16777216) : rngD (.int i) = some (intsD 0 i.toNat) := by
  unfold rngD
  have h1 : -(2 ^ 62) ≤ i := Int.le_trans (by decide) h0
  have h2 : i < 2 ^ 62 := Int.lt_of_le_of_lt h (by decide)
  simp only [if_pos (gd_yes (And.intro h1 h2))]
theorem rng_nat {n : Nat} (h : n ≤ sizeLine) : rngD (.int n) = some (intsD 0 n) := by
  have e : sizeLine = 16777216 := by decide +kernel
  rw [e] at h
  have := rng_int (i := (n : Int)) (Int.natCast_nonneg _) (by omega)
  rw [this, Int.toNat_natCast]
@[simp] theorem ev_for (it : M (List D)) (t : Tg) (b : M Fl) : forM it t b s = (it s).bind fun ds s1 => forL t b ds s1 := rfl
@[simp] theorem ev_for0 (t : Tg) (b : M Fl) : forL t b [] s = .ok .nx s := rfl
@[simp] theorem ev_for1 (t : Tg) (b : M Fl) (d : D) (ds : List D) : forL t b (d :: ds) s = match t.put d s with
    | none => .stuck
    | some s1 => (b s1).bind fun fl s2 => (match fl with
      | .bk => .ok .nx s2
      | .rt fr d => .ok (.rt fr d) s2
      | _ => forL t b ds s2) := rfl
@[simp] theorem ev_flat0 : flat2 [] = [] := rfl
@[simp] theorem ev_flat1 (k v : M (Bool × D)) (r : List (M (Bool × D) × M (Bool × D))) : flat2 ((k, v) :: r) = k :: v :: flat2 r := rfl
@[simp] theorem ev_kp0 : kpairs [] = some [] := rfl
@[simp] theorem ev_kpS (x : Str) (d : D) (r : List D) : kpairs (.str x :: d :: r) = (kpairs r).map fun ps => (.inr x, d) :: ps := rfl
@[simp] theorem ev_kpI (x : Int) (d : D) (r : List D) : kpairs (.int x :: d :: r) = (kpairs r).map fun ps => (.inl x, d) :: ps := rfl
@[simp] theorem ev_comp (it : M (List D)) (t : Tg) (tt : M Bool) (te : M (Bool × D)) (vs : List Nat) : compM it t tt te vs s = (it s).bind fun ds s1 => (lcL t tt te vs ds [] (killAll s1 vs)).bind fun acc s2 => .ok (true, .lst acc) s2 := rfl
@[simp] theorem ev_yes : yesM s = .ok true s := rfl
@[simp] theorem ev_str (a : Opd) : strM a s = op1 a (fun x s => match x with
  | .str x => .ok (false, .str x) s
  | _ => .stuck) s := rfl
@[simp] theorem ev_meth (g : Str → List D → Option (Bool × D)) (o : Opd) (as : List Opd) : methS g o as s = opsM (.ex (strM o) :: as) (fun ds s => match ds with
  | .str x :: xs => (match g x xs with
    | some r => .ok r s
    | none => .stuck)
  | _ => .stuck) s := rfl
@[simp] theorem ev_int (a : Opd) : intM a s = op1 a (fun x s => match x with
  | .int i => .ok (false, .int i) s
  | _ => .stuck) s := rfl
@[simp] theorem ev_neg (a : Opd) : negM a s = op1 a (fun x s => match x with
  | .int i => .ok (false, .int (-i)) s
  | _ => .stuck) s := rfl
@[simp] theorem ev_putN (i : Nat) (d : D) : (Tg.nm i).put d s = putS s i .sh d := by rw [Tg.put]
end

section
variable {i j : Int} {x y : Str} {b c : Bool} {ds es : List D}
@[simp] theorem v_eqI {n : Bool} : eqS n (.int i) (.int j) = some (false, .bl (if n then !decide (i = j) else decide (i = j))) := rfl
@[simp] theorem v_eqT {n : Bool} : eqS n (.str x) (.str y) = some (false, .bl (if n then !decide (x = y) else decide (x = y))) := rfl
@[simp] theorem v_eqB {n : Bool} : eqS n (.bl b) (.bl c) = some (false, .bl (if n then !decide (b = c) else decide (b = c))) := rfl
@[simp] theorem v_ordI {f : Int → Int → Bool} {g : List Nat → List Nat → Bool} : ordD f g (.int i) (.int j) = some (false, .bl (f i j)) := rfl
@[simp] theorem v_ordS {f : Int → Int → Bool} {g : List Nat → List Nat → Bool} : ordD f g (.str x) (.str y) = some (false, .bl (g x.cps.toList y.cps.toList)) := rfl
@[simp] theorem v_int {C : Int → Int → Bool} {f : Int → Int → Int} : intD C f (.int i) (.int j) = if C i j then some (false, .int (f i j)) else none := rfl
@[simp] theorem v_addI : addD (.int i) (.int j) = some (false, .int (i + j)) := rfl
@[simp] theorem v_addS : addD (.str x) (.str y) = if x.length + y.length ≤ sizeLine then some (false, .str (x ++ y)) else none := rfl
@[simp] theorem v_addL : addD (.lst ds) (.lst es) = if ds.length + es.length ≤ sizeLine then some (true, .lst (ds ++ es)) else none := rfl
@[simp] theorem v_addT : addD (.tup ds) (.tup es) = if ds.length + es.length ≤ sizeLine then some (false, .tup (ds ++ es)) else none := rfl
@[simp] theorem v_lenL : lenD (.lst ds) = some (false, .int ds.length) := rfl
@[simp] theorem v_lenT : lenD (.tup ds) = some (false, .int ds.length) := rfl
@[simp] theorem v_lenF : lenD (.fro ds) = some (false, .int ds.length) := rfl
@[simp] theorem v_lenS : lenD (.str x) = if x.length ≤ sizeLine then some (false, .int x.length) else none := rfl
@[simp] theorem v_toI : toInt (.int i) = some (false, .int i) := rfl
@[simp] theorem v_abs : absD (.int i) = some (false, .int (if i < 0 then -i else i)) := rfl
@[simp] theorem v_truI : truD (.int i) = some (i != 0) := rfl
@[simp] theorem v_truB : truD (.bl b) = some b := rfl
@[simp] theorem v_truN : truD .non = some false := rfl
@[simp] theorem v_truL : truD (.lst ds) = some (!ds.isEmpty) := rfl
@[simp] theorem v_truT : truD (.tup ds) = some (!ds.isEmpty) := rfl
@[simp] theorem v_ixL : ixD (.lst ds) (.int i) = (atI ds i).map fun d => (false, d) := rfl
@[simp] theorem v_ixT : ixD (.tup ds) (.int i) = (atI ds i).map fun d => (false, d) := rfl
@[simp] theorem v_ixF : ixD (.fro ds) (.int i) = (atI ds i).map fun d => (false, d) := rfl
@[simp] theorem v_ixS : ixD (.str x) (.int i) = if x.length ≤ sizeLine then (atI x.cps.toList i).map fun c => (false, .str ⟨#[c]⟩) else none := rfl
@[simp] theorem v_app {d : D} : appD ds d = if ds.length < sizeLine then some (ds ++ [d]) else none := rfl
@[simp] theorem v_isN1 {n : Bool} : isD n .non .non = some (false, .bl (!n)) := rfl
theorem at_nat {α : Type} {xs : List α} {n : Nat} : atI xs (n : Int) = xs[n]? := by
  unfold atI ixN
  rw [if_pos (by omega)]
  by_cases h : n < xs.length
  · rw [if_pos (by omega)]; simp
  · rw [if_neg (by omega)]; simp; omega
theorem at_lt {α : Type} {xs : List α} (h0 : 0 ≤ i) (h : i < xs.length) : atI xs i = some (xs[i.toNat]'(by omega)) := by
  unfold atI ixN
  rw [if_pos h0, if_pos h]
  simp
end
section
variable {cs : List Int} {a l e t m : Int}
theorem g_mul1 {i j : Int} (h : -18446744073709551616 < j ∧ j < 18446744073709551616) : gd ((-(2 ^ 64) < i ∧ i < 2 ^ 64) ∨ (-(2 ^ 64) < j ∧ j < 2 ^ 64)) = true := gd_yes (.inr h)
theorem g_div {m : Int} (h3 : 0 < m) (h4 : m < 1073741824) : gd (0 < m ∧ m < 1073741824) = true := gd_yes ⟨h3, h4⟩
theorem m_all (x : Int) : -18446744073709551616 < x % 2147483647 ∧ x % 2147483647 < 18446744073709551616 := by omega
theorem m_lo (x : Int) : -18446744073709551616 < x % 2147483647 := by omega
theorem m_hi (x : Int) : x % 2147483647 < 18446744073709551616 := by omega
/-- what a draw gives -/
def TkOk (cs : List Int) (e m : Int) (R : Res Fl) : Prop := ∃ (r a l t : Int) (rest : S), 0 ≤ r ∧ r < m ∧ 0 ≤ a ∧ 0 ≤ l ∧ R = .ok (.rt false (.int r)) (some (.io, tpD (cs.map .int) a l e t) :: rest)
theorem take_c (h0 : 0 ≤ a) (hl : 0 ≤ l) (h3 : 0 < m) (h4 : m < 1073741824) : TkOk cs e m (takeC [some (.io, tpD (cs.map .int) a l e t), some (.sh, .int m), none, none]) := by
  unfold takeC
  by_cases h2 : 0 < l
  · simp [tp_left, tp_at, tp_cells, tp_seed, tp_salt, st_at, st_left, st_salt, h2, h3, h4]
    exact ⟨_, _, _, _, _, Int.emod_nonneg _ (by omega), Int.emod_lt_of_pos _ h3, h0, Int.ediv_nonneg hl (by omega), rfl⟩
  · simp [tp_left, tp_at, tp_cells, tp_seed, tp_salt, st_at, st_left, st_salt, h2, h3, h4, m_lo, m_hi]
    exact ⟨_, _, _, _, _, Int.emod_nonneg _ (by omega), Int.emod_lt_of_pos _ h3, h0, hl, rfl⟩
theorem take_ok (h0 : 0 ≤ a) (hl : 0 ≤ l) (hc : ∀ c ∈ cs, 0 ≤ c) (h3 : 0 < m) (h4 : m < 1073741824) : TkOk cs e m (takeB [some (.io, tpD (cs.map .int) a l e t), some (.sh, .int m), none, none]) := by
  unfold takeB
  rw [ev_seq]
  by_cases h1 : l = 0 ∧ a < cs.length
  · obtain ⟨rfl, h2⟩ := h1
    have e1 : atI (cs.map D.int) a = some (.int (cs[a.toNat]'(by omega))) := by rw [at_lt h0 (by simpa using h2)]; simp
    have e2 : takeA [some (.io, tpD (cs.map .int) a 0 e t), some (.sh, .int m), none, none] = .ok .nx [some (.io, tpD (cs.map .int) (a + 1) (cs[a.toNat]'(by omega)) e t), some (.sh, .int m), none, none] := by
      unfold takeA
      simp [tp_left, tp_at, tp_cells, tp_seed, tp_salt, st_at, st_left, st_salt, h2, e1]
    rw [e2]
    exact take_c (by omega) (hc _ (List.getElem_mem _)) h3 h4
  · have e2 : takeA [some (.io, tpD (cs.map .int) a l e t), some (.sh, .int m), none, none] = .ok .nx [some (.io, tpD (cs.map .int) a l e t), some (.sh, .int m), none, none] := by
      unfold takeA
      by_cases h2 : l = 0
      · have h5 : ¬ a < cs.length := fun q => h1 ⟨h2, q⟩
        simp [tp_left, tp_at, tp_cells, tp_seed, tp_salt, st_at, st_left, st_salt, h2, h5]
      · simp [tp_left, tp_at, tp_cells, tp_seed, tp_salt, st_at, st_left, st_salt, h2]
    rw [e2]
    exact take_c h0 hl h3 h4
/-- a tape -/
def Tape (d : D) : Prop := ∃ (cs : List Int) (a l e t : Int), d = tpD (cs.map .int) a l e t ∧ 0 ≤ a ∧ 0 ≤ l ∧ ∀ c ∈ cs, 0 ≤ c
theorem take_run {d : D} (h : Tape d) (h3 : 0 < m) (h4 : m < 1073741824) : ∃ (r : Int) (d' : D), 0 ≤ r ∧ r < m ∧ Tape d' ∧ runF [0] 2 4 takeB [d, .int m] = .ret false (.int r) [d'] := by
  obtain ⟨cs, a, l, e, t, rfl, h0, hl, hc⟩ := h
  obtain ⟨r, a', l', t', rest, r0, r1, r2, r3, eq⟩ := take_ok (e := e) (t := t) h0 hl hc h3 h4
  refine ⟨r, _, r0, r1, ⟨cs, a', l', e, t', rfl, r2, r3, hc⟩, ?_⟩
  have e0 : initS [0] 4 [tpD (cs.map .int) a l e t, .int m] = [some (.io, tpD (cs.map .int) a l e t), some (.sh, .int m), none, none] := rfl
  unfold runF
  simp only [List.length_cons, List.length_nil, e0, eq]
  rfl
theorem cells_run : ∀ (ns : List Int) (acc : List D) (x1 x2 : Slot), acc.length + ns.length ≤ 63 → lcL (.nm 3) yesM (unM absD (.ex (unM toInt (.sl 3)))) [3] (ns.map .int) acc [x1, none, none, none] = .ok (acc ++ ns.map fun i => D.int (if i < 0 then -i else i)) [x1, none, none, none]
  | [], acc, x1, x2, h => by simp [lcL]
  | n :: ns, acc, x1, x2, h => by
    have hz : acc.length < sizeLine := Nat.lt_of_lt_of_le (by simp at h; omega) (show 64 ≤ sizeLine by decide)
    have ih := cells_run ns (acc ++ [D.int (if n < 0 then -n else n)]) x1 x2 (by simp at h ⊢; omega)
    simp [lcL, killAll, nox, hz, ih]
theorem seed_run : ∀ (cs : List Int) (x0 x1 x3 : Slot) (e : Int), (∀ d, x3 ≠ some (.io, d)) → ∃ (e' : Int) (x3' : Slot), forL (.nm 3) (setM 2 (binM modD (.ex (unM toInt (.ex (binM addD (.ex (binM mulD (.sl 2) (.ex (constM (.int 31))))) (.sl 3))))) (.ex (constM (.int 2147483647))))) (cs.map .int) [x0, x1, some (.sh, .int e), x3] = .ok .nx [x0, x1, some (.sh, .int e'), x3']
  | [], x0, x1, x3, e, _ => ⟨e, x3, rfl⟩
  | c :: cs, x0, x1, x3, e, h => by
    obtain ⟨e', x3', ih⟩ := seed_run cs x0 x1 (some (.sh, .int c)) ((e * 31 + c) % 2147483647) (by simp)
    refine ⟨e', x3', ?_⟩
    rw [← ih]
    have ep : (Tg.nm 3).put (.int c) [x0, x1, some (.sh, .int e), x3] = some [x0, x1, some (.sh, .int e), some (.sh, .int c)] := by
      match x3, h with
      | none, _ => rfl
      | some (.sh, _), _ => rfl
      | some (.ow, _), _ => rfl
      | some (.io, d), h => exact absurd rfl (h d)
    rw [List.map_cons, ev_for1, ep]
    simp
theorem tape_run (ns : List Int) (h : ns.length ≤ 63) : ∃ d : D, Tape d ∧ runF [] 1 4 tapeB [.fro (ns.map .int)] = .ret true d [] := by
  have e0 : initS [] 4 [.fro (ns.map .int)] = [some (.sh, .fro (ns.map .int)), none, none, none] := rfl
  obtain ⟨e', x3', hs⟩ := seed_run (ns.map fun i => if i < 0 then -i else i) (some (.sh, .fro (ns.map .int))) (some (.sh, .lst (ns.map fun i => D.int (if i < 0 then -i else i)))) none 7 (by simp)
  have hc := cells_run ns [] (some (.sh, .fro (ns.map .int))) none (by simpa using h)
  have em : (ns.map fun i => if i < 0 then -i else i).map D.int = ns.map fun i => D.int (if i < 0 then -i else i) := by simp [Function.comp_def]
  refine ⟨tpD ((ns.map fun i => if i < 0 then -i else i).map .int) 0 0 e' 0, ⟨_, 0, 0, e', 0, rfl, Int.le_refl 0, Int.le_refl 0, fun c m => ?_⟩, ?_⟩
  · obtain ⟨i, _, rfl⟩ := List.mem_map.mp m
    split <;> omega
  · have ev : tapeB (initS [] 4 [.fro (ns.map .int)]) = .ok (.rt true (tpD ((ns.map fun i => if i < 0 then -i else i).map .int) 0 0 e' 0)) [some (.sh, .fro (ns.map .int)), some (.sh, .lst (ns.map fun i => D.int (if i < 0 then -i else i))), some (.sh, .int e'), x3'] := by
      rw [e0]
      unfold tapeB
      rw [em] at hs ⊢
      simp only [List.nil_append] at hc
      simp [killAll, hc, hs]
      rfl
    unfold runF
    simp only [List.length_cons, List.length_nil, ev]
    rfl
end
end PV

/-! PV: isinstance at each kind; _law_same says True of a value and itself. -/
namespace PV
open PySem PySem.Spec L2
section
variable {b : Bool} {i : Int} {x : Str} {ds : List D} {ks : List (Key × D)}
@[simp] theorem is_non_bool : isiD D.non (.ty "bool") = some (false, .bl false) := Eq.trans (by rfl) rfl
@[simp] theorem is_non_int : isiD D.non (.ty "int") = some (false, .bl false) := Eq.trans (by rfl) rfl
@[simp] theorem is_non_str : isiD D.non (.ty "str") = some (false, .bl false) := Eq.trans (by rfl) rfl
@[simp] theorem is_non_tuple : isiD D.non (.ty "tuple") = some (false, .bl false) := Eq.trans (by rfl) rfl
@[simp] theorem is_non_list : isiD D.non (.ty "list") = some (false, .bl false) := Eq.trans (by rfl) rfl
@[simp] theorem is_non_dict : isiD D.non (.ty "dict") = some (false, .bl false) := Eq.trans (by rfl) rfl
@[simp] theorem is_bl_bool : isiD (D.bl b) (.ty "bool") = some (false, .bl true) := Eq.trans (by rfl) rfl
@[simp] theorem is_bl_int : isiD (D.bl b) (.ty "int") = some (false, .bl true) := Eq.trans (by rfl) rfl
@[simp] theorem is_bl_str : isiD (D.bl b) (.ty "str") = some (false, .bl false) := Eq.trans (by rfl) rfl
@[simp] theorem is_bl_tuple : isiD (D.bl b) (.ty "tuple") = some (false, .bl false) := Eq.trans (by rfl) rfl
@[simp] theorem is_bl_list : isiD (D.bl b) (.ty "list") = some (false, .bl false) := Eq.trans (by rfl) rfl
@[simp] theorem is_bl_dict : isiD (D.bl b) (.ty "dict") = some (false, .bl false) := Eq.trans (by rfl) rfl
@[simp] theorem is_int_bool : isiD (D.int i) (.ty "bool") = some (false, .bl false) := Eq.trans (by rfl) rfl
@[simp] theorem is_int_int : isiD (D.int i) (.ty "int") = some (false, .bl true) := Eq.trans (by rfl) rfl
@[simp] theorem is_int_str : isiD (D.int i) (.ty "str") = some (false, .bl false) := Eq.trans (by rfl) rfl
@[simp] theorem is_int_tuple : isiD (D.int i) (.ty "tuple") = some (false, .bl false) := Eq.trans (by rfl) rfl
@[simp] theorem is_int_list : isiD (D.int i) (.ty "list") = some (false, .bl false) := Eq.trans (by rfl) rfl
@[simp] theorem is_int_dict : isiD (D.int i) (.ty "dict") = some (false, .bl false) := Eq.trans (by rfl) rfl
@[simp] theorem is_str_bool : isiD (D.str x) (.ty "bool") = some (false, .bl false) := Eq.trans (by rfl) rfl
@[simp] theorem is_str_int : isiD (D.str x) (.ty "int") = some (false, .bl false) := Eq.trans (by rfl) rfl
@[simp] theorem is_str_str : isiD (D.str x) (.ty "str") = some (false, .bl true) := Eq.trans (by rfl) rfl
@[simp] theorem is_str_tuple : isiD (D.str x) (.ty "tuple") = some (false, .bl false) := Eq.trans (by rfl) rfl
@[simp] theorem is_str_list : isiD (D.str x) (.ty "list") = some (false, .bl false) := Eq.trans (by rfl) rfl
@[simp] theorem is_str_dict : isiD (D.str x) (.ty "dict") = some (false, .bl false) := Eq.trans (by rfl) rfl
@[simp] theorem is_tup_bool : isiD (D.tup ds) (.ty "bool") = some (false, .bl false) := Eq.trans (by rfl) rfl
@[simp] theorem is_tup_int : isiD (D.tup ds) (.ty "int") = some (false, .bl false) := Eq.trans (by rfl) rfl
@[simp] theorem is_tup_str : isiD (D.tup ds) (.ty "str") = some (false, .bl false) := Eq.trans (by rfl) rfl
@[simp] theorem is_tup_tuple : isiD (D.tup ds) (.ty "tuple") = some (false, .bl true) := Eq.trans (by rfl) rfl
@[simp] theorem is_tup_list : isiD (D.tup ds) (.ty "list") = some (false, .bl false) := Eq.trans (by rfl) rfl
@[simp] theorem is_tup_dict : isiD (D.tup ds) (.ty "dict") = some (false, .bl false) := Eq.trans (by rfl) rfl
@[simp] theorem is_lst_bool : isiD (D.lst ds) (.ty "bool") = some (false, .bl false) := Eq.trans (by rfl) rfl
@[simp] theorem is_lst_int : isiD (D.lst ds) (.ty "int") = some (false, .bl false) := Eq.trans (by rfl) rfl
@[simp] theorem is_lst_str : isiD (D.lst ds) (.ty "str") = some (false, .bl false) := Eq.trans (by rfl) rfl
@[simp] theorem is_lst_tuple : isiD (D.lst ds) (.ty "tuple") = some (false, .bl false) := Eq.trans (by rfl) rfl
@[simp] theorem is_lst_list : isiD (D.lst ds) (.ty "list") = some (false, .bl true) := Eq.trans (by rfl) rfl
@[simp] theorem is_lst_dict : isiD (D.lst ds) (.ty "dict") = some (false, .bl false) := Eq.trans (by rfl) rfl
@[simp] theorem is_fro_bool : isiD (D.fro ds) (.ty "bool") = some (false, .bl false) := Eq.trans (by rfl) rfl
@[simp] theorem is_fro_int : isiD (D.fro ds) (.ty "int") = some (false, .bl false) := Eq.trans (by rfl) rfl
@[simp] theorem is_fro_str : isiD (D.fro ds) (.ty "str") = some (false, .bl false) := Eq.trans (by rfl) rfl
@[simp] theorem is_fro_tuple : isiD (D.fro ds) (.ty "tuple") = some (false, .bl false) := Eq.trans (by rfl) rfl
@[simp] theorem is_fro_list : isiD (D.fro ds) (.ty "list") = some (false, .bl true) := Eq.trans (by rfl) rfl
@[simp] theorem is_fro_dict : isiD (D.fro ds) (.ty "dict") = some (false, .bl false) := Eq.trans (by rfl) rfl
@[simp] theorem is_dct_bool : isiD (D.dct ks) (.ty "bool") = some (false, .bl false) := Eq.trans (by rfl) rfl
@[simp] theorem is_dct_int : isiD (D.dct ks) (.ty "int") = some (false, .bl false) := Eq.trans (by rfl) rfl
@[simp] theorem is_dct_str : isiD (D.dct ks) (.ty "str") = some (false, .bl false) := Eq.trans (by rfl) rfl
@[simp] theorem is_dct_tuple : isiD (D.dct ks) (.ty "tuple") = some (false, .bl false) := Eq.trans (by rfl) rfl
@[simp] theorem is_dct_list : isiD (D.dct ks) (.ty "list") = some (false, .bl false) := Eq.trans (by rfl) rfl
@[simp] theorem is_dct_dict : isiD (D.dct ks) (.ty "dict") = some (false, .bl true) := Eq.trans (by rfl) rfl
@[simp] theorem isN_non {g : Bool} : isD g D.non .non = some (false, .bl (!g)) := Eq.trans (by rfl) rfl
@[simp] theorem isN_bl {g : Bool} : isD g (D.bl b) .non = some (false, .bl g) := Eq.trans (by rfl) rfl
@[simp] theorem isN_int {g : Bool} : isD g (D.int i) .non = some (false, .bl g) := Eq.trans (by rfl) rfl
@[simp] theorem isN_str {g : Bool} : isD g (D.str x) .non = some (false, .bl g) := Eq.trans (by rfl) rfl
@[simp] theorem isN_tup {g : Bool} : isD g (D.tup ds) .non = some (false, .bl g) := Eq.trans (by rfl) rfl
@[simp] theorem isN_lst {g : Bool} : isD g (D.lst ds) .non = some (false, .bl g) := Eq.trans (by rfl) rfl
@[simp] theorem isN_fro {g : Bool} : isD g (D.fro ds) .non = some (false, .bl g) := Eq.trans (by rfl) rfl
@[simp] theorem isN_dct {g : Bool} : isD g (D.dct ks) .non = some (false, .bl g) := Eq.trans (by rfl) rfl
end
theorem runF_rt {ios : List Nat} {n m : Nat} {f : M Fl} {ds : List D} {fr : Bool} {d : D} {s : S} {outs : List D} (e : f (initS ios m ds) = .ok (.rt fr d) s) (hn : ds.length = n) (ho : outsOf s ios = some outs) : runF ios n m f ds = .ret fr d outs := by
  unfold runF
  rw [if_pos hn, e]
  simp only [ho]
theorem runF_nx {ios : List Nat} {n m : Nat} {f : M Fl} {ds : List D} {s : S} {outs : List D} (e : f (initS ios m ds) = .ok .nx s) (hn : ds.length = n) (ho : outsOf s ios = some outs) : runF ios n m f ds = .ret false .non outs := by
  unfold runF
  rw [if_pos hn, e]
  simp only [ho]
noncomputable def isIntB : M Fl :=
  (retM (andV (binM isiD (.sl 0) (.ex (constM (.ty "int")))) (notV (.ex (binM isiD (.sl 0) (.ex (constM (.ty "bool"))))))))
noncomputable def itemsB (sm : FS) : M Fl :=
  (seqM (iteM (truB (binM (eqS true) (.ex (unM lenD (.sl 0))) (.ex (unM lenD (.sl 1))))) (retM (constM (.bl false))) nxM)
    (seqM (forM (rng1M (unM lenD (.sl 1))) (.nm 2) (iteM (notM (truM (.ex (callM sm [.ex (binM ixD (.sl 0) (.sl 2)), .ex (binM ixD (.sl 1) (.sl 2))])))) (retM (constM (.bl false))) nxM))
    (retM (constM (.bl true)))))
noncomputable def sameB (ii it sm : FS) : M Fl :=
  (seqM (iteM (truB (binM (isD false) (.sl 1) (.ex (constM .non)))) (retM (binM (isD false) (.sl 0) (.ex (constM .non)))) nxM)
    (seqM (iteM (truM (.ex (binM isiD (.sl 1) (.ex (constM (.ty "bool")))))) (retM (andV (binM isiD (.sl 0) (.ex (constM (.ty "bool")))) (binM (eqS false) (.sl 0) (.sl 1)))) nxM)
    (seqM (iteM (truM (.ex (binM isiD (.sl 1) (.ex (constM (.ty "int")))))) (retM (andV (callM ii [.ex (varM 0)]) (binM (eqS false) (.sl 0) (.sl 1)))) nxM)
    (seqM (iteM (truM (.ex (binM isiD (.sl 1) (.ex (constM (.ty "str")))))) (retM (andV (binM isiD (.sl 0) (.ex (constM (.ty "str")))) (binM (eqS false) (.sl 0) (.sl 1)))) nxM)
    (seqM (iteM (truM (.ex (binM isiD (.sl 1) (.ex (constM (.ty "tuple")))))) (retM (andV (binM isiD (.sl 0) (.ex (constM (.ty "tuple")))) (callM it [.ex (varM 0), .ex (varM 1)]))) nxM)
    (seqM (iteM (truM (.ex (binM isiD (.sl 1) (.ex (constM (.ty "list")))))) (retM (andV (binM isiD (.sl 0) (.ex (constM (.ty "list")))) (callM it [.ex (varM 0), .ex (varM 1)]))) nxM)
    (seqM (iteM (orM (notM (truM (.ex (binM isiD (.sl 0) (.ex (constM (.ty "dict"))))))) (truB (binM (eqS true) (.ex (unM lenD (.sl 0))) (.ex (unM lenD (.sl 1)))))) (retM (constM (.bl false))) nxM)
    (seqM (forM (itM (varM 1)) (.nm 2) (iteM (orM (truB (binM (inD true) (.sl 2) (.sl 0))) (notM (truM (.ex (callM sm [.ex (binM ixD (.sl 0) (.sl 2)), .ex (binM ixD (.sl 1) (.sl 2))]))))) (retM (constM (.bl false))) nxM))
    (seqM (forM (itM (varM 0)) (.nm 2) (iteM (truM (.ex (binM isiD (.sl 2) (.ex (constM (.ty "bool")))))) (retM (constM (.bl false))) nxM))
    (retM (constM (.bl true))))))))))))
/-- plain values of some depth -/
def pl : Nat → D → Bool
  | 0, _ => false
  | _ + 1, .non => true
  | _ + 1, .bl _ => true
  | _ + 1, .int _ => true
  | _ + 1, .str _ => true
  | n + 1, .tup ds => ds.all (pl n) && decide (ds.length ≤ sizeLine)
  | n + 1, .lst ds => ds.all (pl n) && decide (ds.length ≤ sizeLine)
  | _ + 1, _ => false
theorem isInt_int (i : Int) : runF [] 1 1 isIntB [.int i] = .ret false (.bl true) [] := by
  have e : isIntB (initS [] 1 [.int i]) = .ok (.rt false (.bl true)) [some (.sh, .int i)] := by
    rw [show initS [] 1 [.int i] = [some (.sh, .int i)] from rfl]
    unfold isIntB
    simp
  exact runF_rt e rfl rfl
@[simp] theorem ios_e (f : M (Bool × D)) (os : List Opd) : ioSlots (.ex f :: os) = ioSlots os := rfl
@[simp] theorem ios_s (i : Nat) (os : List Opd) : ioSlots (.sl i :: os) = i :: ioSlots os := rfl
@[simp] theorem ios_0 : ioSlots [] = [] := rfl
@[simp] theorem wb_0 {s : S} : wb s [] [] = some s := rfl
@[simp] theorem wb_1 {s : S} {i : Nat} {is : List Nat} {d : D} {ds : List D} : wb s (i :: is) (d :: ds) = match s[i]? with
    | some (some (o, _)) => wb (s.set i (some (o, d))) is ds
    | _ => none := rfl
@[simp] theorem isMut_0 {s : S} {i : Nat} : isMut s i = match s[i]? with
  | some (some (o, d)) => decide (o ≠ .sh) && ulB d
  | _ => false := rfl
@[simp] theorem ul_lst {ds : List D} : ulB (.lst ds) = true := rfl
@[simp] theorem ul_dct {ds : List (Key × D)} : ulB (.dct ds) = true := rfl
@[simp] theorem ul_tp {cs : List D} {a l e t : Int} : ulB (tpD cs a l e t) = true := rfl
theorem tape_ul {d : D} (h : Tape d) : ulB d = true := by
  obtain ⟨_, _, _, _, _, rfl, _⟩ := h
  rfl
theorem items_loop {sm : FS} {x y : D} {n : Nat} (h : ∀ j : Nat, j < n → ∃ d fr, ixD x (.int j) = some (false, d) ∧ ixD y (.int j) = some (false, d) ∧ sm [d, d] = .ret fr (.bl true) []) :
    ∀ (js : List Nat) (z : Slot), (∀ d, z ≠ some (.io, d)) → (∀ j ∈ js, j < n) → ∃ z' : Slot, forL (.nm 2) (iteM (notM (truM (.ex (callM sm [.ex (binM ixD (.sl 0) (.sl 2)), .ex (binM ixD (.sl 1) (.sl 2))])))) (retM (constM (.bl false))) nxM) (js.map fun i => .int (0 + (i : Nat))) [some (.sh, x), some (.sh, y), z] = .ok .nx [some (.sh, x), some (.sh, y), z']
  | [], z, _, _ => ⟨z, rfl⟩
  | j :: js, z, hz, hj => by
    obtain ⟨z', ih⟩ := items_loop h js (some (.sh, .int j)) (by simp) fun i m => hj i (List.mem_cons_of_mem _ m)
    refine ⟨z', ?_⟩
    rw [← ih]
    obtain ⟨d, fr, e1, e2, e3⟩ := h j (hj j List.mem_cons_self)
    have ep : (Tg.nm 2).put (.int (0 + (j : Nat))) [some (.sh, x), some (.sh, y), z] = some [some (.sh, x), some (.sh, y), some (.sh, .int j)] := by
      rw [Int.zero_add]
      match z, hz with
      | none, _ => rfl
      | some (.sh, _), _ => rfl
      | some (.ow, _), _ => rfl
      | some (.io, d), h => exact absurd rfl (h d)
    rw [List.map_cons, ev_for1, ep]
    simp [e1, e2, e3]
theorem items_run {sm : FS} {x y : D} {n : Nat} (hn : n ≤ sizeLine) (lx : lenD x = some (false, .int n)) (ly : lenD y = some (false, .int n)) (h : ∀ j : Nat, j < n → ∃ d fr, ixD x (.int j) = some (false, d) ∧ ixD y (.int j) = some (false, d) ∧ sm [d, d] = .ret fr (.bl true) []) :
    runF [] 2 3 (itemsB sm) [x, y] = .ret false (.bl true) [] := by
  obtain ⟨z', hl⟩ := items_loop h (List.range n) none (by simp) fun j m => List.mem_range.mp m
  have e : itemsB sm (initS [] 3 [x, y]) = .ok (.rt false (.bl true)) [some (.sh, x), some (.sh, y), z'] := by
    rw [show initS [] 3 [x, y] = [some (.sh, x), some (.sh, y), none] from rfl]
    unfold itemsB
    have hl2 : forL (.nm 2) (iteM (notM (truM (.ex (callM sm [.ex (binM ixD (.sl 0) (.sl 2)), .ex (binM ixD (.sl 1) (.sl 2))])))) (retM (constM (.bl false))) nxM) (intsD 0 n) [some (.sh, x), some (.sh, y), none] = .ok .nx [some (.sh, x), some (.sh, y), z'] := hl
    simp [lx, ly, hl2, rng_nat hn]
  exact runF_rt e rfl rfl
theorem same_refl {sm it ii : Nat → FS} (hs : ∀ k, sm (k + 1) = runF [] 2 3 (sameB (ii k) (it k) (sm k))) (hi : ∀ k, it (k + 1) = runF [] 2 3 (itemsB (sm k))) (hz : ∀ k, ii (k + 1) = runF [] 1 1 isIntB) :
    ∀ (n k : Nat) (d : D), pl n d = true → 2 * n + 1 ≤ k → sm k [d, d] = .ret false (.bl true) [] := by
  intro n
  induction n with
  | zero => intro k d h _; simp [pl] at h
  | succ n ihn =>
    intro k d h hk
    obtain ⟨k, rfl⟩ : ∃ k', k = k' + 2 := ⟨k - 2, by omega⟩
    have ih : ∀ e, pl n e = true → sm k [e, e] = .ret false (.bl true) [] := fun e he => ihn k e he (by omega)
    rw [hs]
    have e0 : initS [] 3 [d, d] = [some (.sh, d), some (.sh, d), none] := rfl
    match d, h with
    | .non, _ =>
      refine runF_rt (s := [some (.sh, .non), some (.sh, .non), none]) ?_ rfl rfl
      rw [e0]; unfold sameB; simp (implicitDefEqProofs := false)
    | .bl b, _ =>
      refine runF_rt (s := [some (.sh, .bl b), some (.sh, .bl b), none]) ?_ rfl rfl
      rw [e0]; unfold sameB; simp (implicitDefEqProofs := false)
    | .int i, _ =>
      refine runF_rt (s := [some (.sh, .int i), some (.sh, .int i), none]) ?_ rfl rfl
      rw [e0]; unfold sameB; simp (implicitDefEqProofs := false) [hz, isInt_int]
    | .str x, _ =>
      refine runF_rt (s := [some (.sh, .str x), some (.sh, .str x), none]) ?_ rfl rfl
      rw [e0]; unfold sameB; simp (implicitDefEqProofs := false)
    | .tup ds, h =>
      rw [pl, Bool.and_eq_true, List.all_eq_true, decide_eq_true_eq] at h
      obtain ⟨h1, h2⟩ := h
      have hit : it (k + 1) [.tup ds, .tup ds] = .ret false (.bl true) [] := by
        rw [hi]
        refine items_run h2 rfl rfl fun j hj => ?_
        have ea : ixD (.tup ds) (.int j) = some (false, ds[j]) := by rw [v_ixT, at_nat, List.getElem?_eq_getElem hj]; rfl
        exact ⟨ds[j], false, ea, ea, ih _ (h1 _ (List.getElem_mem hj))⟩
      refine runF_rt (s := [some (.sh, .tup ds), some (.sh, .tup ds), none]) ?_ rfl rfl
      rw [e0]; unfold sameB; simp (implicitDefEqProofs := false) [hit]
    | .lst ds, h =>
      rw [pl, Bool.and_eq_true, List.all_eq_true, decide_eq_true_eq] at h
      obtain ⟨h1, h2⟩ := h
      have hit : it (k + 1) [.lst ds, .lst ds] = .ret false (.bl true) [] := by
        rw [hi]
        refine items_run h2 rfl rfl fun j hj => ?_
        have ea : ixD (.lst ds) (.int j) = some (false, ds[j]) := by rw [v_ixL, at_nat, List.getElem?_eq_getElem hj]; rfl
        exact ⟨ds[j], false, ea, ea, ih _ (h1 _ (List.getElem_mem hj))⟩
      refine runF_rt (s := [some (.sh, .lst ds), some (.sh, .lst ds), none]) ?_ rfl rfl
      rw [e0]; unfold sameB; simp (implicitDefEqProofs := false) [hit]
    | .fro _, h => simp [pl] at h
    | .dct _, h => simp [pl] at h
    | .ty _, h => simp [pl] at h
end PV

/-! PV: texts: where a sign stands. -/
namespace PV
open PySem PySem.Spec L2 PySem.StrLaws PySem.Builtin.Str
theorem occ_keeps (s sub : Str) (hi : Nat) : ∀ (l : List Nat) (st : Array Nat × Nat), st.fst.size = 1 → (forIn l st (occBody s sub hi 1)).run.fst = st.fst
  | [], st, h => rfl
  | a :: l, st, h => by
    rw [List.forIn_cons]
    unfold occBody
    rw [if_neg (by omega)]
    exact occ_keeps s sub hi l _ h
theorem occ_first (s sub : Str) (hi : Nat) (p : Nat → Bool) (hp : ∀ i, p i = true ↔ (i + sub.length ≤ hi ∧ subAt s sub i = true)) : ∀ (l : List Nat) (free : Nat), (∀ i ∈ l, free ≤ i) →
    (forIn l ((#[] : Array Nat), free) (occBody s sub hi 1)).run.fst.toList = (l.find? p).toList
  | [], free, _ => by simp
  | a :: l, free, hf => by
    rw [List.forIn_cons]
    unfold occBody
    have ha : free ≤ a := hf a List.mem_cons_self
    by_cases hc : a + sub.length ≤ hi ∧ subAt s sub a = true
    · have c1 : ((((#[] : Array Nat), free).fst.size < 1 ∧ ((#[] : Array Nat), free).snd ≤ a) ∧ a + sub.length ≤ hi) ∧ subAt s sub a = true := ⟨⟨⟨by simp, ha⟩, hc.1⟩, hc.2⟩
      rw [if_pos c1, List.find?_cons_of_pos ((hp a).mpr hc)]
      have := occ_keeps s sub hi l ((#[] : Array Nat).push a, a + sub.length) (by simp)
      show (forIn l ((#[] : Array Nat).push a, a + sub.length) (occBody s sub hi 1)).run.fst.toList = _
      rw [this]
      simp
    · have c2 : ¬ (((((#[] : Array Nat), free).fst.size < 1 ∧ ((#[] : Array Nat), free).snd ≤ a) ∧ a + sub.length ≤ hi) ∧ subAt s sub a = true) := fun h => hc ⟨h.1.2, h.2⟩
      rw [if_neg c2, List.find?_cons_of_neg (fun h => hc ((hp a).mp h))]
      exact occ_first s sub hi p hp l free fun i hi' => hf i (List.mem_cons_of_mem _ hi')
/-- where c stands next, from i on; the end if nowhere -/
def nextAt (l : List Nat) (c i : Nat) : Nat := i + ((l.drop i).takeWhile fun z => decide (z ≠ c)).length
theorem nextAt_le {l : List Nat} {c i : Nat} (h : i ≤ l.length) : nextAt l c i ≤ l.length := by
  unfold nextAt
  have := (List.takeWhile_sublist (fun z => decide (z ≠ c)) (l := l.drop i)).length_le
  rw [List.length_drop] at this
  omega
theorem nextAt_hit {l : List Nat} {c i : Nat} (h : l[i]? = some c) : nextAt l c i = i := by
  obtain ⟨h1, h2⟩ := List.getElem?_eq_some_iff.mp h
  unfold nextAt
  rw [List.drop_eq_getElem_cons h1, h2, List.takeWhile_cons_of_neg (by simp)]
  rfl
theorem nextAt_miss {l : List Nat} {c i z : Nat} (h : l[i]? = some z) (hz : z ≠ c) : nextAt l c i = nextAt l c (i + 1) := by
  obtain ⟨h1, h2⟩ := List.getElem?_eq_some_iff.mp h
  unfold nextAt
  rw [List.drop_eq_getElem_cons h1, h2, List.takeWhile_cons_of_pos (by simpa using hz), List.length_cons]
  omega
theorem nextAt_end {l : List Nat} {c i : Nat} (h : l.length ≤ i) : nextAt l c i = i := by
  unfold nextAt
  rw [List.drop_eq_nil_of_le h]
  rfl
theorem find_range (l : List Nat) (c : Nat) : ∀ (n i : Nat), i + n = l.length + 1 → ((List.range' i n).find? fun j => decide (l[j]? = some c)) = if nextAt l c i < l.length then some (nextAt l c i) else none
  | 0, i, h => by
    rw [nextAt_end (by omega), if_neg (by omega)]
    rfl
  | n + 1, i, h => by
    rw [List.range'_succ]
    by_cases hc : l[i]? = some c
    · rw [List.find?_cons_of_pos (by simpa using hc), nextAt_hit hc, if_pos (List.getElem?_eq_some_iff.mp hc).1]
    · rw [List.find?_cons_of_neg (by simpa using hc), find_range l c n (i + 1) (by omega)]
      by_cases hi : i < l.length
      · have e : l[i]? = some l[i] := List.getElem?_eq_getElem hi
        rw [nextAt_miss e fun q => hc (by rw [e, q])]
      · rw [nextAt_end (i := i) (by omega), nextAt_end (i := i + 1) (by omega), if_neg (by omega), if_neg (by omega)]
theorem find_one (x : Str) (c i : Nat) (h : i ≤ x.length) : Txt.find3 x ⟨#[c]⟩ (i : Int) = if nextAt x.cps.toList c i < x.cps.toList.length then ((nextAt x.cps.toList c i : Nat) : Int) else -1 := by
  have hl : x.cps.toList.length = x.length := by simp [Str.length]
  unfold Txt.find3
  have hf : fromIndex x.length (i : Int) = i := by unfold fromIndex; rw [if_neg (by omega)]; omega
  rw [hf, occ_eq]
  have key := occ_first x ⟨#[c]⟩ x.length (fun j => decide (x.cps.toList[j]? = some c)) (fun j => by rw [decide_eq_true_eq, subAt_one]) (List.range' i (x.length + 1 - i)) i (fun j m => (List.mem_range'_1.mp m).1)
  rw [key, find_range _ _ _ _ (by omega)]
  by_cases h5 : nextAt x.cps.toList c i < x.cps.toList.length
  · rw [if_pos h5, if_pos h5]; rfl
  · rw [if_neg h5, if_neg h5]; rfl
end PV

/-! PV: texts by their signs. -/
namespace PV
open PySem PySem.Spec L2
def tx (l : List Nat) : Str := ⟨l.toArray⟩
theorem tx_of (x : Str) : x = tx x.cps.toList := rfl
@[simp] theorem tx_list (l : List Nat) : (tx l).cps.toList = l := rfl
@[simp] theorem tx_len (l : List Nat) : (tx l).length = l.length := by simp [tx, Str.length]
theorem tx_inj {l m : List Nat} : tx l = tx m ↔ l = m := ⟨fun h => by simpa using congrArg (fun z : Str => z.cps.toList) h, fun h => by rw [h]⟩
/-- c stands in y -/
def hasC (y : Str) (c : Nat) : Bool := decide (c ∈ y.cps.toList)
section
variable {s : S} {l m : List Nat} {c i : Nat} {n : Bool}
@[simp] theorem t_len (hs : l.length ≤ sizeLine) : lenD (.str (tx l)) = some (false, .int l.length) := by simp [hs]
@[simp] theorem t_ix (hs : l.length ≤ sizeLine) (h : l[i]? = some c) : ixD (.str (tx l)) (.int i) = some (false, .str (tx [c])) := by
  rw [v_ixS, tx_len, if_pos hs, tx_list, at_nat, h]; rfl
@[simp] theorem t_in {y : Str} : inD n (.str (tx [c])) (.str y) = some (false, .bl (if n then !hasC y c else hasC y c)) := by
  have e : inStr (tx [c]) y = hasC y c := PySem.StrLaws.found_one y c
  unfold inD
  simp only [e]
theorem t_cut {i j : Nat} (h : i ≤ l.length) : cutS (tx l) (some (i : Int)) (some (j : Int)) = tx ((l.drop i).take (j - i)) := by
  unfold cutS
  rw [tx_list, tx_len, HT.sIx_nat, HT.sIx_nat, Nat.min_eq_left h]
  have : (l.drop i).take (min j l.length - i) = (l.drop i).take (j - i) := by
    by_cases hj : j ≤ l.length
    · rw [Nat.min_eq_left hj]
    · rw [Nat.min_eq_right (by omega), List.take_of_length_le (by simp), List.take_of_length_le (by simp; omega)]
  rw [this]
  rfl
theorem t_drop {i : Nat} (h : i ≤ l.length) : cutS (tx l) (some (i : Int)) none = tx (l.drop i) := by
  unfold cutS
  rw [tx_list, tx_len, HT.sIx_nat, HT.sIx_none, Nat.min_eq_left h]
  rw [List.take_of_length_le (by simp)]
  rfl
theorem t_slice {i j : Nat} (hs : l.length ≤ sizeLine) (h : i ≤ l.length) : sliceD (some (i : Int)) (some (j : Int)) (.str (tx l)) = some (false, .str (tx ((l.drop i).take (j - i)))) := by
  show (if (tx l).length ≤ sizeLine then some (false, D.str (cutS (tx l) (some (i : Int)) (some (j : Int)))) else none) = _
  rw [if_pos (by simpa using hs), t_cut h]
theorem t_tail {i : Nat} (hs : l.length ≤ sizeLine) (h : i ≤ l.length) : sliceD (some (i : Int)) none (.str (tx l)) = some (false, .str (tx (l.drop i))) := by
  show (if (tx l).length ≤ sizeLine then some (false, D.str (cutS (tx l) (some (i : Int)) none)) else none) = _
  rw [if_pos (by simpa using hs), t_drop h]
theorem t_signs : signs (tx l) = l.map fun c => .str (tx [c]) := rfl
theorem t_find (h : i ≤ l.length) : findD (tx l) [.str (tx [c]), .int i] = some (false, .int (if nextAt l c i < l.length then ((nextAt l c i : Nat) : Int) else -1)) := by
  unfold findD
  have := find_one (tx l) c i (by simpa using h)
  rw [tx_list] at this
  simp only []
  rw [show (⟨#[c]⟩ : Str) = tx [c] from rfl] at this
  rw [this]
@[simp] theorem ev_chain (g g' : D → D → Option (Bool × D)) (a b c : M (Bool × D)) : chainM g g' a b c s = (a s).bind fun x s1 => (b s1).bind fun y s2 => match g x.2 y.2 with
  | some (_, .bl true) => (c s2).bind fun z s3 => (match g' y.2 z.2 with | some r => .ok r s3 | none => .stuck)
  | some (_, .bl false) => .ok (false, .bl false) s2
  | _ => .stuck := rfl
@[simp] theorem ev_sl_ll (a l h : Opd) : sliceM a (some l) (some h) s = opsM [a, .ex (intM l), .ex (intM h)] (fun ds s => match ds with
    | [x, .int i, .int j] => (match sliceD (some i) (some j) x with | some r => .ok r s | none => .stuck)
    | _ => .stuck) s := rfl
@[simp] theorem ev_sl_l (a l : Opd) : sliceM a (some l) none s = opsM [a, .ex (intM l)] (fun ds s => match ds with
    | [x, .int i] => (match sliceD (some i) none x with | some r => .ok r s | none => .stuck)
    | _ => .stuck) s := rfl
@[simp] theorem ev_aug (g : D → D → Option (Bool × D)) (i : Nat) (f : M (Bool × D)) : augM g i f s = match s[i]? with
  | some (some (.io, _)) => .stuck
  | some (some (_, _)) => (f s).bind fun y s' => (match s'[i]? with
    | some (some (_, dx)) => (match g dx y.2 with
      | some (false, z) => (match putS s' i .sh z with | some s2 => .ok .nx s2 | none => .stuck)
      | _ => .stuck)
    | _ => .stuck)
  | _ => .stuck := rfl
@[simp] theorem v_addI2 {i j : Int} : addI (.int i) (.int j) = some (false, .int (i + j)) := rfl
@[simp] theorem t_le {a b : Nat} : leD (.str (tx [a])) (.str (tx [b])) = some (false, .bl (decide (a ≤ b))) := by
  show some (false, D.bl (!decide ((tx [b]).cps.toList < (tx [a]).cps.toList))) = _
  rw [tx_list, tx_list]
  have : (!decide ([b] < [a])) = decide (a ≤ b) := by
    rw [Bool.eq_iff_iff]
    simp [List.cons_lt_cons_iff]
  rw [this]
@[simp] theorem t_eq {a b : List Nat} : eqS n (.str (tx a)) (.str (tx b)) = some (false, .bl (if n then !decide (a = b) else decide (a = b))) := by
  rw [v_eqT]
  have : decide (tx a = tx b) = decide (a = b) := by
    rw [Bool.eq_iff_iff, decide_eq_true_eq, decide_eq_true_eq]
    exact tx_inj
  rw [this]
/-- the run of signs p from i on ends here -/
def runTo (p : Nat → Bool) (l : List Nat) (i : Nat) : Nat := i + ((l.drop i).takeWhile p).length
theorem runTo_end {p : Nat → Bool} (h : l.length ≤ i) : runTo p l i = i := by
  unfold runTo; rw [List.drop_eq_nil_of_le h]; rfl
theorem runTo_yes {p : Nat → Bool} (h : l[i]? = some c) (hp : p c = true) : runTo p l i = runTo p l (i + 1) := by
  obtain ⟨h1, h2⟩ := List.getElem?_eq_some_iff.mp h
  unfold runTo
  rw [List.drop_eq_getElem_cons h1, h2, List.takeWhile_cons_of_pos hp, List.length_cons]
  omega
theorem runTo_no {p : Nat → Bool} (h : l[i]? = some c) (hp : p c = false) : runTo p l i = i := by
  obtain ⟨h1, h2⟩ := List.getElem?_eq_some_iff.mp h
  unfold runTo
  rw [List.drop_eq_getElem_cons h1, h2, List.takeWhile_cons_of_neg (by simp [hp])]
  rfl
theorem runTo_ge {p : Nat → Bool} : i ≤ runTo p l i := Nat.le_add_right _ _
theorem runTo_le {p : Nat → Bool} (h : i ≤ l.length) : runTo p l i ≤ l.length := by
  unfold runTo
  have := (List.takeWhile_sublist p (l := l.drop i)).length_le
  rw [List.length_drop] at this
  omega
theorem runTo_congr {p q : Nat → Bool} (h : ∀ c, p c = q c) : runTo p l i = runTo q l i := by rw [show p = q from funext h]
end
theorem txts_map : ∀ ys : List Str, txts (ys.map D.str) = some ys
  | [] => rfl
  | y :: ys => by
    have h := txts_map ys
    simp only [List.map_cons]
    unfold txts
    simp [h]
end PV

/-! PV: raise, try. -/
namespace PV
open PySem PySem.Spec L2
/-- C(e, ..) with the fields fn in a row, as what flies -/
def tMkX (C : Addr) (fn : List Str) (ta : TA) : St → Hp → XK → Prop := fun σ H Q => ta σ H fun vs H1 => vs.length = fn.length ∧ ∀ d, H1 d = none → Q (.ref C) (some d) (upd H1 d (.xd (fn.zip vs)))
/-- raise c(e, ..) -/
def raiseM (c : Str) (fn : List Str) (os : List Opd) : M Fl := opsM os fun ds s => if os.all Opd.isEx = true ∧ ds.length = fn.length ∧ fn ≠ [] then .exc ⟨c, fn.zip ds⟩ s else .stuck
theorem zip_fst {α β : Type} : ∀ {xs : List α} {ys : List β}, ys.length = xs.length → (xs.zip ys).map (·.1) = xs
  | [], _, _ => rfl
  | x :: xs, [], h => by simp at h
  | x :: xs, y :: ys, h => by simp [zip_fst (xs := xs) (ys := ys) (by simpa using h)]
theorem zip_snd {α β : Type} : ∀ {xs : List α} {ys : List β}, ys.length = xs.length → (xs.zip ys).map (·.2) = ys
  | [], [], _ => rfl
  | [], _ :: _, h => by simp at h
  | x :: xs, [], h => rfl
  | x :: xs, y :: ys, h => by simp [zip_snd (xs := xs) (ys := ys) (by simpa using h)]
theorem ds_raise {X : Cx} {E : WX} {e : Expr} {c : Str} {fn : List Str} {os : List Opd} {pos : Pos} (hc : X.calm = true) (tk : Takes X E) (he : PMk X e (tMkX (He.ga X.K c) fn (rdOs X.K E os))) : PS X (.Raise (some e) none pos) (tS X.K E (raiseM c fn os)) :=
  (ps_raise hc tk he).imp fun Dn σ H h => by
    obtain ⟨P, B, ia, s, Fs, r, w⟩ := h
    refine rdOps r w (fun x s' q => q.to) fun ds s1 vs H1 Gs Fs1 q ov fr r1 => ?_
    split at q
    · rename_i hh
      obtain ⟨h1, h2, h3⟩ := hh
      obtain ⟨l1, l2⟩ := ov.length
      obtain ⟨G, g1, g2, g3⟩ := ov.reps h1
      have lv : vs.length = fn.length := by rw [← l1, h2]
      refine ⟨lv, fun d hd => ?_⟩
      have f1 : Fr P H1 (upd H1 d (.xd (fn.zip vs))) := Fr.new hd r1.tr
      refine q σ _ _ _ ⟨Fs1, fr.trans f1, r1.new hd, rfl, .inr ⟨d, fn.zip vs, G, rfl, upd_same, by rw [zip_fst lv, zip_fst h2], ?_⟩⟩
      rw [zip_snd lv, zip_snd h2]
      exact Reps.keep f1.i g1 fun a m => upd_ne fun z => g1.tr a m (z ▸ hd)
    · exact q.elim
end PV
namespace PV
open PySem PySem.Spec L2
/-- try: body; except c: suite (that lets nothing out) -/
def tryM (mt : Str → Option Bool) (body suite : M Fl) : M Fl := fun s => match body s with
  | .exc x s' => (match mt x.cls with
    | some true => nox (suite s')
    | some false => .exc x s'
    | none => .stuck)
  | r => r
theorem nox_any {α : Type} {E E' : Exn → S → Prop} {Q : α → S → Prop} {r : Res α} (h : Post E Q (nox r)) : Post E' Q r := by
  cases r with
  | ok a s => exact h
  | exc x s => exact h.elim
  | stuck => exact h
theorem tS_try {K : PySem.W.Frag} {E : WX} {c : Value} {mt : Str → Option Bool} {body suite : M Fl} (hmt : ∀ y b, mt y = some b → PySem.W.exmOne K (.ref (He.ga K y)) c = some b) (D : Ends) (σ : St) (H : Hp) (h : tS K E (tryM mt body suite) D σ H) :
    tS K (wOnly K c (fun _ _ _ => tS K EN suite) E D) body D σ H := by
  obtain ⟨P, B, ia, s, Fs, r, w⟩ := h
  refine ⟨P, B, ia, s, Fs, r, ?_⟩
  unfold tryM at w
  cases hb : body s with
  | stuck => rw [hb] at w; exact w.elim
  | ok fl s' => rw [hb] at w; exact w
  | exc x s' =>
    rw [hb] at w
    dsimp only at w
    intro σ' cls dx H' rx
    obtain ⟨Fs', fr, sr, xr⟩ := rx
    obtain ⟨ec, xr'⟩ := xr
    cases hm : mt x.cls with
    | none => rw [hm] at w; exact w.elim
    | some b =>
      rw [hm] at w
      refine ⟨b, by rw [ec]; exact hmt _ _ hm, fun e a _ => ?_, fun e => ?_⟩
      · subst e
        dsimp only at w
        exact ⟨P, B, ia, s', Fs', sr, (nox_any (E' := XPd K P B ia H EN) w).mono (fun y s2 q => q.step fr) fun fl s2 q => q.step fr⟩
      · subst e
        dsimp only at w
        exact w σ' cls dx H' ⟨Fs', fr, sr, ec, xr'⟩
theorem ds_try {X : Cx} {E : WX} {x : Str} {c : Value} {body suite : List Stmt} {b₀ : Stmt} {np pos pos' : Pos} {mt : Str → Option Bool} {fb fs : M Fl} (hs : X.stack = X.env :: X.outer) (hf : X.env.frame = some X.env.locals) (hc : Names X x c) (tk : Takes X E)
    (hmt : ∀ y b, mt y = some b → PySem.W.exmOne X.K (.ref (He.ga X.K y)) c = some b)
    (hb : ∀ (W : WX) (pn : List (Addr × Obj)) (xe : Value → Shared → Prop), Takes (X.tr pn xe) W → PassesOwn (model X.prog X.w) X.A X.env xe → PSs (X.tr pn xe) body (tS X.K W fb))
    (hsu : ∀ (a : Addr) (oe : Obj) (cls : Value) (d : Option Addr) (pn : List (Addr × Obj)), Zc cls d oe → (∃ vs, oe.data = .fields vs) → PSs (X.suite a ((a, oe) :: pn)) (b₀ :: suite) (tS X.K EN fs)) :
    PS X (.Try body [.ExceptHandler (some (.Name x np)) none (b₀ :: suite) pos'] [] [] pos) (tS X.K E (tryM mt fb fs)) :=
  (ps_try_only (tb := fun W => tS X.K W fb) (ts := fun _ _ _ => tS X.K EN fs) hs hf hc tk hb hsu).imp (tS_try hmt)
end PV
namespace PV
open PySem PySem.Spec L2
/-! ### making an own exception: its __init__ stores one parameter -/
def spIni1 (C : Addr) (f : Str) : Sp := fun vs H Q _ => ∃ (a : Addr) (v : V), vs = [.ref a, v] ∧ H a = some (exo a C none) ∧ ∀ dx, H dx = none → dx ≠ a → Q .non (upd (upd H dx (exd dx [(f, v)])) a (exo a C (some dx)))
section
variable {P : Program} {w : World} {K : PySem.W.Frag} {mg : Str → Option Value} {base : Heap}
theorem ini1_ok {x qual f : Str} {N ps : List Str} {params : Arguments} {body : List Stmt} {scope : Scope} {fI C : Addr} {fd : FuncData} {k : Nat} (F : FunD K x qual params body scope [] [] fI fd) (S : FnScope N ps scope) (hp : ps.length = 2) (hN : N.length = 2) (T : OexC K C) (hno : PySem.W.findIn K (.ref C) f = some none)
    (hbody : ∀ (cdv : Value) (A : Around) (outer : List Env) (s : Shared) (H : Hp) (E : XK), PSs (cxOf (L2.CX P w) P w K mg base N qual scope fI cdv A outer s H E) body (tOst K f (tVar 0) (tVar 1))) :
    FnOk P w K mg base (L2.CX P w) (k + 1) fI fd ps (spIni1 C f) := by
  refine F.ok S (fun vs H Q E h => ?_) fun cdv A outer s H vs Q E hr h => ⟨_, hbody cdv A outer s H E, ?_⟩
  · obtain ⟨a, v, rfl, _⟩ := h
    exact hp.symm
  · obtain ⟨a, v, rfl, ha, q⟩ := h
    have st : L2.start N [.ref a, v] = [some (.ref a), some v] := by
      unfold L2.start
      simp [hN]
    rw [st]
    exact ⟨v, rfl, .ref a, rfl, a, C, rfl, T, hno, .inl ⟨ha, fun dx hd hne => q dx hd hne⟩⟩
end
theorem mk_x1 {X : Cx} {C : Addr} {f : Str} {ta : TA} {e : Expr} (h : PMk X e (tMkO C (spIni1 C f) [] ta)) (hta : ∀ σ H R R', (∀ vs H1, R vs H1 → R' vs H1) → ta σ H R → ta σ H R') : PMk X e (tMkX C [f] ta) := by
  intro pins s σ H Q I w
  refine h pins s σ H Q I (hta σ H _ _ (fun vs H1 q => ?_) w)
  obtain ⟨hl, q⟩ := q
  match vs, hl with
  | [v], _ =>
    refine ⟨by simp, fun a ha => ⟨a, v, rfl, upd_same, fun dx hd hne => ⟨rfl, dx, [(f, v)], upd_same, ?_, ?_, ?_⟩⟩⟩
    · rw [upd_ne hne, upd_same]
    · rw [upd_ne hne] at hd; exact hd
    · rw [upd_ne hne] at hd
      have e : upd (del (upd (upd (upd H1 a (exo a C none)) dx (exd dx [(f, v)])) a (exo a C (some dx))) a) dx (.xd [(f, v)]) = upd H1 dx (.xd [(f, v)]) := by
        funext b
        by_cases h1 : b = dx
        · subst h1; rw [upd_same, upd_same]
        · rw [upd_ne h1, upd_ne h1]
          by_cases h2 : b = a
          · subst h2; rw [del_same, ha]
          · rw [del_ne h2, upd_ne h2, upd_ne h1, upd_ne h2]
      rw [e]
      exact q dx hd
theorem rdOs_up {K : PySem.W.Frag} {E : WX} (os : List Opd) (σ : St) (H : Hp) (R R' : List V → Hp → Prop) (q : ∀ vs H1, R vs H1 → R' vs H1) (h : rdOs K E os σ H R) : rdOs K E os σ H R' := rdOs_mono h q
end PV
namespace PV
open PySem PySem.Spec L2
/-- such a class, looked at -/
def oexO (C : Addr) : Obj → Bool
  | ⟨.type t, _, .cls cd, ⟨[_, _, _, _, some (.builtin n), _]⟩⟩ => decide (t = "type") && (decide (n = "ValueError.__new__") && (cd.hasDict && (!cd.hasDel && (match cd.mro with
    | .ref c :: bm => decide (c = C) && PySem.HandSPX.refsVE bm
    | _ => false))))
  | _ => false
theorem oexO_ok {C : Addr} {o : Obj} (h : oexO C o = true) : ∃ nm q N bs bm sn sub ab col dd k0 k1 k2 k3 k5, o = excClassObj nm q C N bs bm true sn sub ab col dd k0 k1 k2 k3 k5 "ValueError.__new__" ∧ PySem.HandSPX.refsVE bm = true := by
  unfold oexO at h
  split at h
  · rename_i t dd cd k0 k1 k2 k3 n k5
    simp only [Bool.and_eq_true, decide_eq_true_eq] at h
    obtain ⟨rfl, rfl, h1, h2, h3⟩ := h
    obtain ⟨nm, bs, mro, ns, qn, hd, sn, sb, ab, col, del⟩ := cd
    dsimp only at h1 h2 h3
    split at h3
    · rename_i c bm
      simp only [Bool.and_eq_true, decide_eq_true_eq] at h3
      obtain ⟨rfl, h4⟩ := h3
      subst h1
      have e : del = false := by cases del with
        | false => rfl
        | true => cases h2
      subst e
      exact ⟨nm, qn, ns, bs, bm, sn, sb, ab, col, dd, k0, k1, k2, k3, k5, rfl, h4⟩
    · cases h3
  · cases h
def oexB (K : PySem.W.Frag) (x : Str) : Bool := (match K.lookup (He.ga K x) with
  | some o => oexO (He.ga K x) o
  | none => false) && (decide (PySem.W.findIn K (.ref (He.ga K x)) "__setattr__" = some (some (.builtin "object.__setattr__"))) && (decide (PySem.W.subIn K (.ref (He.ga K x)) (.type "BaseException") = some true) && (decide (PySem.W.typeIn K (.ref (He.ga K x)) = some (.type "type")) && PySem.W.keepIn K (.ref (He.ga K x)))))
theorem oexB_ok {K : PySem.W.Frag} {x : Str} (h : oexB K x = true) : OexC K (He.ga K x) := by
  unfold oexB at h
  simp only [Bool.and_eq_true, decide_eq_true_eq] at h
  obtain ⟨h1, h2, h3, h4, h5⟩ := h
  refine ⟨?_, h2, h3, h4, h5⟩
  split at h1
  · rename_i o e
    obtain ⟨nm, q, N, bs, bm, sn, sub, ab, col, dd, k0, k1, k2, k3, k5, r, g⟩ := oexO_ok h1
    exact ⟨nm, q, N, bs, bm, sn, sub, ab, col, dd, k0, k1, k2, k3, k5, by rw [e, r], g⟩
  · cases h1
/-- the own exception c with the one field f, made at level k -/
structure X1 (P : Program) (w : World) (K : PySem.W.Frag) (mg : Str → Option Value) (base : Heap) (k : Nat) (c f : Str) (ps : List Str) : Prop where
  t : OexC K (He.ga K c)
  g : mg c = some (.ref (He.ga K c))
  i : PySem.W.findIn K (.ref (He.ga K c)) "__init__" = some (some (.ref (He.ma K (He.ga K c) "__init__")))
  y : PySem.W.typeIn K (.ref (He.ma K (He.ga K c) "__init__")) = some (.type "function")
  f : ∃ fd : FuncData, FnOk P w K mg base (L2.CX P w) k (He.ma K (He.ga K c) "__init__") fd ps (spIni1 (He.ga K c) f) ∧ Binds K fd ps []
theorem pass_no {X : Cx} {E : XK} (h : ∀ cls d H', ¬ E cls d H') : Passes (L2.CX X.prog X.w) X E := by
  intro pins σ H e s' I c
  first
    | (obtain ⟨_, _, _, _, _, _, _, _, _, _, _, _, z⟩ := c; exact absurd z (h _ _ _))
    | (intro z; obtain ⟨_, _, _, _, _, _, _, _, _, _, _, _, z⟩ := z; exact absurd z (h _ _ _))
theorem ds_raise1 {X : Cx} {E : WX} {k : Nat} {c f : Str} {ps : List Str} {e : Expr} {o : Opd} {p pos pos' : Pos} (R : X1 X.prog X.w X.K X.mg X.base k c f ps) (hr : Room (k + 1) X.A) (hc : X.calm = true) (tk : Takes X E) (ha : PAd X E [e] [o]) (hg : Gl X c := by rfl)
    (hdb : (c == ("__debug__" : Str)) = false := by decide) (he : starEach [e] X.env = (false, eval e X.env) :: starEach [] X.env := by rfl) (hpl : (backTo pos (starEach [] X.env)).any (·.1) = false := by rfl) :
    PS X (.Raise (some (.Call (.Name c p) [e] [] pos)) none pos') (tS X.K E (raiseM c [f] [o])) := by
  obtain ⟨fd, F1, hb⟩ := R.f
  exact ds_raise hc tk (mk_x1 (pmk_oex (ds := []) (dvs := []) R.t R.i R.y F1 hr hb .nil (pass_no fun _ _ _ z => z) hg R.g ha hdb he hpl) fun σ H R R' q h => rdOs_up _ σ H R R' q h)
end PV
namespace PV
open PySem PySem.Spec L2
section
variable {K : PySem.W.Frag} {P B : Addr → Prop} {ia : Nat → Addr} {s : S} {σ : St} {H H' : Hp} {Fs : Nat → List Addr}
/-- what a dead slot's variable holds is nobody's matter -/
theorem SR.dirt (r : SR K P B ia s σ H Fs) {i : Nat} {x : Option V} (hi : s[i]? = some none) : SR K P B ia s (σ.set i x) H Fs := by
  have ne : ∀ {j : Nat} {o : Own} {d : D}, s[j]? = some (some (o, d)) → j ≠ i := fun {j o d} e z => by subst z; rw [hi] at e; cases e
  refine ⟨by rw [List.length_set]; exact r.len, fun j o d e => ?_, fun j o d e n => ?_, fun j d e => ?_, r.dead, r.inB, r.tr, r.nb⟩
  · rw [List.getElem?_set_ne (ne e).symm]; exact r.rep j o d e
  · rw [List.getElem?_set_ne (ne e).symm]; exact r.own j o d e n
  · rw [List.getElem?_set_ne (ne e).symm]; exact r.iov j d e
theorem flat_rep {d : D} {v : V} {F : List Addr} (h : Rep K H d v F) (e : d.flt.isSome = true) : Rep K H d v [] := by
  cases h with
  | non => exact .non
  | bl => exact .bl
  | int => exact .int
  | str => exact .str
  | ty => cases e
  | tup _ _ => cases e
  | lst _ _ => cases e
  | lsz _ _ => cases e
  | dct _ _ => cases e
  | dcl _ _ => cases e
theorem fld_at {f : Str} {dv : D} : ∀ {fs : List (Str × D)} {kvs : List (Str × V)} {F : List Addr}, kvs.map (·.1) = fs.map (·.1) → Reps K H (fs.map (·.2)) (kvs.map (·.2)) F → fs.lookup f = some dv → ∃ v G, kvs.lookup f = some v ∧ Rep K H dv v G
  | [], kvs, F, hk, hr, e => by simp at e
  | (g, d) :: fs, [], F, hk, hr, e => by simp at hk
  | (g, d) :: fs, (g', v) :: kvs, F, hk, hr, e => by
    simp only [List.map_cons, List.cons.injEq] at hk
    obtain ⟨rfl, hk⟩ := hk
    simp only [List.map_cons] at hr
    cases hr with
    | cons h1 h2 =>
      rw [List.lookup_cons] at e ⊢
      cases hq : f == g' with
      | true => rw [hq] at e; cases e; exact ⟨v, _, rfl, h1⟩
      | false => rw [hq] at e; exact fld_at hk h2 e
end
/-- try: body; except c as e: return mk(e.f) -/
def tryAsM (c f : Str) (i : Nat) (mt : Str → Option Bool) (mk : D → D) (body : M Fl) : M Fl := fun s => match body s with
  | .exc x s' => (match mt x.cls with
    | some true => if x.cls = c then (match x.fs.lookup f, s'[i]? with
      | some dv, some none => if dv.flt.isSome = true then .ok (.rt false (mk dv)) s' else .stuck
      | _, _ => .stuck) else .stuck
    | some false => .exc x s'
    | none => .stuck)
  | r => r
/-- the suite's reading that goes with mk -/
def MkOk (K : PySem.W.Frag) (c f : Str) (i : Nat) (mk : D → D) (ts : Addr → Value → Option Addr → TS) : Prop :=
  ∀ {P B : Addr → Prop} {ia : Nat → Addr} {s : S} {σ : St} {H H0 : Hp} {Fs : Nat → List Addr} {a dd : Addr} {kvs : List (Str × V)} {dv : D} {v : V} {Dn : Ends}, SR K P B ia s σ H Fs → Fr P H0 H → σ[i]? = some (some (.ref a)) → H dd = some (.xd kvs) → kvs.lookup f = some v → Rep K H dv v [] →
    (∀ w H', RV K P B ia s σ H0 H' false (mk dv) w → Dn.rt w H') → ts a (.ref (He.ga K c)) (some dd) Dn σ H
theorem tS_tryAs {K : PySem.W.Frag} {E : WX} {c f : Str} {i : Nat} {cv : Value} {mt : Str → Option Bool} {mk : D → D} {body : M Fl} {ts : Addr → Value → Option Addr → TS} (hmt : ∀ y b, mt y = some b → PySem.W.exmOne K (.ref (He.ga K y)) cv = some b) (hm : MkOk K c f i mk ts) (D : Ends) (σ : St) (H : Hp) (h : tS K E (tryAsM c f i mt mk body) D σ H) :
    tS K (wAs K cv i ts E D) body D σ H := by
  obtain ⟨P, B, ia, s, Fs, r, w⟩ := h
  refine ⟨P, B, ia, s, Fs, r, ?_⟩
  unfold tryAsM at w
  cases hb : body s with
  | stuck => rw [hb] at w; exact w.elim
  | ok fl s' => rw [hb] at w; exact w
  | exc x s' =>
    rw [hb] at w
    dsimp only at w
    intro σ' cls dx H' rx
    obtain ⟨Fs', fr, sr, xr⟩ := rx
    obtain ⟨ec, xr'⟩ := xr
    cases hq : mt x.cls with
    | none => rw [hq] at w; exact w.elim
    | some b =>
      rw [hq] at w
      refine ⟨b, by rw [ec]; exact hmt _ _ hq, fun e a _ => ?_, fun e => ?_⟩
      · subst e
        dsimp only at w
        split at w
        · rename_i hx
          split at w
          · rename_i dv e1 e2
            split at w
            · rename_i hf
              rcases xr' with ⟨e0, _⟩ | ⟨dd, kvs, F, rfl, h1, h2, h3⟩
              · rw [e0] at e1; cases e1
              · obtain ⟨v, G, g1, g2⟩ := fld_at h2 h3 e1
                have hi : i < σ'.length := by rw [← sr.len]; exact (List.getElem?_eq_some_iff.mp e2).1
                subst ec
                rw [hx]
                exact hm (sr.dirt e2) fr (List.getElem?_set_self hi) h1 g1 (flat_rep g2 hf) fun w' H2 rv => w w' _ H2 rv
            · exact w.elim
          · exact w.elim
        · exact w.elim
      · subst e
        dsimp only at w
        exact w σ' cls dx H' ⟨Fs', fr, sr, ec, xr'⟩
end PV
namespace PV
open PySem PySem.Spec L2
abbrev tsId (K : PySem.W.Frag) (c f : Str) (i : Nat) : Addr → Value → Option Addr → TS := fun a cls d => tRet (tXf a cls d (He.ga K c) f (tVar i))
abbrev tsTag (K : PySem.W.Frag) (c f : Str) (i : Nat) (z : Str) : Addr → Value → Option Addr → TS := fun a cls d => tRet (tTup (tCons (tC (.str z)) (tCons (tXf a cls d (He.ga K c) f (tVar i)) tNil)))
theorem mk_id {K : PySem.W.Frag} {c f : Str} {i : Nat} : MkOk K c f i (fun d => d) (tsId K c f i) := by
  intro P B ia s σ H H0 Fs a dd kvs dv v Dn r fr hs hd hl hr q
  exact ⟨.ref a, hs, rfl, rfl, dd, kvs, v, rfl, hd, hl, q v H (.flat hr fr r)⟩
theorem mk_tag {K : PySem.W.Frag} {c f z : Str} {i : Nat} : MkOk K c f i (fun d => .tup [.str z, d]) (tsTag K c f i z) := by
  intro P B ia s σ H H0 Fs a dd kvs dv v Dn r fr hs hd hl hr q
  refine ⟨.ref a, hs, rfl, rfl, dd, kvs, v, rfl, hd, hl, ?_, fun p np => q _ _ ?_⟩
  · show 2 ≤ sizeLine
    decide
  · have h : Reps K H [.str z, dv] [.str z, v] [] := .cons (F := []) .str (.cons (F := []) hr .nil)
    exact .tup h .nil (fun _ m => nomatch m) fr r np
theorem ds_tryAs {X : Cx} {E : WX} {x n c f : Str} {cv : Value} {i : Nat} {body suite : List Stmt} {b₀ : Stmt} {np pos pos' : Pos} {mt : Str → Option Bool} {mk : D → D} {fb : M Fl} {ts : Addr → Value → Option Addr → TS} (hs : X.stack = X.env :: X.outer) (hf : X.env.frame = some X.env.locals) (hN : X.N.Nodup) (hi : X.N[i]? = some n) (hln : X.env.kindOf n = some .local) (hc : Names X x cv) (tk : Takes X E)
    (hmt : ∀ y b, mt y = some b → PySem.W.exmOne X.K (.ref (He.ga X.K y)) cv = some b) (hm : MkOk X.K c f i mk ts)
    (hb : ∀ (W : WX) (pn : List (Addr × Obj)) (xe : Value → Shared → Prop), Takes (X.tr pn xe) W → PassesOwn (model X.prog X.w) X.A X.env xe → PSs (X.tr pn xe) body (tS X.K W fb))
    (hsu : ∀ (a : Addr) (oe : Obj) (cls : Value) (d : Option Addr) (pn : List (Addr × Obj)), Zc cls d oe → (∃ vs, oe.data = .fields vs) → PSs (X.suite a ((a, oe) :: pn)) (b₀ :: suite) (ts a cls d)) :
    PS X (.Try body [.ExceptHandler (some (.Name x np)) (some n) (b₀ :: suite) pos'] [] [] pos) (tS X.K E (tryAsM c f i mt mk fb)) :=
  (ps_try_as (tb := fun W => tS X.K W fb) (ts := ts) (Wout := E) hs hf hN hi hln hc tk hb hsu).imp (tS_tryAs hmt hm)
end PV
namespace PV
open PySem PySem.Spec L2
/-- all that X1 asks of the class -/
def x1B (K : PySem.W.Frag) (x : Str) : Bool := oexB K x && (decide (PySem.W.findIn K (.ref (He.ga K x)) "__init__" = some (some (.ref (He.ma K (He.ga K x) "__init__")))) && (decide (PySem.W.typeIn K (.ref (He.ma K (He.ga K x) "__init__")) = some (.type "function")) && xfB K (He.ga K x)))
theorem x1B_ok {K : PySem.W.Frag} {x : Str} (h : x1B K x = true) : OexC K (He.ga K x) ∧ PySem.W.findIn K (.ref (He.ga K x)) "__init__" = some (some (.ref (He.ma K (He.ga K x) "__init__"))) ∧ PySem.W.typeIn K (.ref (He.ma K (He.ga K x) "__init__")) = some (.type "function") ∧ XfC K (He.ga K x) := by
  unfold x1B at h
  simp only [Bool.and_eq_true, decide_eq_true_eq] at h
  exact ⟨oexB_ok h.1, h.2.1, h.2.2.1, xfB_ok h.2.2.2⟩
end PV

/-! PV: further walks. -/
namespace PV
open PySem PySem.Spec L2
/-- range(i, j) -/
noncomputable def rng2M (f g : M (Bool × D)) : M (List D) := opsM [.ex f, .ex g] fun ds s => match ds with
  | [.int i, .int j] => if gd (-(2 ^ 62) ≤ i ∧ i < 2 ^ 62 ∧ -(2 ^ 62) ≤ j ∧ j < 2 ^ 62) = true then .ok (intsD i (j - i).toNat) s else .stuck
  | _ => .stuck
theorem di_rng2 {X : Cx} {E : WX} {tg a b : Expr} {f g : M (Bool × D)} {p pos : Pos} (hg : Gl X "range") (hm : X.mg "range" = none) (ha : PAd X E [a, b] [.ex f, .ex g]) (hs : starEach [a, b] X.env = [(false, eval a X.env), (false, eval b X.env)] := by rfl) (hs2 : starEach [b] X.env = [(false, eval b X.env)] := by rfl) :
    PI X tg (.Call (.Name "range" p) [a, b] [] pos) (tI X.K E (rng2M f g)) :=
  (pi_range2 hg hm ha hs hs2).imp fun σ H R h => by
    obtain ⟨P, B, ia, s, Fs, r, w⟩ := h
    refine rdOps r w (fun _ _ q => q) fun ds s1 vs H1 Gs Fs1 q ov fr r1 => ?_
    split at q
    · rename_i i j
      split at q
      · rename_i hj
        have hj := gd_iff.mp hj
        cases ov with
        | cons h1 _ _ ov =>
          cases ov with
          | cons h2 _ _ ov =>
            cases ov with
            | nil => exact ⟨i, j, by rw [h1.int_inv, h2.int_inv], hj, q _ H1 P Fs1 (fun b m => m) fr r1 it_range⟩
      · exact q.elim
    · exact q.elim
end PV

/-! PV: range with a step, zip of a text and a sequence, int of a text, dicts of the module. -/
namespace PV
open PySem PySem.Spec L2

/-! ### range(a, b, c) -/
def stepsD (lo c : Int) (n : Nat) : List D := (List.range n).map fun i => .int (lo + (i : Nat) * c)
theorem it_rangeC {K : PySem.W.Frag} {P B : Addr → Prop} {H : Hp} {lo c : Int} {n : Nat} : ItOK K P B (Itc lo c n) (stepsD lo c n) H := by
  refine ⟨fun _ => True, trivial, fun _ _ _ _ => trivial, fun i H1 _ => ⟨fun d e => ?_, fun hl => ?_⟩⟩
  · unfold stepsD at e
    rw [List.getElem?_map] at e
    obtain ⟨k, e1, e2⟩ := Option.map_eq_some_iff.mp e
    obtain ⟨h1, h2⟩ := List.getElem?_eq_some_iff.mp e1
    simp at h1 h2
    subst h2
    refine ⟨h1, fun v H2 y => ?_⟩
    obtain ⟨rfl, rfl⟩ := y
    subst e2
    exact ⟨.inl rfl, [], .int, nofun, nofun⟩
  · show n ≤ i
    simp [stepsD] at hl; omega
noncomputable def rng3D : D → D → D → Option (List D)
  | .int i, .int j, .int c => if gd (c ≠ 0 ∧ c.natAbs < 1073741824 ∧ Builtin.Range.small i j c = true ∧ 0 ≤ Builtin.Range.rangeSize i j c) = true then some (stepsD i c (Builtin.Range.rangeSize i j c).toNat) else none
  | _, _, _ => none
noncomputable def rng3M (f g h : M (Bool × D)) : M (List D) := opsM [.ex f, .ex g, .ex h] fun ds s => match ds with
  | [a, b, c] => (match rng3D a b c with
    | some ds => .ok ds s
    | none => .stuck)
  | _ => .stuck
@[simp] theorem ev_rng3 (f g h : M (Bool × D)) (s : S) : rng3M f g h s = opsM [.ex f, .ex g, .ex h] (fun ds s => match ds with
  | [a, b, c] => (match rng3D a b c with
    | some ds => .ok ds s
    | none => .stuck)
  | _ => .stuck) s := rfl
theorem rng3_inv {a b c : D} {ds : List D} (h : rng3D a b c = some ds) : ∃ i j k : Int, a = .int i ∧ b = .int j ∧ c = .int k ∧ (k ≠ 0 ∧ k.natAbs < 1073741824 ∧ Builtin.Range.small i j k = true ∧ 0 ≤ Builtin.Range.rangeSize i j k) ∧ ds = stepsD i k (Builtin.Range.rangeSize i j k).toNat := by
  unfold rng3D at h
  split at h
  · split at h
    · rename_i hj
      cases h
      exact ⟨_, _, _, rfl, rfl, rfl, gd_iff.mp hj, rfl⟩
    · cases h
  · cases h
theorem di_rng3 {X : Cx} {E : WX} {tg a b c : Expr} {f g h : M (Bool × D)} {p pos : Pos} (hg : Gl X "range") (hm : X.mg "range" = none) (ha : PAd X E [a, b, c] [.ex f, .ex g, .ex h]) (hs : starEach [a, b, c] X.env = (false, eval a X.env) :: starEach [b, c] X.env := by rfl) (hpl : (backTo pos (starEach [b, c] X.env)).any (·.1) = false := by rfl) :
    PI X tg (.Call (.Name "range" p) [a, b, c] [] pos) (tI X.K E (rng3M f g h)) :=
  (pi_range3 hg hm ha hs hpl).imp fun σ H R h => by
    obtain ⟨P, B, ia, s, Fs, r, w⟩ := h
    refine rdOps r w (fun _ _ q => q) fun ds s1 vs H1 Gs Fs1 q ov fr r1 => ?_
    split at q
    · rename_i a b c
      split at q
      · rename_i ds' e
        obtain ⟨i, j, k, rfl, rfl, rfl, hj, rfl⟩ := rng3_inv e
        cases ov with
        | cons h1 _ _ ov =>
          cases ov with
          | cons h2 _ _ ov =>
            cases ov with
            | cons h3 _ _ ov =>
              cases ov with
              | nil => exact ⟨i, j, k, _, by rw [h1.int_inv, h2.int_inv, h3.int_inv], ⟨hj.1, hj.2.1, hj.2.2.1, (Int.toNat_of_nonneg hj.2.2.2).symm⟩, q _ H1 P Fs1 (fun b m => m) fr r1 it_rangeC⟩
      · exact q.elim
    · exact q.elim

/-! ### int(text) -/
def toIntS (d : D) : Option (Bool × D) := match d with
  | .str x => if x.length ≤ 640 then (PySem.intText? x).map fun n => (false, .int n) else none
  | d => toInt d
theorem opd_toIntS {K : PySem.W.Frag} : OpD1 K toIntS fun x H Q => ((∃ i, [x] = [V.int i] ∧ Q (.int i) H) ∨ ∃ k, [x] = [V.bl k] ∧ Q (.int (if k then 1 else 0)) H) ∨ ∃ a n, [x] = [V.str a] ∧ PySem.intText? a = some n ∧ a.length ≤ 640 ∧ Q (.int n) H := by
  intro P B ia s σ H H0 Fs dx q x F Q R o fr e k
  unfold toIntS at e
  split at e
  · split at e
    · rename_i hz
      obtain ⟨n, e1, e2⟩ := Option.map_eq_some_iff.mp e
      cases e2
      exact .inr ⟨_, n, by rw [o.str_inv], e1, hz, k _ _ (.flat .int fr R)⟩
    · cases e
  · exact .inl (opd_toInt R o fr e k)

/-! ### a dict of the module -/
def tget : List (Str × D) → Str → Option D
  | [], _ => none
  | (k, d) :: r, z => if k = z then some d else tget r z
theorem tget_none {z : Str} : ∀ {kvs : List (Str × D)}, tget kvs z = none → z ∉ kvs.map (·.1)
  | [], _ => by simp
  | (k, d) :: r, h => by
    rw [tget] at h
    split at h
    · cases h
    · rename_i hk
      simp only [List.map_cons, List.mem_cons, not_or]
      exact ⟨fun e => hk e.symm, tget_none h⟩
theorem tget_mem {z : Str} {d : D} : ∀ {kvs : List (Str × D)}, tget kvs z = some d → (z, d) ∈ kvs
  | [], h => by cases h
  | (k, d') :: r, h => by
    rw [tget] at h
    split at h
    · rename_i hk
      cases h
      rw [hk]
      exact List.mem_cons_self
    · exact List.mem_cons_of_mem _ (tget_mem h)
structure Gd (K : PySem.W.Frag) (w : World) (mg : Str → Option Value) (x : Str) (kvs : List (Str × D)) : Prop where
  ex : ∃ (a : Addr) (es : Array DictEntry) (n : Nat), mg x = some (.ref a) ∧ KDict K w a es n ∧ (∀ z d, tget kvs z = some d → ∃ u v, PySem.W.nsIn K a z = some (some u) ∧ RelV v u ∧ ∀ H, Rep K H d v []) ∧ ∀ z, tget kvs z = none → PySem.W.nsIn K a z = some none
/-- flat values as the head tells them -/
def dOf : He.Dv → Option D
  | .int i => some (.int i)
  | .str x => some (.str x)
  | _ => none
theorem nsIn_absent {K : PySem.W.Frag} {a : Addr} {P : Params} {ks : List Str} {z : Str} (h : He.dicW K a = some (He.keysIn P ks)) (hz : z ∉ ks) : PySem.W.nsIn K a z = some none := by
  unfold He.dicW at h
  unfold PySem.W.nsIn
  split at h
  · rename_i c es n sl e
    rw [e]
    split at h
    · have h1 := Option.some.inj h
      have key : ∀ (l : List DictEntry) (ks : List Str), l.map He.keyOf = He.keysIn P ks → z ∉ ks → l.find? (·.key.isStr z) = none ∧ l.any (·.refKey) = false := by
        intro l
        induction l with
        | nil => intro ks _ _; exact ⟨rfl, rfl⟩
        | cons en r ih =>
          intro ks h hz
          cases ks with
          | nil => cases h
          | cons k ks =>
            have h1 : He.keyOf en :: r.map He.keyOf = some (k, PyData.keyHash P k) :: He.keysIn P ks := h
            injection h1 with h2 h3
            obtain ⟨g1, g2⟩ := ih ks h3 fun m => hz (List.mem_cons_of_mem _ m)
            unfold He.keyOf at h2
            split at h2
            · rename_i x t q
              have h4 := Option.some.inj h2
              obtain ⟨h5, h6⟩ := Prod.mk.inj h4
              have hne : x ≠ z := fun e => hz (by rw [← e, h5]; exact List.mem_cons_self)
              constructor
              · rw [List.find?_cons_of_neg (by rw [q]; simpa [Value.isStr] using hne)]
                exact g1
              · rw [List.any_cons, g2]
                simp [DictEntry.refKey, q]
            · cases h2
      obtain ⟨g1, g2⟩ := key es.toList ks h1 hz
      simp only [g1, g2]
      rfl
    · cases h
  · cases h
theorem Gd.of {K : PySem.W.Frag} {w : World} {mg : Str → Option Value} {x : Str} {a : Addr} {kvs : List (Str × He.Dv)} {ds : List (Str × D)} (hm : mg x = some (.ref a)) (h : He.dicW K a = some (He.keysIn w.params (kvs.map (·.1)))) (hv : He.valsB K a kvs = true)
    (hd : kvs.map (fun q => (q.1, dOf q.2)) = ds.map fun q => (q.1, some q.2)) : Gd K w mg x ds := by
  obtain ⟨es, n, D⟩ := He.dicW_ok h
  have ek : kvs.map (·.1) = ds.map (·.1) := by
    have := congrArg (List.map Prod.fst) hd
    simpa [List.map_map, Function.comp_def] using this
  refine ⟨a, es, n, hm, D, fun z d e => ?_, fun z e => ?_⟩
  · have hmem := tget_mem e
    have h1 : (z, some d) ∈ kvs.map (fun q => (q.1, dOf q.2)) := by
      rw [hd]
      exact List.mem_map.mpr ⟨_, hmem, rfl⟩
    obtain ⟨q, hq, e2⟩ := List.mem_map.mp h1
    obtain ⟨e3, e4⟩ := Prod.mk.inj e2
    obtain ⟨u, g1, g2⟩ := He.valsB_ok hv hq
    subst e3
    refine ⟨u, _, g1, g2, fun H => ?_⟩
    cases hq2 : q.2 with
    | int i => rw [hq2] at e4; cases e4; exact .int
    | str y => rw [hq2] at e4; cases e4; exact .str
    | _ => rw [hq2] at e4; cases e4
  · exact nsIn_absent h (by rw [ek]; exact tget_none e)
def kinD (neg : Bool) (kvs : List (Str × D)) : D → Option (Bool × D)
  | .str z => some (false, .bl (if neg then !(tget kvs z).isSome else (tget kvs z).isSome))
  | _ => none
def kixD (kvs : List (Str × D)) : D → Option (Bool × D)
  | .str z => (tget kvs z).map fun d => (false, d)
  | _ => none
section
variable {X : Cx} {E : WX} {x : Str} {kvs : List (Str × D)} {o : Opd} {a : Expr} {p pos : Pos}
theorem rd_kin {neg : Bool} {ad : Addr} (h1 : ∀ z d, tget kvs z = some d → ∃ u v, PySem.W.nsIn X.K ad z = some (some u) ∧ RelV v u ∧ ∀ H, Rep X.K H d v []) (h2 : ∀ z, tget kvs z = none → PySem.W.nsIn X.K ad z = some none) :
    OpD1 X.K (kinD neg kvs) fun x H Q => ∃ (z : Str) (r : Option Value), x = .str z ∧ V.ref ad = .ref ad ∧ PySem.W.nsIn X.K ad z = some r ∧ Q (.bl (if neg then !r.isSome else r.isSome)) H := by
  intro P B ia s σ H H0 Fs dx q x F Q R o fr e k
  unfold kinD at e
  split at e
  · rename_i z
    cases e
    cases q : tget kvs z with
    | none =>
      rw [q] at k
      exact ⟨z, none, o.str_inv, rfl, h2 z q, k _ _ (.flat .bl fr R)⟩
    | some d =>
      obtain ⟨u, v, g1, _⟩ := h1 z d q
      rw [q] at k
      exact ⟨z, some u, o.str_inv, rfl, g1, k _ _ (.flat .bl fr R)⟩
  · cases e
theorem rd_kix {ad : Addr} (h1 : ∀ z d, tget kvs z = some d → ∃ u v, PySem.W.nsIn X.K ad z = some (some u) ∧ RelV v u ∧ ∀ H, Rep X.K H d v []) {es : Array DictEntry} {n : Nat} (D : KDict X.K X.w ad es n) :
    OpD1 X.K (kixD kvs) fun x H Q => rIxD X.K X.w (.ref ad) x H Q := by
  intro P B ia s σ H H0 Fs dx q x F Q R o fr e k
  unfold kixD at e
  split at e
  · rename_i z
    obtain ⟨d, e1, e2⟩ := Option.map_eq_some_iff.mp e
    cases e2
    obtain ⟨u, v, g1, g2, g3⟩ := h1 z d e1
    exact ⟨ad, z, v, rfl, o.str_inv, ⟨es, n, u, D.at_, D.lit, g1, g2⟩, k _ _ (.flat (g3 _) fr R)⟩
  · cases e
theorem de_kin (G : Gd X.K X.w X.mg x kvs) (ha : PE X a (rdO X.K E o)) (hg : Gl X x := by rfl) (hd : (x == ("__debug__" : Str)) = false := by decide) (hm : behindInMarks .In (.Name x p) = false := by with_unfolding_all rfl) : PE X (.Compare a [.In] [.Name x p] pos) (tD X.K E (unM (kinD false kvs) o)) := by
  obtain ⟨ad, es, n, e1, D, h1, h2⟩ := G.ex
  exact (pe_cmpR (op_in_kd D) ha (pe_glob hg e1 (v := .ref ad) rfl hd) hm).imp (tD_un (rd_kin (neg := false) h1 h2))
theorem de_knot (G : Gd X.K X.w X.mg x kvs) (ha : PE X a (rdO X.K E o)) (hg : Gl X x := by rfl) (hd : (x == ("__debug__" : Str)) = false := by decide) (hm : behindInMarks .NotIn (.Name x p) = false := by with_unfolding_all rfl) : PE X (.Compare a [.NotIn] [.Name x p] pos) (tD X.K E (unM (kinD true kvs) o)) := by
  obtain ⟨ad, es, n, e1, D, h1, h2⟩ := G.ex
  exact (pe_cmpR (op_notIn_kd D) ha (pe_glob hg e1 (v := .ref ad) rfl hd) hm).imp (tD_un (rd_kin (neg := true) h1 h2))
theorem dt_kin (G : Gd X.K X.w X.mg x kvs) (ha : PE X a (rdO X.K E o)) (hg : Gl X x := by rfl) (hd : (x == ("__debug__" : Str)) = false := by decide) (hm : behindInMarks .In (.Name x p) = false := by with_unfolding_all rfl) : PT X (.Compare a [.In] [.Name x p] pos) (tT X.K E (truB (unM (kinD false kvs) o))) := by
  obtain ⟨ad, es, n, e1, D, h1, h2⟩ := G.ex
  exact (pt_cmpR (op_in_kd D) ha (pe_glob hg e1 (v := .ref ad) rfl hd) hm).imp (tTest_of (tD_un (rd_kin (neg := false) h1 h2)))
theorem dt_knot (G : Gd X.K X.w X.mg x kvs) (ha : PE X a (rdO X.K E o)) (hg : Gl X x := by rfl) (hd : (x == ("__debug__" : Str)) = false := by decide) (hm : behindInMarks .NotIn (.Name x p) = false := by with_unfolding_all rfl) : PT X (.Compare a [.NotIn] [.Name x p] pos) (tT X.K E (truB (unM (kinD true kvs) o))) := by
  obtain ⟨ad, es, n, e1, D, h1, h2⟩ := G.ex
  exact (pt_cmpR (op_notIn_kd D) ha (pe_glob hg e1 (v := .ref ad) rfl hd) hm).imp (tTest_of (tD_un (rd_kin (neg := true) h1 h2)))
theorem de_kix (G : Gd X.K X.w X.mg x kvs) (ha : PE X a (rdO X.K E o)) (hg : Gl X x := by rfl) (hd : (x == ("__debug__" : Str)) = false := by decide) (hs : PlainIx a := by exact fun _ _ => rfl) : PE X (.Subscript (.Name x p) a pos) (tD X.K E (unM (kixD kvs) o)) := by
  obtain ⟨ad, es, n, e1, D, h1, h2⟩ := G.ex
  exact (pe_ix ix_kdict (pe_glob hg e1 (v := .ref ad) rfl hd) ha hs).imp (tD_un (rd_kix h1 D))
end
theorem tabW {fa : List He.Fa} {fn : List He.DefD} {ts : List He.Tab} {w : World} {K : PySem.W.Frag} (c : He.SaysT fa fn ts w K) (i : Nat) {t : He.Tab} (h : ts[i]? = some t := by rfl) : He.dicW K (t.1 K) = some (He.keysIn w.params t.2) := by
  have e : ts.map (fun t => He.dicW K (t.1 K)) = ts.map fun t => some (He.keysIn w.params t.2) := congrArg (fun z : He.AlT => z.2) c
  have e2 : (ts.map fun t => He.dicW K (t.1 K))[i]? = (ts.map fun t => some (He.keysIn w.params t.2))[i]? := by rw [e]
  rw [List.getElem?_map, List.getElem?_map, h] at e2
  exact Option.some.inj e2
end PV

/-! PV: zip(text, list), zip(text, tuple). -/
namespace PV
open PySem PySem.Spec L2 PyProof.Rows

/-- the signs of x and what stands in b at each turn, in new pairs -/
def ItzS (Sq : Hp → List V → Prop) (x : Str) : It :=
  ⟨fun i H => ∃ (ys : List V) (y : V) (c : Nat), Sq H ys ∧ x.cps[i]? = some c ∧ ys[i]? = some y,
    fun i H v H' => ∃ T c y, v = .ref T ∧ H T = none ∧ H' = upd H T (.tup [.str ⟨#[c]⟩, y]) ∧ x.cps[i]? = some c ∧ ∀ ys, Sq H ys → ys[i]? = some y,
    fun i H => ∃ ys : List V, Sq H ys ∧ i ≤ x.cps.size ∧ i ≤ ys.length ∧ (i = x.cps.size ∨ i = ys.length)⟩
structure Src2 (K : PySem.W.Frag) (b i2 : Addr) (Sq : Hp → List V → Prop) (Src : Array Value → Heap → Prop) (It2 : Nat → Heap → Prop) : Prop where
  src : ∀ {X : Cx} {pins : List (Addr × Obj)} {σ : L2.St} {H : Hp} {s : Shared} {ys : List V}, X.K = K → Inv X pins σ H s → Sq H ys → ∃ its : List Value, Vals ys its ∧ Src its.toArray s.heap
  inj : ∀ {X : Cx} {pins : List (Addr × Obj)} {σ : L2.St} {H : Hp} {s : Shared} {ys zs : List V}, X.K = K → Inv X pins σ H s → Sq H ys → Sq H zs → ys = zs
  drw : ∀ (prog : Program) (w : World) (A : Around), A.handled = none → ∀ items : Array Value, Draws prog w A i2 [i2, b] items.size (fun i v => items[i]? = some v) (fun i h => It2 i h ∧ Src items h)
  keep : ∀ i h h', It2 i h → (∀ o, h.get? i2 = some o → h'.get? i2 = some o) → It2 i h'
  obj : ∀ i h, It2 i h → ∃ o, h.get? i2 = some o ∧ ∀ v, o.data ≠ .cell v
theorem src_list {K : PySem.W.Frag} {b i2 : Addr} (hne : b ≠ i2) : Src2 K b i2 (fun H ys => SqL K H b ys) (fun items h => h.IsList b items) (fun i h => h.IsListIter i2 b i) where
  src := fun e I h => by subst e; obtain ⟨its, r, p, _⟩ := I.list h; exact ⟨its, r, p.isList⟩
  inj := fun e I h h' => by subst e; exact I.list_inj h h'
  drw := fun prog w A hh items => .list hh i2 b hne items
  keep := fun i h h' st k => st.at k
  obj := fun i h st => by obtain ⟨o, e, _, d⟩ := st; exact ⟨o, e, fun v q => by rw [d] at q; cases q⟩
theorem src_tup {K : PySem.W.Frag} {b i2 : Addr} (hne : b ≠ i2) : Src2 K b i2 (fun H ys => SqT K H b ys) (fun items h => h.IsTuple b items) (fun i h => h.IsTupleIter i2 b i) where
  src := fun e I h => by subst e; obtain ⟨its, r, p, _⟩ := I.tuple h; exact ⟨its, r, p⟩
  inj := fun e I h h' => by subst e; exact I.tuple_inj h h'
  drw := fun prog w A hh items => .tuple hh i2 b hne items
  keep := fun i h h' st k => st.at k
  obj := fun i h st => by obtain ⟨o, e, _, d⟩ := st; exact ⟨o, e, fun v q => by rw [d] at q; cases q⟩

theorem turn_zipS {P : Program} {w : World} {K : PySem.W.Frag} {elts : List Expr} {kk : Nat} {tpos : Pos} {x : Str} {t : PySem.Tok} {b z TI TO i1 i2 : Addr} {Sq : Hp → List V → Prop} {Src : Array Value → Heap → Prop} {It2 : Nat → Heap → Prop} (S2 : Src2 K b i2 Sq Src It2) (S : ZipSep2 z TI TO i1 i2 [i1] [i2, b]) :
    Turn P w K (.Tuple elts kk tpos) (ItzS Sq x) [z, TI, TO, i1, i2] z (fun i h => IsZip h z TI TO .none ∧ IsTupOf2 h TI (.ref i1) (.ref i2) ∧ (∃ a1 a2, IsTupOf2 h TO a1 a2) ∧ h.IsStrIter i1 (strIterType x) x t i ∧ It2 i h) where
  mem := by simp
  obj := fun i h st c hc => by
    obtain ⟨hz, hTI, ⟨a1, a2, hTO⟩, ⟨o1, e1, _, d1⟩, h2⟩ := st
    have e' : c = z ∨ c = TI ∨ c = TO ∨ c = i1 ∨ c = i2 := by simpa using hc
    rcases e' with q | q | q | q | q
    · rw [q]; exact ⟨_, hz, fun v q => nomatch q⟩
    · rw [q]; exact ⟨_, hTI, fun v q => nomatch q⟩
    · rw [q]; exact ⟨_, hTO, fun v q => nomatch q⟩
    · rw [q]; exact ⟨o1, e1, fun v q => by rw [d1] at q; cases q⟩
    · rw [q]; exact S2.obj i h h2
  keep := fun i h h' st k => by
    obtain ⟨hz, hTI, ⟨a1, a2, hTO⟩, ⟨o1, e1, r1⟩, h2⟩ := st
    exact ⟨k z (by simp) _ hz, k TI (by simp) _ hTI, ⟨a1, a2, k TO (by simp) _ hTO⟩, ⟨o1, k i1 (by simp) _ e1, r1⟩, S2.keep i h h' h2 fun o q => k i2 (by simp) o q⟩
  item := by
    intro X hP hw hK hc i pins s σ H E I hf st hg
    subst hP hw
    obtain ⟨hz, hTI, ⟨a1, a2, hTO⟩, h1, h2⟩ := st
    obtain ⟨ys, y, c, hq, hx, hy⟩ := hg
    obtain ⟨its, rv, hsrc⟩ := S2.src hK I hq
    obtain ⟨u2, hu2, ru2⟩ := rv.get hy
    have hzl : z < s.heap.objs.size := Heap.lt_size hz
    have hl1 : i < x.cps.size := (Array.getElem?_eq_some_iff.mp hx).1
    have hl2 : i < its.toArray.size := by
      have := (List.getElem?_eq_some_iff.mp hu2).1
      simpa using this
    refine wpAny_pyNext_zipD2_item S (Draws.text (show X.A.in1.handled = none from I.ok.hd hc) i1 x t) (S2.drw _ _ _ (show X.A.in1.handled = none from I.ok.hd hc) its.toArray) hz hTI hTO h1 ⟨h2, hsrc⟩ hl1 hl2 fun x1 x2 h' tk p1 p2 z' TO' h1' h2' hT hsz hk => ?_
    obtain ⟨c', ut, hc', rfl⟩ := p1
    rw [hx] at hc'; cases hc'
    have ex2 : x2 = u2 := by
      have p2' : its.toArray[i]? = some x2 := p2
      rw [List.getElem?_toArray] at p2'
      rw [hu2] at p2'; cases p2'; rfl
    subst ex2
    refine ⟨_, rfl, wpAny_letOwnedTupleGo_zip (s := { s with heap := h', toks := tk }) z' fun h'' z'' sb => ?_⟩
    have hT2 : h''.get? s.heap.objs.size = some { cls := .type "tuple", data := .seq #[.str ⟨#[c]⟩ ut, x2] } := (sb.2 _ (Nat.ne_of_gt hzl)).trans hT
    have new : ObjOk X.prog X.w (upd H s.heap.objs.size (.tup [.str ⟨#[c]⟩, y])) h'' s.heap.objs.size (.tup [.str ⟨#[c]⟩, y]) :=
      ⟨by show 2 ≤ sizeLine; decide, [.str ⟨#[c]⟩ ut, x2], .cons ⟨ut, rfl⟩ (.cons ru2 .nil), ⟨_, hT2, rfl, _, rfl⟩⟩
    have I1 : Inv X pins σ (upd H s.heap.objs.size (.tup [.str ⟨#[c]⟩, y])) { s with heap := h'', toks := tk } :=
      I.turnedNew (t' := tk) (ch := [z, TI, TO, i1, i2]) (fun c o hb q => (sb.2 c (fun q' => hb (by simp [q']))).trans (hk c o (fun q' => hb (by simp [q'])) (fun q' => hb (by simp [q'])) (fun q' => hb (by simp [q'])) (fun q' => hb (by simp [q'])) q)) hf (Nat.le_refl _) new
    refine ⟨.ref s.heap.objs.size, _, I1, rfl, ⟨_, c, y, rfl, I.hok.fresh (Nat.le_refl _), rfl, hx, fun l hl => by rw [S2.inj hK I hl hq]; exact hy⟩, ⟨z'', ?_, ⟨.str ⟨#[c]⟩ ut, x2, ?_⟩, ?_, ?_⟩, fun c hcm => ?_⟩
    · exact (sb.2 _ S.TIz).trans (hk _ _ S.TIz S.TITO S.TIi1 S.TIi2 hTI)
    · exact (sb.2 _ S.TOz).trans TO'
    · obtain ⟨o1, e1, r1⟩ := h1'
      exact ⟨o1, (sb.2 _ S.zi1.symm).trans e1, r1⟩
    · exact S2.keep _ _ _ h2'.1 fun o q => (sb.2 _ S.zi2.symm).trans q
    · have hlt : c < s.heap.objs.size := by
        have e' : c = z ∨ c = TI ∨ c = TO ∨ c = i1 ∨ c = i2 := by simpa using hcm
        rcases e' with q | q | q | q | q
        · rw [q]; exact hzl
        · rw [q]; exact Heap.lt_size hTI
        · rw [q]; exact Heap.lt_size hTO
        · rw [q]; obtain ⟨_, e1, _⟩ := h1; exact Heap.lt_size e1
        · rw [q]; obtain ⟨_, e2, _⟩ := S2.obj _ _ h2; exact Heap.lt_size e2
      rw [upd_ne (Nat.ne_of_lt hlt)]
      exact (hf c hcm).1
  done := by
    intro X hP hw hK hc i pins s σ H E I hf st hg
    subst hP hw
    obtain ⟨hz, hTI, ⟨a1, a2, hTO⟩, h1, h2⟩ := st
    obtain ⟨ys, hq, hi1, hi2, hend⟩ := hg
    obtain ⟨its, rv, hsrc⟩ := S2.src hK I hq
    have l2 : its.toArray.size = ys.length := by rw [List.size_toArray, rv.length]
    exact wpAny_pyNext_zipD2_end S (Draws.text (show X.A.in1.handled = none from I.ok.hd hc) i1 x t) (S2.drw _ _ _ (show X.A.in1.handled = none from I.ok.hd hc) its.toArray) hz hTI hTO h1 ⟨h2, hsrc⟩ hi1 (by rw [l2]; exact hi2) (by rw [l2]; exact hend) fun h' tk hk => ⟨rfl, I.turnedL (t' := tk) (ch := [z, TI, TO, i1, i2]) (fun c o hb q =>
      hk c o (fun q' => hb (by simp [q'])) (fun q' => hb (by simp [q'])) (fun q' => hb (by simp [q'])) (fun q' => hb (by simp [q'])) q) hf⟩
  self := fun A i s Q E st h => wpAny_pyIter_zip st.1 h

def iZipS (K : PySem.W.Frag) (ta : TA) : TI := fun σ H R => ta σ H fun vs H1 => ∃ (x : Str) (b : Addr) (ys : List V), vs = [.str x, .ref b] ∧ ((SqL K H1 b ys ∧ R (ItzS (fun H ys => SqL K H b ys) x) H1) ∨ (SqT K H1 b ys ∧ R (ItzS (fun H ys => SqT K H b ys) x) H1))
theorem pi_zipS {X : Cx} {e e2 : Expr} {ta : TA} {p pos tpos : Pos} {elts : List Expr} {kk : Nat} (hg : Gl X "zip") (hm : X.mg "zip" = none) (ha : PA X [e, e2] ta)
    (hs : starEach [e, e2] X.env = (false, eval e X.env) :: starEach [e2] X.env := by rfl) (hpl : (backTo pos (starEach [e2] X.env)).any (·.1) = false := by rfl) :
    PI X (.Tuple elts kk tpos) (.Call (.Name "zip" p) [e, e2] [] pos) (iZipS X.K ta) := by
  refine ⟨fun pins s σ H R I h => ?_⟩
  refine Call_ (ld_blt I hg hm PyProof.Rows.boot_zip (PyProof.Rows.callWith_type1 (thn (ha.run pos pins s σ H _ I h) fun us s1 ⟨vs, H1, I1, r1, q1⟩ => ?_) hs hpl))
  obtain ⟨x, b, ys, ex, q1⟩ := q1
  subst ex
  cases r1 with
  | cons r rr =>
    cases rr with
    | cons r' rr =>
      cases rr
      obtain ⟨t, rfl⟩ := r
      cases r'
      have fresh5 : ∀ c, c ∈ [s1.heap.objs.size + 4, s1.heap.objs.size + 2, s1.heap.objs.size + 3, s1.heap.objs.size, s1.heap.objs.size + 1] → FpOk X pins H1 c := fun c hcm => by
        have e' : c = s1.heap.objs.size + 4 ∨ c = s1.heap.objs.size + 2 ∨ c = s1.heap.objs.size + 3 ∨ c = s1.heap.objs.size ∨ c = s1.heap.objs.size + 1 := by simpa using hcm
        have hle : s1.heap.objs.size ≤ c := by
          rcases e' with z | z | z | z | z
          · rw [z]; exact Nat.le_add_right _ _
          · rw [z]; exact Nat.le_add_right _ _
          · rw [z]; exact Nat.le_add_right _ _
          · rw [z]; exact Nat.le_refl _
          · rw [z]; exact Nat.le_add_right _ _
        exact I1.fpOk hle (I1.hok.fresh hle)
      have sep : b < s1.heap.objs.size → ZipSep2 (s1.heap.objs.size + 4) (s1.heap.objs.size + 2) (s1.heap.objs.size + 3) s1.heap.objs.size (s1.heap.objs.size + 1) [s1.heap.objs.size] [s1.heap.objs.size + 1, b] := fun hb => by
        have D := PySem.W.ktu_apart s1.heap.objs.size b b hb hb
        have mm : ∀ {a c d : Addr}, a ≠ c → a ≠ d → a ∉ [c, d] := fun h1 h2 m => (List.mem_cons.mp m).elim h1 fun m => h2 (List.mem_singleton.mp m)
        exact ⟨D.TIz, D.TOz, D.TITO, D.TIi1, List.mem_cons_self, fun m => D.i1z (List.mem_singleton.mp m).symm, fun m => D.TOi1 (List.mem_singleton.mp m), D.TIi2, List.mem_cons_self, mm D.i2z.symm D.l2z.symm, mm D.TOi2 D.l2TO.symm, mm D.i12 D.l2i1.symm, fun m => D.i12 (List.mem_singleton.mp m).symm⟩
      rcases q1 with ⟨hq, q⟩ | ⟨hq, q⟩
      · obtain ⟨its, rv, p1, _⟩ := I1.list hq
        refine zip_begins2 (begins_text x t) (begins_list b its.toArray) trivial p1.isList fun h' hz hTI hTO h1 h2 hsz hk => wpAny_pyIter_zip hz ?_
        have I2 : Inv X pins σ H1 { s1 with heap := h' } := I1.kept (t' := s1.toks) hk
        exact ⟨s1.heap.objs.size + 4, [s1.heap.objs.size + 4, s1.heap.objs.size + 2, s1.heap.objs.size + 3, s1.heap.objs.size, s1.heap.objs.size + 1], _, _, H1, rfl, I2, turn_zipS (t := t) (src_list (Nat.ne_of_lt (Nat.lt_succ_of_lt p1.lt))) (sep p1.lt), ⟨hz, hTI, ⟨_, _, hTO⟩, ⟨_, h1, rfl, rfl⟩, ⟨_, h2, rfl, rfl⟩⟩, fresh5, q⟩
      · obtain ⟨its, rv, p1, _⟩ := I1.tuple hq
        obtain ⟨o1, ho1, _⟩ := id p1
        have hlt := Heap.lt_size ho1
        refine zip_begins2 (begins_text x t) (begins_tuple b its.toArray) trivial p1 fun h' hz hTI hTO h1 h2 hsz hk => wpAny_pyIter_zip hz ?_
        have I2 : Inv X pins σ H1 { s1 with heap := h' } := I1.kept (t' := s1.toks) hk
        exact ⟨s1.heap.objs.size + 4, [s1.heap.objs.size + 4, s1.heap.objs.size + 2, s1.heap.objs.size + 3, s1.heap.objs.size, s1.heap.objs.size + 1], _, _, H1, rfl, I2, turn_zipS (t := t) (src_tup (Nat.ne_of_lt (Nat.lt_succ_of_lt hlt))) (sep hlt), ⟨hz, hTI, ⟨_, _, hTO⟩, ⟨_, h1, rfl, rfl⟩, ⟨_, h2, rfl, rfl⟩⟩, fresh5, q⟩

/-! ### by values -/
def zipD (x : Str) (ds : List D) : List D := (x.cps.toList.zip ds).map fun q => .tup [.str ⟨#[q.1]⟩, q.2]
theorem zipD_len {x : Str} {ds : List D} : (zipD x ds).length = min x.cps.size ds.length := by simp [zipD]
theorem zipD_get {x : Str} {ds : List D} {i : Nat} {d : D} (e : (zipD x ds)[i]? = some d) : ∃ c y, x.cps[i]? = some c ∧ ds[i]? = some y ∧ d = .tup [.str ⟨#[c]⟩, y] := by
  unfold zipD at e
  rw [List.getElem?_map] at e
  obtain ⟨q, e1, e2⟩ := Option.map_eq_some_iff.mp e
  rw [List.getElem?_zip_eq_some] at e1
  exact ⟨q.1, q.2, by simpa using e1.1, e1.2, e2.symm⟩
theorem it_zipS {K : PySem.W.Frag} {P B : Addr → Prop} {H : Hp} {x : Str} {Sq : Hp → List V → Prop} {ds : List D} {vs : List V} {F : List Addr} (inv : Hp → Prop) (i0 : inv H) (keep : ∀ H1 H2, inv H1 → Fr P H1 H2 → inv H2) (hs : ∀ H, inv H → Sq H vs ∧ Reps K H ds vs F)
    (hp : ∀ a, a ∈ F → P a) (hb : ∀ a, a ∈ F → B a) : ItOK K P B (ItzS Sq x) (zipD x ds) H := by
  refine ⟨inv, i0, keep, fun i H1 q => ⟨fun d e => ?_, fun hl => ?_⟩⟩
  · obtain ⟨c, y, e1, e2, rfl⟩ := zipD_get e
    obtain ⟨h1, h2⟩ := hs H1 q
    obtain ⟨v, G, g1, g2, g3⟩ := h2.get e2
    refine ⟨⟨vs, v, c, h1, e1, g1⟩, fun u H2 w => ?_⟩
    obtain ⟨T, c', y', rfl, hT, rfl, k1, k2⟩ := w
    rw [e1] at k1; cases k1
    have := k2 vs h1
    rw [g1] at this; cases this
    refine ⟨.inr ⟨T, _, hT, rfl⟩, G, .tup (SqT.of upd_same) ?_, fun a m => hp a (g3 a m), fun a m => hb a (g3 a m)⟩
    have := Reps.cons (Rep.str (K := K) (H := upd H1 T (.tup [.str ⟨#[c]⟩, v])) (x := ⟨#[c]⟩)) (Reps.one (g2.keep (H' := upd H1 T (.tup [.str ⟨#[c]⟩, v])) (fun b u h _ => by rw [upd_ne (ne_of_none h hT)]; exact h) fun a m => upd_ne fun e => g2.tr a m (e ▸ hT)))
    exact this
  · obtain ⟨h1, h2⟩ := hs H1 q
    rw [zipD_len, h2.length] at hl
    exact ⟨vs, h1, by omega, by omega, by omega⟩
def zipM (f g : M (Bool × D)) : M (List D) := opsM [.ex f, .ex g] fun ds s => match ds with
  | [.str x, .lst ys] => .ok (zipD x ys) s
  | [.str x, .tup ys] => .ok (zipD x ys) s
  | _ => .stuck
@[simp] theorem ev_zip (f g : M (Bool × D)) (s : S) : zipM f g s = opsM [.ex f, .ex g] (fun ds s => match ds with
  | [.str x, .lst ys] => .ok (zipD x ys) s
  | [.str x, .tup ys] => .ok (zipD x ys) s
  | _ => .stuck) s := rfl
theorem di_zip {X : Cx} {E : WX} {a b : Expr} {f g : M (Bool × D)} {p pos tpos : Pos} {elts : List Expr} {kk : Nat} (hg : Gl X "zip") (hm : X.mg "zip" = none) (ha : PAd X E [a, b] [.ex f, .ex g]) (hs : starEach [a, b] X.env = (false, eval a X.env) :: starEach [b] X.env := by rfl) (hpl : (backTo pos (starEach [b] X.env)).any (·.1) = false := by rfl) :
    PI X (.Tuple elts kk tpos) (.Call (.Name "zip" p) [a, b] [] pos) (tI X.K E (zipM f g)) :=
  (pi_zipS hg hm ha hs hpl).imp fun σ H R h => by
    obtain ⟨P, B, ia, s, Fs, r, w⟩ := h
    refine rdOps r w (fun _ _ q => q) fun ds s1 vs H1 Gs Fs1 q ov fr r1 => ?_
    split at q
    · rename_i x ys
      cases ov with
      | cons h1 _ _ ov =>
        cases ov with
        | cons h2 n2 _ ov =>
          cases ov with
          | nil =>
            rw [h1.str_inv]
            have rp := h2.rep
            have pr := r1.prot rp.tr (n2 rfl)
            have hb := h2.inB
            cases rp with
            | @lst a _ ws G g1 g2 =>
              exact ⟨x, a, ws, rfl, .inl ⟨SqL.of g1, q _ H1 _ Fs1 (fun b m => .inl m) fr pr (it_zipS (fun H' => H' a = some (.lst ws) ∧ Reps X.K H' ys ws G) ⟨g1, g2⟩ (fun H1 H2 q fr => ⟨(fr.p a (.inr List.mem_cons_self)).trans q.1, Reps.keep fr.i q.2 fun b m => fr.p b (.inr (List.mem_cons_of_mem _ m))⟩)
                (fun H q => ⟨SqL.of q.1, q.2⟩) (fun b m => .inr (List.mem_cons_of_mem _ m)) fun b m => hb b (List.mem_cons_of_mem _ m))⟩⟩
    · rename_i x ys
      cases ov with
      | cons h1 _ _ ov =>
        cases ov with
        | cons h2 n2 _ ov =>
          cases ov with
          | nil =>
            rw [h1.str_inv]
            have rp := h2.rep
            have pr := r1.prot rp.tr (n2 rfl)
            have hb := h2.inB
            cases rp with
            | @tup a _ ws _ g1 g2 =>
              exact ⟨x, a, ws, rfl, .inr ⟨g1, q _ H1 _ Fs1 (fun b m => .inl m) fr pr (it_zipS (fun H' => SqT X.K H' a ws ∧ Reps X.K H' ys ws _) ⟨g1, g2⟩ (fun H1 H2 q fr => ⟨sqT_keep q.1 fr.i, Reps.keep fr.i q.2 fun b m => fr.p b (.inr m)⟩)
                (fun H q => q) (fun b m => .inr m) hb)⟩⟩
    · exact q.elim
end PV

/-! PV: a dict while a statement walks it. -/
namespace PV
open PySem PySem.Spec L2
section
variable {K : PySem.W.Frag} {P B : Addr → Prop} {ia : Nat → Addr} {s s' : S} {σ σ' : St} {H H' : Hp} {Fs Fs' : Nat → List Addr} {E : WX}
theorem sqT_unlock {a : Addr} {od : Obj} {kvs : List (Key × V)} (h : H a = some (.frz od (.dK kvs))) (b : Addr) (vs : List V) (q : SqT K H b vs) : SqT K (upd H a (.dK kvs)) b vs := by
  rcases q with (q | ⟨o, q⟩) | q
  · exact .inl (.inl (by rw [upd_ne fun e => by subst e; rw [h] at q; cases q]; exact q))
  · exact .inl (.inr ⟨o, by rw [upd_ne fun e => by subst e; rw [h] at q; cases q]; exact q⟩)
  · exact .inr q
theorem fz_unlock {a : Addr} {od : Obj} {kvs : List (Key × V)} (h : H a = some (.frz od (.dK kvs))) (b : Addr) (vs : List V) (q : Fz K H b vs) : Fz K (upd H a (.dK kvs)) b vs := by
  rcases q with ⟨o, q⟩ | q
  · exact .inl ⟨o, by rw [upd_ne fun e => by subst e; rw [h] at q; cases q]; exact q⟩
  · exact .inr q
def iaAt (ia : Nat → Addr) (i : Nat) (a : Addr) : Nat → Addr := fun j => if j = i then a else ia j
/-- the dict of slot i is locked -/
theorem SR.lock (r : SR K P B ia s σ H Fs) {i : Nat} {o : Own} {kds : List (Key × D)} (e : s[i]? = some (some (o, .dct kds))) (n : o ≠ Own.sh) :
    ∃ a kvs, σ[i]? = some (some (.ref a)) ∧ H a = some (.dK kvs) ∧ ¬ P a ∧ (o = Own.io → ia i = a) ∧ ∀ od, SR K P B (iaAt ia i a) (s.set i (some (.io, .dcl kds))) σ (upd H a (.frz od (.dK kvs))) Fs := by
  obtain ⟨a, F, h1, h2, h3, h4, h5, h6⟩ := r.own i o _ e n
  cases h3 with
  | @dct _ _ kvs _ m1 m2 =>
    refine ⟨a, kvs, h1, m1, h5, fun ho => by subst ho; have := r.iov i _ e; rw [h1] at this; cases this; rfl, fun od => ?_⟩
    have im : ∀ b u, H b = some u → Im u → upd H a (.frz od (.dK kvs)) b = some u := fun b u hb hi => by rw [upd_ne fun e => by subst e; rw [m1] at hb; cases hb; exact hi]; exact hb
    have keepF : ∀ j, j ≠ i → ∀ b, b ∈ Fs j → upd H a (.frz od (.dK kvs)) b = H b := fun j hj b m => upd_ne fun e => h6 j hj (e ▸ m)
    have rK : RepK K (upd H a (.frz od (.dK kvs))) kds kvs F := RepK.keep im m2 fun b m => upd_ne fun e => h4 (e ▸ m)
    refine ⟨by simp [r.len], fun j o' d q => ?_, fun j o' d q n' => ?_, fun j d q => ?_, fun j q => ?_, r.inB, fun b q => ?_, fun b q => ?_⟩
    · by_cases hj : j = i
      · subst hj
        rw [get_set_eq e] at q; cases q
        exact ⟨.ref a, h1, by rw [h2]; exact .dcl ⟨od, upd_same⟩ rK⟩
      · rw [get_set_ne hj] at q
        obtain ⟨v, g1, g2⟩ := r.rep j o' d q
        exact ⟨v, g1, g2.keep im fun b m => keepF j hj b m⟩
    · by_cases hj : j = i
      · subst hj
        rw [get_set_eq e] at q; cases q
        exact ⟨a, F, h1, h2, .dcl ⟨od, upd_same⟩ rK, h4, h5, h6⟩
      · rw [get_set_ne hj] at q
        obtain ⟨b, G, g1, g2, g3, g4, g5, g6⟩ := r.own j o' d q n'
        exact ⟨b, G, g1, g2, g3.keep im fun c m => keepF j hj c (by rw [g2]; exact m), g4, g5, g6⟩
    · by_cases hj : j = i
      · subst hj
        unfold iaAt
        rw [if_pos rfl]; exact h1
      · rw [get_set_ne hj] at q
        unfold iaAt
        rw [if_neg hj]; exact r.iov j d q
    · by_cases hj : j = i
      · subst hj
        exact absurd (get_set_eq e) (q _ _)
      · exact r.dead j fun o' d' z => q o' d' (by rw [get_set_ne hj]; exact z)
    · by_cases hba : b = a
      · subst hba; rw [upd_same]; simp
      · rw [upd_ne hba]; exact r.tr b q
    · by_cases hba : b = a
      · subst hba; rw [upd_same] at q; cases q
      · rw [upd_ne hba] at q; exact r.nb b q
theorem SR.unlock {a : Addr} {od : Obj} {kvs : List (Key × V)} {i : Nat} {o : Own} {kds : List (Key × D)} (r : SR K P B (iaAt ia i a) s' σ' H' Fs') (e : s'[i]? = some (some (.io, .dcl kds))) (h : H' a = some (.frz od (.dK kvs))) (hia : o = Own.io → ia i = a) (n : o ≠ Own.sh) :
    SR K P B ia (s'.set i (some (o, .dct kds))) σ' (upd H' a (.dK kvs)) Fs' := by
  have hv := r.iov i _ e
  unfold iaAt at hv
  rw [if_pos rfl] at hv
  obtain ⟨a', F, h1, h2, h3, h4, h5, h6⟩ := r.own i _ _ e (by decide)
  rw [hv] at h1; cases h1
  cases h3 with
  | @dcl _ _ kvs' _ m1 m2 =>
    obtain ⟨od', m1⟩ := m1
    rw [h] at m1; cases m1
    have it := sqT_unlock (K := K) h
    have il := fz_unlock (K := K) h
    have keepF : ∀ j, j ≠ i → ∀ b, b ∈ Fs' j → upd H' a (.dK kvs) b = H' b := fun j hj b m => upd_ne fun e => h6 j hj (e ▸ m)
    have rK : RepK K (upd H' a (.dK kvs)) kds kvs F := RepK.keepG it il m2 fun b m => upd_ne fun e => h4 (e ▸ m)
    refine ⟨by simp [r.len], fun j o' d q => ?_, fun j o' d q n' => ?_, fun j d q => ?_, fun j q => ?_, r.inB, fun b q => ?_, fun b q => ?_⟩
    · by_cases hj : j = i
      · subst hj
        rw [get_set_eq e] at q; cases q
        exact ⟨.ref a, hv, by rw [h2]; exact .dct upd_same rK⟩
      · rw [get_set_ne hj] at q
        obtain ⟨v, g1, g2⟩ := r.rep j o' d q
        exact ⟨v, g1, g2.keepG it il fun b m => keepF j hj b m⟩
    · by_cases hj : j = i
      · subst hj
        rw [get_set_eq e] at q; cases q
        exact ⟨a, F, hv, h2, .dct upd_same rK, h4, h5, h6⟩
      · rw [get_set_ne hj] at q
        obtain ⟨b, G, g1, g2, g3, g4, g5, g6⟩ := r.own j o' d q n'
        refine ⟨b, G, g1, g2, ?_, g4, g5, g6⟩
        have fb : ∀ c, c ∈ b :: G → upd H' a (.dK kvs) c = H' c := fun c m => keepF j hj c (by rw [g2]; exact m)
        cases g3 with
        | lst p1 p2 => exact .lst ((fb _ List.mem_cons_self).trans p1) (Reps.keepG it il p2 fun c m => fb c (List.mem_cons_of_mem _ m))
        | dct p1 p2 => exact .dct ((fb _ List.mem_cons_self).trans p1) (RepK.keepG it il p2 fun c m => fb c (List.mem_cons_of_mem _ m))
        | dcl p1 p2 => exact .dcl (let ⟨u, w⟩ := p1; ⟨u, (fb _ List.mem_cons_self).trans w⟩) (RepK.keepG it il p2 fun c m => fb c (List.mem_cons_of_mem _ m))
    · by_cases hj : j = i
      · subst hj
        rw [get_set_eq e] at q
        cases q
        rw [hia rfl]; exact hv
      · rw [get_set_ne hj] at q
        have := r.iov j d q
        unfold iaAt at this
        rw [if_neg hj] at this; exact this
    · by_cases hj : j = i
      · subst hj
        exact absurd (get_set_eq e) (q _ _)
      · exact r.dead j fun o' d' z => q o' d' (by rw [get_set_ne hj]; exact z)
    · by_cases hba : b = a
      · subst hba; rw [upd_same]; simp
      · rw [upd_ne hba]; exact r.tr b q
    · by_cases hba : b = a
      · subst hba; rw [upd_same] at q; cases q
      · rw [upd_ne hba] at q; exact r.nb b q
/-- a statement that walks the dict of slot i -/
def lockM (i : Nat) (m : M Fl) : M Fl := fun s => match s[i]? with
  | some (some (o, .dct kds)) => if o = .sh then .stuck else (match m (s.set i (some (.io, .dcl kds))) with
    | .ok fl s' => (match s'[i]? with
      | some (some (.io, .dcl kds')) => .ok fl (s'.set i (some (o, .dct kds')))
      | _ => .stuck)
    | _ => .stuck)
  | _ => .stuck
theorem tS_lock {i : Nat} {m : M Fl} (Dn : Ends) (σ : St) (H : Hp) (h : tS K E (lockM i m) Dn σ H) : tLock (tS K E m) Dn σ H := by
  obtain ⟨P, B, ia, s, Fs, r, w⟩ := h
  unfold lockM at w
  split at w
  · rename_i o kds e
    split at w
    · exact w.elim
    · rename_i n
      obtain ⟨a, kvs, hv, ha, hp, hia, lk⟩ := r.lock e n
      refine ⟨a, .dK kvs, ha, trivial, fun od => ⟨P, B, iaAt ia i a, _, Fs, lk od, ?_⟩⟩
      have frH : ∀ H', Fr P (upd H a (.frz od (.dK kvs))) H' → H' a = some (.frz od (.dK kvs)) ∧ Fr P H (upd H' a (.dK kvs)) := fun H' fr => by
        refine ⟨fr.i _ _ upd_same trivial, fun b hb => ?_, fun b u hb hi => ?_⟩
        · have hba : b ≠ a := fun q => hp (q ▸ hb)
          rw [upd_ne hba, fr.p b hb, upd_ne hba]
        · have hba : b ≠ a := fun q => by subst q; rw [ha] at hb; cases hb; exact hi
          rw [upd_ne hba]
          exact fr.i b u (by rw [upd_ne hba]; exact hb) hi
      cases em : m (s.set i (some (.io, .dcl kds))) with
      | stuck => rw [em] at w; exact w.elim
      | exc x s' => rw [em] at w; exact w.elim
      | ok fl s' =>
        rw [em] at w
        dsimp only at w
        split at w
        · rename_i kds' e'
          cases fl with
          | nx => exact fun σ' H' Fs' fr r' => let q := frH H' fr; ⟨q.1, w σ' _ Fs' q.2 (r'.unlock e' q.1 hia n)⟩
          | bk => exact fun σ' H' Fs' fr r' => let q := frH H' fr; ⟨q.1, w σ' _ Fs' q.2 (r'.unlock e' q.1 hia n)⟩
          | ct => exact fun σ' H' Fs' fr r' => let q := frH H' fr; ⟨q.1, w σ' _ Fs' q.2 (r'.unlock e' q.1 hia n)⟩
          | rt f d =>
            intro v σ' H' rv
            obtain ⟨F, Fs2, k1, k2, k3, k4, k5⟩ := rv
            have q := frH H' k2
            refine ⟨q.1, w v σ' _ ⟨F, Fs2, ?_, q.2, k3, k4.unlock e' q.1 hia n, fun hf => ?_⟩⟩
            · obtain ⟨a', F', g1, g2, g3, g4, g5, g6⟩ := k4.own i _ _ e' (by decide)
              have hv' := k4.iov i _ e'
              unfold iaAt at hv'
              rw [if_pos rfl] at hv'
              rw [hv'] at g1; cases g1
              exact k1.keepG (sqT_unlock q.1) (fz_unlock q.1) fun b mb => upd_ne fun z => g5 (.inr (z ▸ mb))
            · obtain ⟨b, G, g1, g2, g3, g4, g5, g6⟩ := k5 hf
              obtain ⟨a', F', j1, j2, j3, j4, j5, j6⟩ := k4.own i _ _ e' (by decide)
              have hv' := k4.iov i _ e'
              unfold iaAt at hv'
              rw [if_pos rfl] at hv'
              rw [hv'] at j1; cases j1
              have fb : ∀ c, c ∈ b :: G → upd H' a (.dK kvs) c = H' c := fun c mc => upd_ne fun z => j5 (.inr (by rw [g2]; exact z ▸ mc))
              refine ⟨b, G, g1, g2, ?_, g4, g5, g6⟩
              cases g3 with
              | lst p1 p2 => exact .lst ((fb _ List.mem_cons_self).trans p1) (Reps.keepG (sqT_unlock q.1) (fz_unlock q.1) p2 fun c m => fb c (List.mem_cons_of_mem _ m))
              | dct p1 p2 => exact .dct ((fb _ List.mem_cons_self).trans p1) (RepK.keepG (sqT_unlock q.1) (fz_unlock q.1) p2 fun c m => fb c (List.mem_cons_of_mem _ m))
              | dcl p1 p2 => exact .dcl (let ⟨u, w⟩ := p1; ⟨u, (fb _ List.mem_cons_self).trans w⟩) (RepK.keepG (sqT_unlock q.1) (fz_unlock q.1) p2 fun c m => fb c (List.mem_cons_of_mem _ m))
        · exact w.elim
  · exact w.elim
end
theorem ds_lock {X : Cx} {E : WX} {st : Stmt} {i : Nat} {m : M Fl} (h : PS X st (tS X.K E m)) : PS X st (tS X.K E (lockM i m)) := (ps_lock h).imp tS_lock
/-- a key as a value -/
def keyD : Key → D
  | .inl i => .int i
  | .inr x => .str x
theorem keyD_rep {K : PySem.W.Frag} {H : Hp} : ∀ k : Key, Rep K H (keyD k) (kV k) []
  | .inl i => .int
  | .inr x => .str
theorem RepK.keys {K : PySem.W.Frag} {H : Hp} : ∀ {kds : List (Key × D)} {kvs : List (Key × V)} {F : List Addr}, RepK K H kds kvs F → kds.map (·.1) = kvs.map (·.1)
  | [], _, _, h => by cases h; rfl
  | (k, d) :: ds, _, _, h => by
    cases h with
    | cons h1 h2 => simp [RepK.keys h2]
/-- for k in d, d locked at slot i -/
def keysM (i : Nat) : M (List D) := fun s => match s[i]? with
  | some (some (_, .dcl kds)) => .ok (kds.map fun q => keyD q.1) s
  | _ => .stuck
theorem it_keys {K : PySem.W.Frag} {P B : Addr → Prop} {H : Hp} {a : Addr} {od : Obj} {kds : List (Key × D)} {kvs : List (Key × V)} (h : H a = some (.frz od (.dK kvs))) (hk : kds.map (·.1) = kvs.map (·.1)) : ItOK K P B (Itk a od kvs) (kds.map fun q => keyD q.1) H := by
  refine ⟨fun H' => H' a = some (.frz od (.dK kvs)), h, fun H1 H2 q fr => fr.i _ _ q trivial, fun i H1 q => ⟨fun d e => ?_, fun hl => ⟨q, ?_⟩⟩⟩
  · have e' : (kds.map (·.1)).map keyD = kds.map fun q => keyD q.1 := by rw [List.map_map]; rfl
    rw [← e', hk, List.getElem?_map, List.getElem?_map] at e
    obtain ⟨k0, e1, e2⟩ := Option.map_eq_some_iff.mp e
    obtain ⟨⟨k, v⟩, e3, e4⟩ := Option.map_eq_some_iff.mp e1
    dsimp only at e4
    subst e4 e2
    refine ⟨⟨q, (List.getElem?_eq_some_iff.mp e3).1⟩, fun x H2 y => ?_⟩
    obtain ⟨rfl, k', v', e5, rfl⟩ := y
    rw [e3] at e5; cases e5
    exact ⟨.inl rfl, [], keyD_rep k, nofun, nofun⟩
  · have := congrArg List.length hk
    simp at this hl
    omega
theorem di_keys {X : Cx} {E : WX} {tg e : Expr} {i : Nat} (he : PE X e (tVar i)) : PI X tg e (tI X.K E (keysM i)) := (pi_keys he).imp fun σ H R h => by
  obtain ⟨P, B, ia, s, Fs, r, w⟩ := h
  unfold keysM at w
  split at w
  · rename_i o kds e
    obtain ⟨v, F, hv, ov⟩ := r.opd e
    obtain ⟨a, kvs, G, rfl, ⟨od, h1⟩, h2, no, ib⟩ := ov.dcl_inv
    exact ⟨.ref a, hv, a, od, rfl, .inl ⟨kvs, h1, w _ H P Fs (fun b m => m) Fr.refl r (it_keys h1 h2.keys)⟩⟩
  · exact w.elim
end PV

/-! PV: dict comprehensions. -/
namespace PV
open PySem PySem.Spec L2
def dcL (t : Tg) (tt : M Bool) (tk tv : M (Bool × D)) (vs : List Nat) : List D → List (Key × D) → S → Res (List (Key × D))
  | [], acc, s => .ok acc s
  | d :: ds, acc, s => match t.put d s with
    | none => .stuck
    | some s1 => (nox (tt s1)).bind fun b s2 => if b = true then (nox (tk s2)).bind fun k s3 => (nox (tv s3)).bind fun y s4 => (match k.2.key with
        | some kk => if acc.length < sizeLine then dcL t tt tk tv vs ds (kput acc kk y.2) (killAll s4 vs) else .stuck
        | none => .stuck)
      else dcL t tt tk tv vs ds acc (killAll s2 vs)
/-- {tk: tv for t in it if tt} -/
def dcM (it : M (List D)) (t : Tg) (tt : M Bool) (tk tv : M (Bool × D)) (vs : List Nat) : M (Bool × D) := fun s => (it s).bind fun ds s1 => (dcL t tt tk tv vs ds [] (killAll s1 vs)).bind fun acc s2 => .ok (true, .dct acc) s2
theorem tD_dc {K : PySem.W.Frag} {E : WX} {it : M (List D)} {t : Tg} {tt : M Bool} {tk tv : M (Bool × D)} {vs : List Nat} (hs : ∀ i, i ∈ t.slots → i ∈ vs) (σ : St) (H : Hp) (Q : VK) (h : tD K E (dcM it t tt tk tv vs) σ H Q) : tDc (tI K E it) (gT K t) (tT K EN tt) (tD K EN tk) (tD K EN tv) vs σ H Q := by
  obtain ⟨P, B, ia, s, Fs, r, w⟩ := h
  refine ⟨P, B, ia, s, Fs, r, (Post.bind w).mono (fun _ _ q => q) fun ds s1 q J H1 P' Fs1 hP fr1 r1 ok p np => ?_⟩
  obtain ⟨inv, i0, keep, turn⟩ := ok
  have q := Post.bind q
  have npP : ¬ P' p := fun h => r1.tr p h np
  have Pne : ∀ {b}, P' b → b ≠ p := fun h e => npP (e ▸ h)
  let QX : Exn → S → Prop := fun x s' => ∀ cls dx H', RX K P B ia s' σ H H' x cls dx → E cls dx σ H'
  let QF : List (Key × D) → S → Prop := fun acc s2 => ∀ v H', RV K P B ia s2 σ H H' true (.dct acc) v → Q v H'
  let W : Nat → Nat → Hp → Prop := fun i m H' => m + i = ds.length ∧ ∃ st Fs acc vacc F, (∀ i, i ∈ vs → ∀ x, st[i]? ≠ some (some x)) ∧ inv H' ∧ Fr P H H' ∧ H' p = some (.dK vacc) ∧ RepK K H' acc vacc F ∧ (∀ a, a ∈ F → B a ∧ a ≠ p) ∧
    SR K (fun b => (P' b ∨ b = p) ∨ b ∈ F) (fun b => B b ∧ b ≠ p) ia st (wipe σ vs) H' Fs ∧ Post QX QF (dcL t tt tk tv vs (ds.drop i) acc st)
  have toWipe : ∀ {P0 B0 : Addr → Prop} {st : S} {σ0 : St} {H0 : Hp} {F0 : Nat → List Addr}, (∀ i, i ∈ vs → ∀ x, st[i]? ≠ some (some x)) → SR K P0 B0 ia st σ0 H0 F0 → SR K P0 B0 ia st (wipe σ0 vs) H0 F0 := fun hd r0 =>
    r0.cong (wipe_length _ _) fun i o d e => wipe_out fun m => hd i m _ e
  refine ⟨W, ⟨ds.length, by simp, ?_⟩, ?_⟩
  · obtain ⟨Fs2, r2, sub⟩ := r1.killAll vs
    have hd : ∀ i, i ∈ vs → ∀ x, (killAll s1 vs)[i]? ≠ some (some x) := fun i m x => killAll_in m x
    have fr2 : Fr P' H1 (upd H1 p (.dK [])) := Fr.new np r1.tr
    refine ⟨killAll s1 vs, Fs2, [], [], [], hd, keep _ _ i0 fr2, fr1.trans (fr2.mono hP), upd_same, .nil, fun a m => (by cases m), ?_, by simpa using q⟩
    have r3 := toWipe hd (r2.new np (o := .dK []))
    have r4 := r3.prot (F := [p]) (fun a m => by rw [List.mem_singleton.mp m, upd_same]; simp) (fun i o d a e n x m => by
      rw [List.mem_singleton.mp m] at x
      have hi : i ∉ vs := fun m => hd i m _ e
      rw [wipe_out hi] at x
      exact r2.ownTr e n x np)
    exact ⟨r4.len, r4.rep, fun i o d e n => let ⟨a, F, h1, h2, h3, h4, h5, h6⟩ := r4.own i o d e n; ⟨a, F, h1, h2, h3, h4, fun q => h5 (q.elim (fun q => q.imp (fun q => q) fun q => by rw [q]; exact List.mem_cons_self) fun m => by cases m), h6⟩,
      r4.iov, r4.dead, fun j a m => ⟨r4.inB j a m, fun e => r2.trF m (e ▸ np)⟩, fun b q => r4.tr b (q.elim (fun q => q.imp (fun q => q) fun q => by rw [q]; exact List.mem_cons_self) fun m => by cases m), fun b q => ⟨r4.nb b q, fun e => by rw [e, upd_same] at q; cases q⟩⟩
  · rintro i m H2 ⟨em, st, Fs2, acc, vacc, F, hd, i2, fr2, hp, hr, hb, r2, w2⟩
    obtain ⟨go, stop⟩ := turn i H2 i2
    cases e : ds[i]? with
    | none =>
      have hl : ds.length ≤ i := List.getElem?_eq_none_iff.mp e
      rw [List.drop_eq_nil_of_le hl, dcL] at w2
      refine .inl ⟨stop (by omega), w2 (.ref p) H2 ?_⟩
      have r3 : SR K (fun b => (P' b ∨ b = p) ∨ b ∈ F) (fun b => B b ∧ b ≠ p) ia st σ H2 Fs2 := r2.cong (by rw [wipe_length]) fun i o d e => (wipe_out fun m => hd i m _ e).symm
      refine ⟨p :: F, Fs2, .dct hp hr, fr2, fun a m => ?_, ?_, fun _ => ⟨p, F, rfl, rfl, .dct hp hr, fun m => (hb p m).2 rfl, fun q => npP (hP p q), fun j m => (r3.inB j p m).2 rfl⟩⟩
      · rcases List.mem_cons.mp m with rfl | m
        · exact r1.nb _ np
        · exact (hb a m).1
      · have r4 := r3.weak (P' := fun b => P b ∨ b ∈ p :: F) fun b q => q.elim (fun q => .inl (.inl (hP b q))) fun m => (List.mem_cons.mp m).elim (fun e => .inl (.inr e)) .inr
        exact ⟨r4.len, r4.rep, r4.own, r4.iov, r4.dead, fun j a m => (r4.inB j a m).1, r4.tr, fun b q => (r4.nb b q).1⟩
    | some d =>
      obtain ⟨g1, g2⟩ := go d e
      have hi : i < ds.length := (List.getElem?_eq_some_iff.mp e).1
      have ed : ds.drop i = d :: ds.drop (i + 1) := by
        rw [List.drop_eq_getElem_cons hi, (List.getElem?_eq_some_iff.mp e).2]
      rw [ed, dcL] at w2
      refine .inr ⟨g1, fun H' => W (i + 1) (m - 1) H', fun H' hN => ⟨m - 1, by omega, hN⟩, fun x H3 y => ?_⟩
      obtain ⟨hH, Fd, rep, hpd, hbd⟩ := g2 x H3 y
      have fr3 : Fr (fun b => (P' b ∨ b = p) ∨ b ∈ F) H2 H3 := by
        rcases hH with e | ⟨p', o, np', e⟩
        · subst e; exact Fr.refl
        · subst e; exact Fr.new np' r2.tr
      have r3 : SR K (fun b => (P' b ∨ b = p) ∨ b ∈ F) (fun b => B b ∧ b ≠ p) ia st (wipe σ vs) H3 Fs2 := by
        rcases hH with e | ⟨p', o, np', e⟩
        · subst e; exact r2
        · subst e; exact r2.new np'
      split at w2
      · exact w2.elim
      · rename_i s3 e3
        refine put_ok2 e3 r3 rep (fun a m => .inl (.inl (hpd a m))) (fun a m => ⟨hbd a m, Pne (hpd a m)⟩) fun σ4 Fs4 r4 l4 f4 => ?_
        have hw : wipe σ4 vs = wipe σ vs := by
          refine wipe_ext (by rw [l4, wipe_length]) fun j hj => ?_
          rw [f4 j fun m => hj (hs j m), wipe_out hj]
        refine ⟨hw, _, _, ia, s3, Fs4, r4, (nox_post w2).mono (fun _ _ q => q.elim) fun b s5 q5 H5 Fs5 fr5 r5 => ?_⟩
        have fr25 : Fr P H H5 := fr2.trans ((fr3.trans fr5).mono fun b h => .inl (.inl (hP b h)))
        have i5 : inv H5 := keep _ _ i2 ((fr3.trans fr5).mono fun b h => .inl (.inl h))
        have hp5 : H5 p = some (.dK vacc) := ((fr3.trans fr5).p p (.inl (.inr rfl))).trans hp
        have hr5 : RepK K H5 acc vacc F := RepK.keep (fr3.trans fr5).i hr fun a m => (fr3.trans fr5).p a (.inr m)
        cases b with
        | false =>
          rw [if_neg (by decide)] at q5
          refine iteF ?_
          obtain ⟨Fs6, r6, sub⟩ := r5.killAll vs
          have hd6 : ∀ i, i ∈ vs → ∀ x, (killAll s5 vs)[i]? ≠ some (some x) := fun i m x => killAll_in m x
          exact ⟨by omega, killAll s5 vs, Fs6, acc, vacc, F, hd6, i5, fr25, hp5, hr5, hb, by rw [← hw]; exact toWipe hd6 r6, q5⟩
        | true =>
          rw [if_pos rfl] at q5
          refine iteT ⟨_, _, ia, s5, Fs5, r5, (nox_post q5).mono (fun _ _ q => q.elim) fun kk s5' q5' ky H5' rv0 => ?_⟩
          obtain ⟨G0, Fs5', j1, j2, j3, j4, j5⟩ := rv0
          refine ⟨_, _, ia, s5', Fs5', j4, (nox_post q5').mono (fun _ _ q => q.elim) fun y s6 q6 yv H6 rv => ?_⟩
          obtain ⟨G, Fs6, k1, k2', k3, k4', k5⟩ := rv
          have k2 : Fr (fun b => (P' b ∨ b = p) ∨ b ∈ F) H5 H6 := j2.trans (k2'.mono fun b h => .inl h)
          have k4 : SR K (fun b => ((P' b ∨ b = p) ∨ b ∈ F) ∨ b ∈ G) (fun b => B b ∧ b ≠ p) ia s6 σ4 H6 Fs6 := k4'.weak fun b h => h.elim (fun h => .inl (.inl h)) .inr
          split at q6
          · rename_i kq hkq
            split at q6
            · rename_i hz
              have hp6 : H6 p = some (.dK vacc) := (k2.p p (.inl (.inr rfl))).trans hp5
              have hr6 : RepK K H6 acc vacc F := RepK.keep k2.i hr5 fun a m => k2.p a (.inr m)
              refine ⟨vacc, kq, j1.key hkq, hp6, by rw [← hr6.length]; exact hz, ?_⟩
              obtain ⟨Fs7, r7, sub⟩ := k4.killAll vs
              have hd7 : ∀ i, i ∈ vs → ∀ x, (killAll s6 vs)[i]? ≠ some (some x) := fun i m x => killAll_in m x
              have r8 := toWipe hd7 r7
              rw [hw] at r8
              have im : ∀ b o, H6 b = some o → Im o → upd H6 p (.dK (putK vacc kq yv)) b = some o := fun b o hx hi => by rw [upd_ne fun e => by subst e; rw [hp6] at hx; cases hx; exact hi]; exact hx
              obtain ⟨F', g1', g2'⟩ := RepK.put (k := kq) k1 hr6
              have npF : ∀ a, a ∈ F' → a ≠ p := fun a m => (g2' a m).elim (fun m => (hb a m).2) fun m => (k3 a m).2
              have hr7 : RepK K (upd H6 p (.dK (putK vacc kq yv))) (kput acc kq y.2) (putK vacc kq yv) F' := RepK.keep im g1' fun a m => upd_ne (npF a m)
              have fr6 : Fr P' H5 (upd H6 p (.dK (putK vacc kq yv))) := ⟨fun b hb => by rw [upd_ne (Pne hb)]; exact k2.p b (.inl (.inl hb)), fun b o hb hi => im b o (k2.i b o hb hi) hi⟩
              refine ⟨by omega, killAll s6 vs, Fs7, kput acc kq y.2, putK vacc kq yv, F', hd7, keep _ _ i5 fr6, fr25.trans (fr6.mono hP), upd_same, hr7, fun a m => (g2' a m).elim (hb a) (k3 a), ?_, q6⟩
              have r9 : SR K (fun b => (P' b ∨ b = p) ∨ b ∈ F') (fun b => B b ∧ b ≠ p) ia (killAll s6 vs) (wipe σ vs) H6 Fs7 := r8.weak fun b q => q.elim (fun q => .inl (.inl q)) fun m => (g2' b m).elim (fun m => .inl (.inr m)) .inr
              have npS : ∀ j a, a ∈ Fs7 j → a ≠ p := fun j a m => (r9.inB j a m).2
              refine ⟨r9.len, fun j o d e => let ⟨v, h1, h2⟩ := r9.rep j o d e; ⟨v, h1, h2.keep im fun a m => upd_ne (npS j a m)⟩,
                fun j o d e n => let ⟨a, F, h1, h2, h3, h4, h5, h6⟩ := r9.own j o d e n; ⟨a, F, h1, h2, h3.keep im fun b m => upd_ne (npS j b (by rw [h2]; exact m)), h4, h5, h6⟩, r9.iov, r9.dead, r9.inB, fun b q => ?_, fun b q => ?_⟩
              · by_cases hbp : b = p
                · subst hbp; rw [upd_same]; simp
                · rw [upd_ne hbp]; exact r9.tr b q
              · by_cases hbp : b = p
                · subst hbp; rw [upd_same] at q; cases q
                · rw [upd_ne hbp] at q; exact r9.nb b q
            · exact q6.elim
          · exact q6.elim
/-- a dict comprehension; h: pe_dc .. -/
theorem dm_dc {X : Cx} {E : WX} {e : Expr} {it : M (List D)} {t : Tg} {tt : M Bool} {tk tv : M (Bool × D)} {vs : List Nat} (h : PE X e (tDc (tI X.K E it) (gT X.K t) (tT X.K EN tt) (tD X.K EN tk) (tD X.K EN tv) vs)) (hs : t.slots.all (fun i => vs.contains i) = true := by rfl) : PE X e (tD X.K E (dcM it t tt tk tv vs)) :=
  h.imp (tD_dc fun i m => by simpa using List.all_eq_true.mp hs i m)
@[simp] theorem ev_dc (it : M (List D)) (t : Tg) (tt : M Bool) (tk tv : M (Bool × D)) (vs : List Nat) (s : S) : dcM it t tt tk tv vs s = (it s).bind fun ds s1 => (dcL t tt tk tv vs ds [] (killAll s1 vs)).bind fun acc s2 => .ok (true, .dct acc) s2 := rfl
@[simp] theorem ev_keys (i : Nat) (s : S) : keysM i s = match s[i]? with
  | some (some (_, .dcl kds)) => .ok (kds.map fun q => keyD q.1) s
  | _ => .stuck := rfl
@[simp] theorem ev_lock (i : Nat) (m : M Fl) (s : S) : lockM i m s = match s[i]? with
  | some (some (o, .dct kds)) => if o = .sh then .stuck else (match m (s.set i (some (.io, .dcl kds))) with
    | .ok fl s' => (match s'[i]? with
      | some (some (.io, .dcl kds')) => .ok fl (s'.set i (some (o, .dct kds')))
      | _ => .stuck)
    | _ => .stuck)
  | _ => .stuck := rfl
end PV

/-! PV: sets of texts: set(xs) of a list of texts, sorted of it. -/
namespace PVS
open PySem PySem.Spec PyProof.Rows L2
def keyT (e : Int × Value) : Str := match e.2 with | .str k _ => k | _ => Str.empty
def GoodT (P : Program) (w : World) (e : Int × Value) : Prop := ∃ k tk, e.2 = Value.str k tk ∧ e.1 = (PySem.strKind P w).hash k
/-- the set of texts at a: S its members, n their number; its table rises and can be walked -/
def SetT (P : Program) (w : World) (h : Heap) (a : Addr) (S : Str → Bool) (n : Nat) : Prop :=
  ∃ o es ep t, h.get? a = some o ∧ o.ExactSet ∧ o.data = .set es ep t ∧ (∀ e ∈ es.toList, GoodT P w e) ∧ (es.toList.map keyT).Nodup ∧ (∀ k, S k = true ↔ k ∈ es.toList.map keyT) ∧
    es.size < scanBound ∧ t.fits es.size = true ∧ es.size = n ∧ Ris t.place.toList ∧ (w.params.followText "set-order" = true ∨ t.led = true)
section
variable {P : Program} {w : World} {h h' : Heap} {a : Addr} {S : Str → Bool} {n : Nat}
theorem SetT.at (R : SetT P w h a S n) (k : ∀ o, h.get? a = some o → h'.get? a = some o) : SetT P w h' a S n := by
  obtain ⟨o, es, ep, t, ho, r⟩ := R
  exact ⟨o, es, ep, t, k o ho, r⟩
theorem SetT.congr {S' : Str → Bool} (R : SetT P w h a S n) (e : ∀ k, S' k = S k) : SetT P w h a S' n := by
  have q : S' = S := funext e
  rw [q]; exact R
theorem goodT_elems {l : List (Int × Value)} (g : ∀ e ∈ l, GoodT P w e) : ElemsOf (PySem.strKind P w) l := fun e he => by
  obtain ⟨k, tk, h1, h2⟩ := g e he
  exact ⟨⟨k, by rw [h1]; exact strKind_is P w k tk, h2⟩, by rw [h1] <;> rfl⟩
theorem goodT_is {e : Int × Value} (g : GoodT P w e) (k : Str) : (PySem.strKind P w).is k e.2 = true ↔ keyT e = k := by
  obtain ⟨k0, tk, h1, _⟩ := g
  unfold keyT
  rw [h1]
  show ((k0 == k) = true) ↔ k0 = k
  exact beq_iff_eq
theorem goodT_mem {l : List (Int × Value)} (g : ∀ e ∈ l, GoodT P w e) (k : Str) : k ∈ l.map keyT ↔ ∃ e ∈ l, (PySem.strKind P w).is k e.2 = true := by
  rw [List.mem_map]
  constructor
  · rintro ⟨e, he, q⟩
    exact ⟨e, he, (goodT_is (g e he) k).2 q⟩
  · rintro ⟨e, he, q⟩
    exact ⟨e, he, (goodT_is (g e he) k).1 q⟩
end
section
variable {P : Program} {w : World} {A : Around} {E : Value → Shared → Prop} {s : Shared} {a : Addr} {S : Str → Bool} {n : Nat}
theorem setT_add_tail {g : Bool → Sem Unit} (hg : ∀ (b : Bool) (s₁ : Shared) (Q' : Unit → Shared → Prop), Q' () s₁ → wpAny (model P w) A (g b) Q' E s₁)
    {o : Obj} {es : Array (Int × Value)} {ep : Nat} {t : SetTable} (ho : s.heap.get? a = some o) (hex : o.ExactSet) (hd : o.data = .set es ep t)
    {es1 : Array (Int × Value)} {t2 : SetTable} {S' : Str → Bool} (g1 : ∀ e ∈ es1.toList, GoodT P w e) (nd1 : (es1.toList.map keyT).Nodup) (m1 : ∀ k, S' k = true ↔ k ∈ es1.toList.map keyT)
    (hb1 : es1.size < scanBound) (hf2 : t2.fits es1.size = true) (hr : Ris t2.place.toList) (hl : w.params.followText "set-order" = true ∨ t2.led = true) {wasDummy : Bool} {R : Option Bool → Shared → Prop}
    (hR : ∀ h', Heap.SameBut a s.heap h' → SetT P w h' a S' es1.size → R (some true) { s with heap := h' }) :
    wpAny (model P w) A (do
        storeSet a es1 t2
        if (!wasDummy && t2.tooFull) = true then do
            g (relayAll t2 es1 (SetTable.grown es1.size)).2.2
            storeSet a (relayAll t2 es1 (SetTable.grown es1.size)).1 (relayAll t2 es1 (SetTable.grown es1.size)).2.1
            pure (some true)
          else pure (some true)) R E s := by
  refine wpAny_bind (wpAny_storeSet_of ho hd ?_ (fits_of_scanBound hb1))
  have ho1 := store_at (es' := es1) (t' := t2) ho hd
  have sb1 := Heap.SameBut.update s.heap a (Obj.putSet es1 t2)
  split
  · have pm := relayAll_perm t2 es1 (SetTable.grown es1.size)
    have hf3 := relayAll_fits t2 es1 (SetTable.grown es1.size)
    have hr3 := relayAll_ris t2 es1 (SetTable.grown es1.size)
    have hl3 := relayAll_led t2 es1 (SetTable.grown es1.size)
    generalize relayAll t2 es1 (SetTable.grown es1.size) = Z at pm hf3 hr3 hl3 ⊢
    obtain ⟨es2, t3, gave⟩ := Z
    dsimp only at pm hf3 hr3 hl3 ⊢
    have hsz : es2.size = es1.size := by rw [← Array.length_toList, pm.length_eq, Array.length_toList]
    have hb2 : es2.size < scanBound := by rw [hsz]; exact hb1
    refine wpAny_bind (hg _ _ _ ?_)
    refine wpAny_bind (wpAny_storeSet_of ho1 rfl ?_ (fits_of_scanBound hb2))
    have ho2 := store_at (es' := es2) (t' := t3) ho1 rfl
    refine wpAny_pure (hR _ (sb1.trans (Heap.SameBut.update _ a _)) ?_)
    exact ⟨_, es2, _, t3, ho2, hex, rfl, fun e he => g1 e (pm.mem_iff.mp he), (pm.map keyT).nodup_iff.mpr nd1, fun k => (m1 k).trans (pm.map keyT).mem_iff.symm, hb2, hf3, hsz, hr3,
      hl.imp id fun z => by rw [hl3]; exact z⟩
  · exact wpAny_pure (hR _ sb1 ⟨_, es1, _, t2, ho1, hex, rfl, g1, nd1, m1, hb1, hf2, rfl, hr, hl⟩)
theorem setT_add_hashed {k : Str} {tk : PySem.Tok} {Q : Bool → Shared → Prop} (R : SetT P w s.heap a S n) (room : n + 1 < scanBound)
    (hQ : ∀ h', Heap.SameBut a s.heap h' → SetT P w h' a (fun j => S j || decide (j = k)) (if S k = true then n else n + 1) → Q (!S k) { s with heap := h' }) :
    wpAny (model P w) A (setAddHashed a (.str k tk) ((PySem.strKind P w).hash k)) Q E s := by
  obtain ⟨o, es, ep, t, ho, hex, hd, g, nd, hm, hb, hf, hn, hr, hl⟩ := R
  have hkey : (PySem.strKind P w).is k (.str k tk) = true := strKind_is P w k tk
  have hsc : (Value.str k tk).scannable = true := rfl
  have hel : ElemsOf (PySem.strKind P w) es.toList := goodT_elems g
  unfold setAddHashed setAddHashedIn
  refine wpAny_holding (wpAny_bind (wpAny_setState_of ho hd hf ?_))
  dsimp only
  rw [byScan_of hsc hb hel]
  simp only [↓reduceIte]
  unfold setAddByScan
  refine wpAny_bind ?_
  refine wpAny_bind (wpAny_rule ?_)
  refine wpAny_bind (wpAny_setScan_of hkey ho hd hf hel ?_)
  cases hfi : List.findIdx? (fun e => (PySem.strKind P w).is k e.2) es.toList with
  | some j =>
    dsimp only
    obtain ⟨hj, pj, _⟩ := List.findIdx?_eq_some_iff_getElem.mp hfi
    have hSk : S k = true := (hm k).2 ((goodT_mem (P := P) (w := w) g k).2 ⟨es.toList[j], List.getElem_mem hj, pj⟩)
    refine wpAny_pure (wpAny_pure ?_)
    have q := hQ s.heap (Heap.SameBut.refl a s.heap) ⟨o, es, ep, t, ho, hex, hd, g, nd, fun i => by
      rw [Bool.or_eq_true, decide_eq_true_eq, ← hm i]
      exact ⟨fun z => z.elim id (fun e => e ▸ hSk), .inl⟩, hb, hf, by rw [if_pos hSk]; exact hn, hr, hl⟩
    rw [hSk] at q
    exact q
  | none =>
    dsimp only
    have hnk : k ∉ es.toList.map keyT := fun z => by
      obtain ⟨e, he, q⟩ := (goodT_mem (P := P) (w := w) g k).1 z
      have c := List.findIdx?_eq_none_iff.mp hfi e he
      rw [q] at c
      cases c
    have hSk : S k = false := by
      cases q : S k with
      | false => rfl
      | true => exact absurd ((hm k).1 q) hnk
    have hgw : ∀ (b : Bool) {s₁ : Shared} {Q' : Unit → Shared → Prop}, Q' () s₁ → wpAny (model P w) A (match b with | true => rule "set.scan.the-table-gave-way" | false => pure ()) Q' E s₁ :=
      fun b s₁ Q' q => by cases b <;> first | exact wpAny_pure q | exact wpAny_rule q
    have pm := layNew_perm t es ((PySem.strKind P w).hash k) (.str k tk)
    have hf1 := layNew_fits t es ((PySem.strKind P w).hash k) (.str k tk)
    have hr1 := layNew_ris t es ((PySem.strKind P w).hash k) (.str k tk) hr
    have hl1 := layNew_led t es ((PySem.strKind P w).hash k) (.str k tk)
    generalize layNew t es ((PySem.strKind P w).hash k) (.str k tk) = Z at pm hf1 hr1 hl1 ⊢
    obtain ⟨es1, t1, wasDummy, gave⟩ := Z
    dsimp only at pm hf1 hr1 hl1 ⊢
    rw [Array.toList_push] at pm
    have pc : es1.toList.Perm (((PySem.strKind P w).hash k, Value.str k tk) :: es.toList) := pm.trans (List.perm_append_singleton _ _)
    have pk : (es1.toList.map keyT).Perm (k :: es.toList.map keyT) := pc.map keyT
    have g1 : ∀ e ∈ es1.toList, GoodT P w e := fun e he => by
      rcases List.mem_cons.mp (pc.mem_iff.mp he) with z | z
      · rw [z]; exact ⟨k, tk, rfl, rfl⟩
      · exact g e z
    have nd1 : (es1.toList.map keyT).Nodup := pk.nodup_iff.mpr (List.nodup_cons.mpr ⟨hnk, nd⟩)
    have m1 : ∀ i, (S i || decide (i = k)) = true ↔ i ∈ es1.toList.map keyT := fun i => by
      rw [Bool.or_eq_true, decide_eq_true_eq, hm i, pk.mem_iff, List.mem_cons]
      exact Or.comm
    have hsz : es1.size = n + 1 := by rw [← Array.length_toList, pc.length_eq, List.length_cons, Array.length_toList, hn]
    have hb1 : es1.size < scanBound := by rw [hsz]; exact room
    have hled : w.params.followText "set-order" = true ∨ t1.led = true := hl.imp id fun z => by rw [hl1]; exact z
    have fin : ∀ h', Heap.SameBut a s.heap h' → SetT P w h' a (fun j => S j || decide (j = k)) es1.size → Q true { s with heap := h' } := fun h' sb r => by
      have q := hQ h' sb
      rw [hSk] at q
      rw [hsz] at r
      exact q r
    refine wpAny_bind (hgw _ ?_)
    split
    · refine wpAny_bind ?_
      rw [hashByValue_scannable 8 hsc]
      refine wpAny_pure ?_
      refine setT_add_tail ?_ ho hex hd g1 nd1 m1 hb1 ?_ ?_ ?_ ?_
      · intro b s₁ Q' q; cases b <;> first | exact wpAny_pure q | exact wpAny_rule q
      · first | (split <;> first | exact hf1 | exact SetTable.fits_plain_off hf1) | exact hf1
      · first | (split <;> exact hr1) | exact hr1
      · first | (split <;> exact hled) | exact hled
      · intro h' sb r; dsimp only; exact wpAny_pure (fin h' sb r)
    · refine wpAny_bind (wpAny_pure ?_)
      simp only [↓reduceIte]
      refine setT_add_tail ?_ ho hex hd g1 nd1 m1 hb1 hf1 hr1 hled ?_
      · intro b s₁ Q' q; cases b <;> first | exact wpAny_pure q | exact wpAny_rule q
      · intro h' sb r; dsimp only; exact wpAny_pure (fin h' sb r)
theorem setT_fresh {h : Heap} (P : Program) (w : World) : SetT P w (h.push { cls := .type "set", dict := none, data := .set #[] 0 (.fresh 0 0 (!w.params.followText "set-order")) }) h.objs.size (fun _ => false) 0 :=
  ⟨_, #[], 0, _, Heap.get?_push_size _ rfl, ⟨rfl, rfl, rfl⟩, rfl, (fun e he => by simp at he), (by simp), (fun k => by simp), (by decide), (by rfl), rfl, List.Pairwise.nil, by
    show _ ∨ (!w.params.followText "set-order") = true
    cases w.params.followText "set-order"
    · exact .inr rfl
    · exact .inl rfl⟩
theorem code_set_led1 (a : Value) {Q₁ : Value → Shared → Prop}
    (h : Q₁ (.ref s.heap.objs.size) { s with heap := s.heap.push { cls := .type "set", dict := none, data := .set #[] 0 (.fresh 0 0 (!w.params.followText "set-order")) } }) :
    codeAny (model P w) A (.call (.builtin "set.__new__") ⟨[.type "set", a], []⟩) (wants Q₁ E) s := by
  refine codeAny_of_tree ?_
  show wpAny _ A.in1 (do checkBuiltinCall "set.__new__" ⟨[.type "set", a], []⟩; again (.builtin "set.__new__" ⟨[.type "set", a], []⟩)) _ _ s
  refine wpAny_bind (wpAny_of_eq (PySem.F.newCall_set_1 a) (wpAny_pure ⟨plainId_quiet PySem.F.plain_set_new _, codeAny_builtin PySem.F.entry_set_new ?_⟩))
  rw [Around.under_plainId PySem.F.plain_set_new _]
  unfold Builtin.«set.__new__» Builtin.Frozenset.newClass
  have hsub := sub_set_self
  obtain ⟨hp, g, d, tk, os⟩ := s
  dsimp only
  wp_walk
  refine wpAny_askSetting (wpAny_pure ?_)
  dsimp only
  simp only [newObj]
  refine wpAny_bind (wpAny_alloc (wpAny_pure ?_))
  exact wpAny_pure h
end
end PVS

/-! PV: sorted(set(xs)) of a list of texts. -/
namespace PVS
open PySem PySem.Spec PyProof.Rows L2
section
variable {prog : Program} {w : World} {A : Around} {R : Result → Shared → Prop} {I : Addr} {fp wr : List Addr} {G : Array GenState → Array GenState → Prop} {n : Nat} {P : Nat → Value → Prop} {St : Nat → Shared → Prop}
theorem any_snoc (xs : List Str) (i : Nat) (hi : i < xs.length) (k' : Str) : ((xs.take i).any (· == k') || decide (k' = xs.getD i Str.empty)) = (xs.take (i + 1)).any (· == k') := by
  have e1 : xs.getD i Str.empty = xs[i] := by
    rw [List.getD_eq_getElem?_getD, List.getElem?_eq_getElem hi]; rfl
  rw [e1, List.take_add_one, List.getElem?_eq_getElem hi, List.any_append]
  congr 1
  rw [Bool.eq_iff_iff, decide_eq_true_iff]
  simp
  exact eq_comm
theorem loopT (W : WalksS prog w A.in1 I fp wr G n P St) (S : Addr) (hSf : S ∉ fp) (xs : List Str) (hsz : xs.length = n) (hn1 : n + 1 < scanBound)
    (hval : ∀ i v, P i v → ∃ t, v = .str (xs.getD i Str.empty) t) :
    ∀ (k i c : Nat) (s : Shared), n - i = k → i ≤ n → c ≤ i → St i s →
      SetT prog w s.heap S (fun k' => (xs.take i).any (· == k')) c →
      (∀ s' c', c' ≤ n → Moved (S :: wr) G s s' → SetT prog w s'.heap S (fun k' => (xs.take n).any (· == k')) c' → R (.ok (.ret .none)) s') →
      codeAny (model prog w) A (.builtin "set.update.loop" ⟨[.ref S, .ref I], []⟩) R s := by
  have hSw : S ∉ wr := fun h => hSf (W.sub _ h)
  have hsub : ∀ b ∈ wr, b ∈ S :: wr := fun b hb => List.mem_cons_of_mem _ hb
  intro k
  induction k with
  | zero =>
    intro i c s hk hi hc hst hS hR
    have hin : i = n := by omega
    subst hin
    refine codeAny_builtin PyProof.Rows.F.entry_set_update_loop ?_
    rw [Around.under_plainId PyProof.Rows.F.plain_set_update_loop _]
    show wpAny _ A.in1 (pyNext (.ref I) >>= _) _ _ s
    refine wpAny_bind (W.done s _ _ hst fun s' hm => ?_)
    show wpAny _ A.in1 (ret Value.none) _ _ s'
    exact wpAny_pure (hR s' c hc (hm.mono hsub) (hS.at fun o ho => hm.heap S _ hSw ho))
  | succ k ih =>
    intro i c s hk hi hc hst hS hR
    have hlt : i < n := by omega
    refine codeAny_builtin PyProof.Rows.F.entry_set_update_loop ?_
    rw [Around.under_plainId PyProof.Rows.F.plain_set_update_loop _]
    show wpAny _ A.in1 (pyNext (.ref I) >>= _) _ _ s
    refine wpAny_bind (W.item i s _ _ hlt hst fun v s' hP hst' hm => ?_)
    obtain ⟨t, rfl⟩ := hval i v hP
    have hS' : SetT prog w s'.heap S (fun k' => (xs.take i).any (· == k')) c := hS.at fun o ho => hm.heap S _ hSw ho
    show wpAny _ A.in1 (holding [Value.str (xs.getD i Str.empty) t] (setAdd S (.str (xs.getD i Str.empty) t)) >>= _) _ _ s'
    refine wpAny_bind (wpAny_holding ?_)
    unfold setAdd
    refine wpAny_holding ?_
    refine wpAny_bind ((PySem.strKind prog w).pyHash (k := xs.getD i Str.empty) (strKind_is _ _ _ _) ?_)
    refine setT_add_hashed (s := { s' with toks := s'.toks + 1 }) hS' (by omega) fun h' hsb hS2 => ?_
    have hSi := hS2.congr (S' := fun k' => (xs.take (i + 1)).any (· == k')) fun k' => (any_snoc xs i (by omega) k').symm
    refine wpAny_pure ⟨plainId_quiet PyProof.Rows.F.plain_set_update_loop _, ih (i + 1) _ _ (by omega) hlt (by split <;> omega) (W.frame _ s' _ _ hst' (Nat.le_succ _) fun b hb o e => ?_) hSi fun s'' c'' hc'' hm'' hS'' => ?_⟩
    · rw [hsb.2 b (fun h : b = S => hSf (by rw [← h]; exact hb))]; exact e
    · refine hR s'' c'' hc'' (Moved.trans W.gtrans ((hm.mono hsub).then_heap (Nat.le_succ _) fun b o hb e => ?_) hm'') hS''
      rw [hsb.2 b (fun h : b = S => hb (by rw [h]; exact List.mem_cons_self))]; exact e
end
section
variable {prog : Program} {w : World} {A : Around} {E : Value → Shared → Prop} {s : Shared}
theorem call_set_listT {l : Addr} {items : Array Value} {xs : List Str} {Q : Value → Shared → Prop}
    (hh : A.handled = none) (hl : s.heap.IsList l items) (hi : PyProof.Rows.StrsAre items.toList xs) (hn1 : xs.length + 1 < scanBound)
    (h : ∀ (h' : Heap) (tk c : Nat), c ≤ xs.length → SetT prog w h' s.heap.objs.size (fun k' => xs.any (· == k')) c →
      (∀ b o, b < s.heap.objs.size → s.heap.get? b = some o → h'.get? b = some o) → Q (.ref s.heap.objs.size) { s with heap := h', toks := tk }) :
    wpAny (model prog w) A (call (.type "set") [.ref l]) Q E s := by
  obtain ⟨c, tl, hmro⟩ := PySem.F.called_set.mro
  have hmade := PySem.F.called_set.made
  have hsub := PySem.F.called_set.sub
  refine wpAny_call (codeAny_of_tree ?_)
  show wpAny _ _ (callAny (.type "set") _) _ _ _
  refine wpAny_pure ⟨Code.quiet_builtin _ (by decide +kernel), codeAny_builtin PySem.F.entry_type_call ?_⟩
  rw [Around.under_plain (weight_type_call_type "set" [.ref l] []) rfl]
  have h1 := PySem.F.called_set.notType
  have h2 := PySem.F.called_set.canCreate
  have hct := PySem.F.typeCall_set_1 (.ref l)
  repeat (any_goals (first | assumption | wp_step))
  refine codeAny_mono (code_set_led1 (.ref l) (E := E) (Q₁ := fun obj s₁ => obj = .ref s.heap.objs.size ∧ s₁ = { s with heap := s.heap.push { cls := .type "set", dict := none, data := .set #[] 0 (.fresh 0 0 (!w.params.followText "set-order")) } }) ⟨rfl, rfl⟩) fun r s₁ hr => ?_
  cases r with
  | error e => exact hr
  | ok fl =>
    cases fl with
    | ret obj =>
      obtain ⟨rfl, rfl⟩ := hr
      have hS : (s.heap.push { cls := .type "set", dict := none, data := .set #[] 0 (.fresh 0 0 (!w.params.followText "set-order")) }).get? s.heap.objs.size = some { cls := .type "set", dict := none, data := .set #[] 0 (.fresh 0 0 (!w.params.followText "set-order")) } := Heap.get?_push_size _ rfl
      have hT : Shared.TypeIs { s with heap := s.heap.push { cls := .type "set", dict := none, data := .set #[] 0 (.fresh 0 0 (!w.params.followText "set-order")) } } (.ref s.heap.objs.size) "set" := ⟨_, hS, rfl⟩
      have hli := PySem.F.called_set.init.lookup
      have hbi := PySem.F.called_set.init.bind (.ref s.heap.objs.size)
      have hfr := setT_fresh (h := s.heap) prog w
      generalize (!w.params.followText "set-order") = led at *
      repeat (any_goals (first | assumption | wp_step))
      refine codeAny_mono (codeAny_call_builtin (R := wants (fun r s₂ => r = .none ∧ ∃ h' tk c, s₂ = { s with heap := h', toks := tk } ∧ c ≤ xs.length ∧
          SetT prog w h' s.heap.objs.size (fun k' => xs.any (· == k')) c ∧
          (∀ b o, b < s.heap.objs.size → s.heap.get? b = some o → h'.get? b = some o)) E) PySem.F.called_set.init.plain PySem.F.entry_set_init (check_set_init_1 hT ?_)) fun r₂ s₂ hr₂ => ?_
      · obtain ⟨ol, hol, hcl, nl, hdl⟩ := hl
        obtain ⟨ocls, odict, odata, oslots⟩ := ol
        simp only at hcl hdl
        subst hcl; subst hdl
        have hol' : (s.heap.push { cls := .type "set", dict := none, data := .set #[] 0 (.fresh 0 0 led) }).get? l = some { cls := .type "list", dict := odict, data := .seq items nl, slots := oslots } := Heap.get?_push_of_some _ hol
        have hsls := PySem.F.sub_list_set
        have hslf := PySem.F.sub_list_frozenset
        have hne : (Value.type "list" == Value.type "dict") = false := by decide
        have hl1 : (s.heap.push { cls := .type "set", dict := none, data := .set #[] 0 (.fresh 0 0 led) }).IsList l items := ⟨_, hol', rfl, nl, rfl⟩
        unfold Builtin.«set.__init__» noKeywords Builtin.Frozenset.updateFrom
        generalize hPI : pyIter = PI
        wp_walk
        subst hPI
        refine wpAny_pyIter_list hl1 ?_
        refine wpAny_bind (wpAny_runValue ?_)
        have hlS : l < s.heap.objs.size := Heap.lt_size hol
        have hh3 : A.in1.in1.in1.handled = none := by simp [hh]
        have hneI : l ≠ (s.heap.push { cls := .type "set", dict := none, data := .set #[] 0 (.fresh 0 0 led) }).objs.size := by
          rw [Heap.size_push]; exact Nat.ne_of_lt (Nat.lt_succ_of_lt hlS)
        have hSf : s.heap.objs.size ∉ [(s.heap.push { cls := .type "set", dict := none, data := .set #[] 0 (.fresh 0 0 led) }).objs.size, l] := by
          rw [Heap.size_push]; simp only [List.mem_cons, List.mem_singleton, List.not_mem_nil, or_false, not_or]
          exact ⟨Nat.ne_of_lt (Nat.lt_succ_self _), Nat.ne_of_gt hlS⟩
        have hsz : xs.length = items.size := by rw [← StrsAre.len_eq hi, Array.length_toList]
        have hval : ∀ (i : Nat) (v : Value), items[i]? = some v → ∃ t, v = .str (xs.getD i Str.empty) t := fun i v hv => SS.strs_at hi i v (by rw [Array.getElem?_toList]; exact hv)
        refine loopT ((Walks.list hh3 _ l hneI items).toS) s.heap.objs.size
          hSf xs hsz (by rw [← hsz]; exact hn1) hval (items.size - 0) 0 0 _ (by omega) (Nat.zero_le _) (Nat.le_refl _)
          ⟨⟨_, Heap.get?_push_size _ rfl, rfl, rfl⟩, (hl1.push _)⟩ ?hS0 ?hR
        case hS0 =>
          exact (hfr.at fun o e => Heap.get?_push_of_some _ e).congr fun _ => rfl
        case hR =>
          intro s' c' hc' hm hS'
          obtain ⟨h', g', d', tk', os'⟩ := s'
          have eg : g' = s.gens := hm.gens
          have ed : d' = s.drawn := hm.drawn
          have eo : os' = s.os := hm.os
          subst eg; subst ed; subst eo
          show wpAny _ _ _ _ _ _
          refine wpAny_pure ?_
          show wpAny _ _ (ret Value.none) _ _ _
          refine wpAny_pure ⟨rfl, h', tk', c', rfl, by rw [hsz]; exact hc', hS'.congr (fun k' => by rw [← hsz, List.take_length]), fun b o hb e => ?_⟩
          have hb1 : b ≠ s.heap.objs.size := Nat.ne_of_lt hb
          have hb2 : b ≠ (s.heap.push { cls := .type "set", dict := none, data := .set #[] 0 (.fresh 0 0 led) }).objs.size := by
            rw [Heap.size_push]; exact Nat.ne_of_lt (Nat.lt_succ_of_lt hb)
          exact hm.heap b o (by simp only [List.mem_cons, List.mem_singleton, List.not_mem_nil, or_false, not_or]; exact ⟨hb1, hb2⟩) (Heap.get?_push_of_some _ (Heap.get?_push_of_some _ e))
      · cases r₂ with
        | error e => exact hr₂
        | ok fl₂ =>
          cases fl₂ with
          | ret r =>
            obtain ⟨rfl, h', tk, c', rfl, hc', hS', hk'⟩ := hr₂
            repeat (any_goals (first | assumption | wp_step))
            exact h _ _ c' hc' hS' hk'
          | _ => exact hr₂.elim
    | _ => exact hr.elim
theorem strs_of : ∀ (l : List Value), (∀ v ∈ l, ∃ k tk, v = Value.str k tk) → StrsAre l (l.map fun v => match v with | .str k _ => k | _ => Str.empty)
  | [], _ => .nil
  | v :: l, h => by
    obtain ⟨k, tk, rfl⟩ := h v List.mem_cons_self
    exact .cons k tk (strs_of l fun u hu => h u (List.mem_cons_of_mem _ hu))
theorem sorted_setT {a : Addr} {S : Str → Bool} {n : Nat} {Q : Value → Shared → Prop} (R : SetT prog w s.heap a S n) (hh : A.handled = none) (h64 : n < 64)
    (hQ : ∀ s' p (out : Array Value) (c : Nat) (ys : List Str), (∀ b o, s.heap.get? b = some o → s'.heap.get? b = some o) → s'.gens = s.gens → s'.os = s.os → s.heap.objs.size ≤ p →
      s'.heap.get? p = some (seqObj "list" out c) → StrsAre out.toList ys → sortedS ys = true → ys.Nodup → (∀ k, k ∈ ys ↔ S k = true) → ys.length = n → Q (.ref p) s') :
    wpAny (model prog w) A (call (.builtin "sorted") [.ref a]) Q E s := by
  obtain ⟨o, es, ep, t, ho, hex, hd, g, nd, hm, hb, hf, hn, hr, hl⟩ := R
  refine Calls.call_function_entry kind_sorted plain_sorted entry_sorted (args_sorted1 _) ?_
  unfold Builtin.«sorted»
  refine wpAny_bind (m := checkCount "sorted" 1 1 _) (wpAny_pure ?_)
  refine wpAny_bind (collect_set (A := A.in1) hh ⟨o, ho, hex.1, hd⟩ hf hb hr hl fun s1 vs k1 hz g1 o1 pm => ?_)
  have hvl : vs.length = n := by rw [pm.length_eq, List.length_map, Array.length_toList]; exact hn
  have hI := strs_of vs fun v hv => by
    obtain ⟨e, he, q⟩ := List.mem_map.mp (pm.mem_iff.mp hv)
    obtain ⟨k, tk, h1, _⟩ := g e he
    exact ⟨k, tk, by rw [← q]; exact h1⟩
  have pk : (vs.map fun v => match v with | .str k _ => k | _ => Str.empty).Perm (es.toList.map keyT) := by
    have q := pm.map (fun v => match v with | .str k _ => k | _ => Str.empty)
    rw [List.map_map] at q
    exact q
  generalize (vs.map fun v => match v with | .str k _ => k | _ => Str.empty) = ss at hI pk
  refine wpAny_bind (wpAny_newList ?_ (by rw [hvl, sizeLine_eq]; omega))
  have hoL : (s1.heap.push (seqObj "list" vs.toArray 0)).get? s1.heap.objs.size = some (seqObj "list" vs.toArray 0) := Heap.get?_push_size _ rfl
  refine wpAny_bind (wpAny_holding (wpAny_call_entry slot_list_sort ⟨_, hoL, rfl⟩ entry_list_sort (list_sort_treeK strKind_oneLt hoL hI.keysOf (fun v₁ v₂ rest e => keyKind_strs (by rw [← e]; exact hI)) (by rw [hvl]; exact h64) fun st' hp hs => ?_) (args_list_sort _)))
  obtain ⟨ys, h1, h2, h3⟩ := sorted_out_str hI hp hs
  refine ⟨_, rfl, ?_⟩
  obtain ⟨c, hc⟩ := sortedHeap_at (vs := vs) (out := (arrOf st').map (·.2)) hoL
  have pn : ys.Perm (es.toList.map keyT) := h2.trans pk
  refine wpAny_pure ⟨_, rfl, hQ _ s1.heap.objs.size _ c ys (fun b u e => ?_) g1 o1 hz hc h1 h3 (pn.nodup_iff.mpr nd) (fun k => by rw [pn.mem_iff, ← hm k]) ?_⟩
  · have q := k1 b u e
    have hlt := Heap.lt_size q
    show (sortedHeap (s1.heap.push (seqObj "list" vs.toArray 0)) s1.heap.objs.size vs _).get? b = some u
    rw [sortedHeap_old (Nat.ne_of_lt hlt) (by rw [size_push']; exact Nat.lt_succ_of_lt hlt)]
    exact Heap.get?_push_of_some _ q
  · rw [pn.length_eq, List.length_map, Array.length_toList]; exact hn
end
end PVS

/-! PV: sorted(set(xs)), len(set(xs)), sorted(xs) of texts by values. -/
namespace PV
open PySem PySem.Spec PyProof.Rows L2 PVS
def tSortSet (K : PySem.W.Frag) (ta : TE) : TE := fun σ H Q => ta σ H fun x H1 => ∃ (l : Addr) (xs : List Str), x = .ref l ∧ SqL K H1 l (xs.map V.str) ∧ xs.length < 63 ∧
  ∀ (ys : List Str) (p : Addr), sortedS ys = true → ys.Nodup → (∀ k, k ∈ ys ↔ k ∈ xs) → H1 p = none → Q (.ref p) (upd H1 p (.lst (ys.map V.str)))
theorem sorted_inv {X : Cx} {pins : List (Addr × Obj)} {s : Shared} {σ : L2.St} {H : Hp} {Q : VK} {a : Addr} {S : Str → Bool} {n : Nat} (hc : X.calm = true) (I : Inv X pins σ H s) (hS : SetT X.prog X.w s.heap a S n) (h64 : n < 64)
    (q : ∀ (ys : List Str) (p : Addr), sortedS ys = true → ys.Nodup → (∀ k, k ∈ ys ↔ S k = true) → ys.length = n → H p = none → Q (.ref p) (upd H p (.lst (ys.map V.str)))) :
    wpAny (model X.prog X.w) X.A (call (.builtin "sorted") [.ref a]) (EP X pins σ Q) X.xe s := by
  refine sorted_setT hS (I.ok.hd hc) h64 fun s' p out c' ys k g o hp hg sa ss nd mem len => ?_
  have hlen : (ys.map V.str).length ≤ sizeLine := by rw [List.length_map, len, sizeLine_eq]; omega
  have hn : H p = none := I.hok.fresh hp
  have J : Inv X pins σ (upd H p (.lst (ys.map V.str))) { s with heap := s'.heap, gens := s'.gens, drawn := s'.drawn, toks := s'.toks } :=
    I.call (ch := []) (Un.laid k hp hn) (I.hok.laid k hp ⟨hlen, out.toList, c', vals_of_strs sa, hg⟩) (by rw [g]; exact I.bare) (fun _ z => nomatch z)
  have e : s' = { s with heap := s'.heap, gens := s'.gens, drawn := s'.drawn, toks := s'.toks } := by
    cases s'
    cases s
    cases o
    rfl
  rw [e]
  exact ⟨.ref p, _, J, rfl, q ys p ss nd mem len hn⟩
theorem pe_sortSet {X : Cx} {a : Expr} {ta : TE} {p p2 q pos : Pos} (hc : X.calm = true) (hg : Gl X "sorted") (hm : X.mg "sorted" = none) (hg2 : Gl X "set") (hm2 : X.mg "set" = none) (ha : PE X a ta)
    (na : starEach [a] X.env = (false, eval a X.env) :: starEach [] X.env := by rfl) : PE X (.Call (.Name "sorted" p) [.Call (.Name "set" p2) [a] [] q] [] pos) (tSortSet X.K ta) := by
  refine ⟨fun pins s σ H Q I h => ?_⟩
  refine Call_ (ld_blt I hg hm (u := .builtin "sorted") rfl ?_)
  refine PyProof.Rows.callWith_builtin1 (PyProof.Rows.args_cons ?_ rfl) rfl rfl
  refine Call_ (ld_blt I hg2 hm2 boot_set ?_)
  refine PyProof.Rows.callWith_type1 (PyProof.Rows.args_cons (thn (ha.run pins s σ H _ I h) fun v s1 ⟨x, H1, I1, r1, q1⟩ => PyProof.Rows.args_nil ?_) na) na rfl
  obtain ⟨l, xs, rfl, hq, h1, q1⟩ := q1
  cases r1
  obtain ⟨its, r, pl, hz⟩ := I1.list hq
  refine call_set_listT (I1.ok.hd hc) pl.isList (by simpa using strsAre_of r) (by unfold scanBound; omega) fun h' tk c hcl hS hk => ?_
  refine PyProof.Rows.args_nil ?_
  have I2 : Inv X pins σ H1 { s1 with heap := h', toks := tk } := I1.kept fun b o e => hk b o (Heap.lt_size e) e
  exact sorted_inv hc I2 hS (by omega) fun ys p ss nd mem len hn => q1 ys p ss nd (fun k => by rw [mem k]; simp) hn
/-- sorted xs of texts -/
def sortU (xs : List Str) (ys : List Str) : Prop := sortedS ys = true ∧ ys.Nodup ∧ ∀ k, k ∈ ys ↔ k ∈ xs
end PV

/-! PV: sorted texts. -/
namespace PV
open PySem PySem.Spec PyProof.Rows L2 PVS
def leS (a b : Str) : Prop := a.cps.toList ≤ b.cps.toList
theorem leS_trans {a b c : Str} (h : leS a b) (h' : leS b c) : leS a c := List.le_trans h h'
theorem leS_total (a b : Str) : leS a b ∨ leS b a := List.le_total _ _
theorem leS_anti {a b : Str} (h : leS a b) (h' : leS b a) : a = b := by
  have := List.le_antisymm h h'
  rw [tx_of a, tx_of b, this]
theorem ltC_iff {a b : Str} : ltCps b.cps.toList a.cps.toList = false ↔ leS a b := by
  rw [ltCps_eq, decide_eq_false_iff_not]
  exact List.not_lt
theorem sortedS_iff : ∀ l : List Str, sortedS l = true ↔ l.Pairwise leS := by
  have rise : ∀ (l : List Str) (p : Str), risingS p l = true → (∀ x ∈ l, leS p x) ∧ l.Pairwise leS := by
    intro l
    induction l with
    | nil => intro p _; exact ⟨by simp, List.Pairwise.nil⟩
    | cons x r ih =>
      intro p h
      have h : (!ltCps x.cps.toList p.cps.toList && risingS x r) = true := h
      rw [Bool.and_eq_true, Bool.not_eq_true'] at h
      obtain ⟨h1, h2⟩ := ih x h.2
      have h3 := ltC_iff.mp h.1
      refine ⟨fun y m => ?_, List.pairwise_cons.mpr ⟨h1, h2⟩⟩
      rcases List.mem_cons.mp m with rfl | m
      · exact h3
      · exact leS_trans h3 (h1 y m)
  intro l
  constructor
  · intro h
    cases l with
    | nil => exact List.Pairwise.nil
    | cons x r => exact List.pairwise_cons.mpr (rise r x h)
  · intro h
    exact sortedS_of_pairwise l (h.imp fun {a b} q => ltC_iff.mpr q)
theorem sorted_unique {xs ys : List Str} (h1 : sortedS xs = true) (h2 : sortedS ys = true) (p : xs.Perm ys) : xs = ys :=
  List.Perm.eq_of_pairwise (le := leS) (fun a b _ _ q q' => leS_anti q q') ((sortedS_iff xs).mp h1) ((sortedS_iff ys).mp h2) p
def srtL (xs : List Str) : List Str := xs.mergeSort fun a b => decide (a.cps.toList ≤ b.cps.toList)
theorem srtL_sorted (xs : List Str) : sortedS (srtL xs) = true := by
  rw [sortedS_iff]
  have h := List.pairwise_mergeSort (le := fun a b : Str => decide (a.cps.toList ≤ b.cps.toList)) (fun a b c h1 h2 => by
    rw [decide_eq_true_iff] at h1 h2 ⊢
    exact List.le_trans h1 h2) (fun a b => by
    rw [Bool.or_eq_true, decide_eq_true_iff, decide_eq_true_iff]
    exact List.le_total _ _) xs
  exact h.imp fun {a b} q => of_decide_eq_true q
theorem srtL_perm (xs : List Str) : (srtL xs).Perm xs := List.mergeSort_perm _ _
def dd : List Str → List Str
  | [] => []
  | x :: r => if x ∈ r then dd r else x :: dd r
theorem mem_dd {y : Str} : ∀ {xs : List Str}, y ∈ dd xs ↔ y ∈ xs
  | [] => Iff.rfl
  | x :: r => by
    have ih := mem_dd (y := y) (xs := r)
    rw [dd]
    split
    · rename_i h
      rw [ih, List.mem_cons]
      exact ⟨.inr, fun q => q.elim (fun e => e ▸ h) id⟩
    · rw [List.mem_cons, List.mem_cons, ih]
theorem nodup_dd : ∀ xs : List Str, (dd xs).Nodup
  | [] => List.Pairwise.nil
  | x :: r => by
    rw [dd]
    split
    · exact nodup_dd r
    · rename_i h
      exact List.nodup_cons.mpr ⟨fun m => h (mem_dd.mp m), nodup_dd r⟩
theorem dd_of_nodup : ∀ {xs : List Str}, xs.Nodup → dd xs = xs
  | [], _ => rfl
  | x :: r, h => by
    obtain ⟨h1, h2⟩ := List.nodup_cons.mp h
    rw [dd, if_neg h1, dd_of_nodup h2]
def srtSet (xs : List Str) : List Str := srtL (dd xs)
theorem srtSet_unique {xs ys : List Str} (h1 : sortedS ys = true) (h2 : ys.Nodup) (h3 : ∀ k, k ∈ ys ↔ k ∈ xs) : ys = srtSet xs := by
  refine sorted_unique h1 (srtL_sorted _) ?_
  have p : (srtL (dd xs)).Perm (dd xs) := srtL_perm _
  refine List.Perm.trans ?_ p.symm
  exact (List.perm_ext_iff_of_nodup h2 (nodup_dd xs)).mpr fun k => by rw [h3, mem_dd]
theorem srtSet_eq (xs : List Str) : xs = srtSet xs ↔ sortedS xs = true ∧ xs.Nodup := by
  constructor
  · intro h
    rw [h]
    exact ⟨srtL_sorted _, (srtL_perm _).nodup_iff.mpr (nodup_dd xs)⟩
  · rintro ⟨h1, h2⟩
    exact srtSet_unique h1 h2 fun k => Iff.rfl
theorem srtL_eq (xs : List Str) : xs = srtL xs ↔ sortedS xs = true := by
  constructor
  · intro h
    rw [h]
    exact srtL_sorted _
  · intro h
    exact sorted_unique h (srtL_sorted _) (srtL_perm _).symm
/-! ### by values -/
def srtD (g : List Str → List Str) : D → Option (Bool × D)
  | .lst ds => (txts ds).bind fun xs => if xs.length < 63 then some (true, .lst ((g xs).map D.str)) else none
  | _ => none
theorem opd_sorted {K : PySem.W.Frag} : OpD1 K (srtD srtL) fun x H Q => rSortedS K [x] H Q := by
  intro P B ia s σ H H0 Fs dx q x F Q R o fr e k
  unfold srtD at e
  split at e
  · obtain ⟨xs, e1, e2⟩ := Option.bind_eq_some_iff.mp e
    split at e2
    · rename_i hz
      cases e2
      obtain ⟨a, vs, G, rfl, h1, h2, no, ib⟩ := o.lst_inv
      obtain ⟨rfl, _⟩ := h2.txts e1
      refine ⟨a, xs, rfl, SqL.of h1, by omega, fun ys p perm srt np => ?_⟩
      have : ys = srtL xs := sorted_unique srt (srtL_sorted _) (perm.trans (srtL_perm xs).symm)
      subst this
      exact k _ _ (.lst (reps_txts _) .nil (fun _ m => nomatch m) fr R np)
    · cases e2
  · cases e
theorem opd_sortSet {K : PySem.W.Frag} : OpD1 K (srtD srtSet) fun x H1 Q => ∃ (l : Addr) (xs : List Str), x = .ref l ∧ SqL K H1 l (xs.map V.str) ∧ xs.length < 63 ∧
    ∀ (ys : List Str) (p : Addr), sortedS ys = true → ys.Nodup → (∀ k, k ∈ ys ↔ k ∈ xs) → H1 p = none → Q (.ref p) (upd H1 p (.lst (ys.map V.str))) := by
  intro P B ia s σ H H0 Fs dx q x F Q R o fr e k
  unfold srtD at e
  split at e
  · obtain ⟨xs, e1, e2⟩ := Option.bind_eq_some_iff.mp e
    split at e2
    · rename_i hz
      cases e2
      obtain ⟨a, vs, G, rfl, h1, h2, no, ib⟩ := o.lst_inv
      obtain ⟨rfl, _⟩ := h2.txts e1
      refine ⟨a, xs, rfl, SqL.of h1, hz, fun ys p srt nd mem np => ?_⟩
      have : ys = srtSet xs := srtSet_unique srt nd mem
      subst this
      exact k _ _ (.lst (reps_txts _) .nil (fun _ m => nomatch m) fr R np)
    · cases e2
  · cases e
theorem de_sortSet {X : Cx} {E : WX} {a : Expr} {o : Opd} {p p2 q pos : Pos} (hm : X.mg "sorted" = none) (hm2 : X.mg "set" = none) (ha : PE X a (rdO X.K E o)) (hc : X.calm = true := by rfl) (hg : Gl X "sorted" := by rfl) (hg2 : Gl X "set" := by rfl)
    (na : starEach [a] X.env = (false, eval a X.env) :: starEach [] X.env := by rfl) : PE X (.Call (.Name "sorted" p) [.Call (.Name "set" p2) [a] [] q] [] pos) (tD X.K E (unM (srtD srtSet) o)) :=
  (pe_sortSet hc hg hm hg2 hm2 ha na).imp (tD_un opd_sortSet)
end PV

/-! PV: get and pop of dicts, get of a dict of the module, is of bools, a tuple backwards. -/
namespace PV
open PySem PySem.Spec L2
/-! ### d.get(k) -/
def dget1M (i : Nat) (k : M (Bool × D)) : M (Bool × D) := fun s => if isDct s i = true then opsM [.ex k] (fun ds s1 => match s1[i]?, ds with
  | some (some (_, .dct kds)), [kk] => (match kk.key with
    | some key => .ok (false, (kget kds key).getD .non) s1
    | none => .stuck)
  | _, _ => .stuck) s else .stuck
@[simp] theorem ev_dget1 (i : Nat) (k : M (Bool × D)) (s : S) : dget1M i k s = if isDct s i = true then opsM [.ex k] (fun ds s1 => match s1[i]?, ds with
  | some (some (_, .dct kds)), [kk] => (match kk.key with
    | some key => .ok (false, (kget kds key).getD .non) s1
    | none => .stuck)
  | _, _ => .stuck) s else .stuck := rfl
theorem tD_dget1 {K : PySem.W.Frag} {E : WX} {i : Nat} {k : M (Bool × D)} (σ : St) (H : Hp) (Q : VK) (h : tD K E (dget1M i k) σ H Q) : tDGet1 (tVar i) (tD K E k) σ H Q := by
  obtain ⟨P, B, ia, s, Fs, R, w⟩ := h
  unfold dget1M at w
  split at w
  · rename_i hd
    unfold isDct at hd
    split at hd
    · rename_i o kds e
      obtain ⟨v, F0, hv, ov⟩ := R.opd e
      obtain ⟨a, kvs, G0, rfl, h1, _⟩ := ov.dct_inv
      refine ⟨.ref a, hv, a, rfl, .inl ⟨kvs, .inl h1⟩, ?_⟩
      have key : rdOs K E [.ex k] σ H (fun vs H' => match vs with | [y] => ∃ o, DGet H' a y o ∧ Q (o.getD .non) H' | _ => False) := by
        refine rdOps R w (fun _ _ q => q) fun ds s' vs H' Gs Fs' q ovs fr r' => ?_
        split at q
        · rename_i o' kds' kk e1
          split at q
          · rename_i key ek
            cases ovs with
            | cons o1 n1 _ t =>
              cases t
              obtain ⟨v', F1, hv', ov'⟩ := r'.opd e1
              rw [hv] at hv'; cases hv'
              obtain ⟨a', kvs', G1, ea, h1', h2', no, ib⟩ := ov'.dct_inv
              cases ea
              refine ⟨valV kvs' key, .inl ⟨kvs', key, .inl h1', o1.rep.key ek, rfl⟩, ?_⟩
              rcases h2'.get key with ⟨q1, q2⟩ | ⟨d', w', G2, q1, q2, q3, q4⟩
              · rw [q1] at q; rw [q2]
                exact q _ _ (.flat .non fr r')
              · rw [q1] at q; rw [q2]
                exact q _ _ (.part q3 (no.sub q4) (fun b m => ib b (q4 b m)) fr r')
          · exact q.elim
        · exact q.elim
      exact key
    · cases hd
  · exact w.elim
theorem dm_dget1 {X : Cx} {E : WX} {e : Expr} {i : Nat} {k : M (Bool × D)} (h : PE X e (tDGet1 (tVar i) (tD X.K E k))) : PE X e (tD X.K E (dget1M i k)) := h.imp tD_dget1
/-! ### d.pop(k) -/
theorem RepK.drop {K : PySem.W.Frag} {H : Hp} (k : Key) : ∀ {kds : List (Key × D)} {kvs : List (Key × V)} {F : List Addr}, RepK K H kds kvs F → ∃ F', RepK K H (kds.filter fun q => decide (q.1 ≠ k)) (dropK kvs k) F' ∧ ∀ b, b ∈ F' → b ∈ F
  | [], _, _, h => by cases h; exact ⟨[], .nil, fun _ m => m⟩
  | (k', d) :: ds, _, _, h => by
    cases h with
    | @cons _ _ w F1 _ vs F2 h1 h2 =>
      obtain ⟨F', e1, e2⟩ := RepK.drop k h2
      unfold dropK at e1 ⊢
      by_cases hk : k' = k
      · exact ⟨F', by simpa [hk] using e1, fun b m => List.mem_append_right _ (e2 b m)⟩
      · refine ⟨F1 ++ F', by simpa [hk] using RepK.cons (k := k') h1 e1, fun b m => ?_⟩
        rcases List.mem_append.mp m with m | m
        · exact List.mem_append_left _ m
        · exact List.mem_append_right _ (e2 b m)
def dpopM (i : Nat) (k : M (Bool × D)) : M (Bool × D) := fun s => if isDct s i = true then opsM [.ex k] (fun ds s1 => match s1[i]?, ds with
  | some (some (o, .dct kds)), [kk] => if o = .sh then .stuck else (match kk.key with
    | some key => (match kget kds key with
      | some d => .ok (false, d) (s1.set i (some (o, .dct (kds.filter fun q => decide (q.1 ≠ key)))))
      | none => .stuck)
    | none => .stuck)
  | _, _ => .stuck) s else .stuck
@[simp] theorem ev_dpop (i : Nat) (k : M (Bool × D)) (s : S) : dpopM i k s = if isDct s i = true then opsM [.ex k] (fun ds s1 => match s1[i]?, ds with
  | some (some (o, .dct kds)), [kk] => if o = .sh then .stuck else (match kk.key with
    | some key => (match kget kds key with
      | some d => .ok (false, d) (s1.set i (some (o, .dct (kds.filter fun q => decide (q.1 ≠ key)))))
      | none => .stuck)
    | none => .stuck)
  | _, _ => .stuck) s else .stuck := rfl
theorem tD_dpop {K : PySem.W.Frag} {E : WX} {i : Nat} {k : M (Bool × D)} (σ : St) (H : Hp) (Q : VK) (h : tD K E (dpopM i k) σ H Q) : tDPop1 (tVar i) (tD K E k) σ H Q := by
  obtain ⟨P, B, ia, s, Fs, R, w⟩ := h
  unfold dpopM at w
  split at w
  · rename_i hd
    unfold isDct at hd
    split at hd
    · rename_i o kds e
      obtain ⟨v, F0, hv, ov⟩ := R.opd e
      obtain ⟨a, kvs, G0, rfl, h1, _⟩ := ov.dct_inv
      refine ⟨.ref a, hv, a, rfl, .inl ⟨kvs, .inl h1⟩, ?_⟩
      have key : rdOs K E [.ex k] σ H (fun vs H' => match vs with | [y] => ∃ kvs k v, H' a = some (.dK kvs) ∧ y = kV k ∧ valV kvs k = some v ∧ Q v (upd H' a (.dK (dropK kvs k))) | _ => False) := by
        refine rdOps R w (fun _ _ q => q) fun ds s' vs H' Gs Fs' q ovs fr r' => ?_
        split at q
        · rename_i o' kds' kk e1
          split at q
          · exact q.elim
          · rename_i ho
            split at q
            · rename_i key ek
              split at q
              · rename_i d' ed
                cases ovs with
                | cons o1 n1 _ t =>
                  cases t
                  obtain ⟨a', F, k1, k2, k3, k4, k5, k6⟩ := r'.own i o' _ e1 ho
                  rw [hv] at k1; cases k1
                  cases k3 with
                  | @dct _ _ kvs' _ m1 m2 =>
                    rcases m2.get key with ⟨q1, q2⟩ | ⟨d2, w', G2, q1, q2, q3, q4⟩
                    · rw [ed] at q1; cases q1
                    · rw [ed] at q1; cases q1
                      obtain ⟨F', f1, f2⟩ := m2.drop key
                      exact ⟨kvs', key, w', m1, o1.rep.key ek, q2, q w' _ (r'.less fr e1 ho hv k2 (fun H' i f ha => .dct ha (RepK.keep i f1 fun b m => f b fun z => k4 (by rw [← z]; exact f2 b m))) f2 q3 q4)⟩
              · exact q.elim
            · exact q.elim
        · exact q.elim
      exact key
    · cases hd
  · exact w.elim
theorem dm_dpop {X : Cx} {E : WX} {e : Expr} {i : Nat} {k : M (Bool × D)} (h : PE X e (tDPop1 (tVar i) (tD X.K E k))) : PE X e (tD X.K E (dpopM i k)) := h.imp tD_dpop
/-! ### get of a dict of the module -/
def kgetM (kvs : List (Str × D)) (k x : M (Bool × D)) : M (Bool × D) := opsM [.ex k, .ex x] fun ds s => match ds with
  | [.str z, y] => .ok (false, (tget kvs z).getD y) s
  | _ => .stuck
@[simp] theorem ev_kget (kvs : List (Str × D)) (k x : M (Bool × D)) (s : S) : kgetM kvs k x s = opsM [.ex k, .ex x] (fun ds s => match ds with
  | [.str z, y] => .ok (false, (tget kvs z).getD y) s
  | _ => .stuck) s := rfl
def tKGet (K : PySem.W.Frag) (ad : Addr) (ty tx : TE) : TE := fun σ H Q => ty σ H fun y H2 => tx σ H2 fun z H3 => ∃ (k : Str) (r : Option Value), y = .str k ∧ PySem.W.nsIn K ad k = some r ∧ ((r = none ∧ Q z H3) ∨ ∃ u v, r = some u ∧ RelV v u ∧ Q v H3)
theorem pe_kget {X : Cx} {x : Str} {d : Addr} {es : Array DictEntry} {n : Nat} {e f : Expr} {p apos cpos : Pos} {ty tx : TE} (D : KDict X.K X.w d es n) (ho : PE X (.Name x p) (tC (.ref d))) (he : PE X e ty) (hf : PE X f tx) (m : M2 X (.Name x p) "get" apos e f cpos) :
    PE X (.Call (.Attribute (.Name x p) "get" apos) [e, f] [] cpos) (tKGet X.K d ty tx) := by
  refine ⟨fun pins s σ H Q I h => ?_⟩
  refine wpAny_Call_method m.base m.few m.line PySem.F.plainAttrs_dict PySem.F.slot_dict_get PySem.F.type_dict_get (thn (ho.run pins s σ H (fun x H1 => x = .ref d ∧ H1 = H) I ⟨rfl, rfl⟩) fun u s1 ⟨x, H1, I1, rx, ex, eH⟩ => ?_)
  subst ex eH
  obtain rfl : u = Value.ref d := rx
  have hm := PySem.W.mapOf_K (prog := X.prog) (w := X.w) I1.kIn D.at_ D.lit
  refine ⟨hm.typeIs, fun b q => ?_, ?_⟩
  · cases q
    exact ⟨_, I1.kIn _ _ D.at_, rfl⟩
  rw [m.trees]
  refine wpAny_dict_get2 (knd := strKind X.prog X.w) D.low (thn (he.run pins s1 σ H1 _ I1 h) fun iv s2 ⟨y, H2, I2, ry, q2⟩ => thn (hf.run pins s2 σ H2 _ I2 q2) fun fv s3 ⟨z, H3, I3, rz, q3⟩ => ?_)
  obtain ⟨k, r, rfl, hr, q3⟩ := q3
  obtain ⟨t, rfl⟩ := ry
  refine ⟨k, _, PySem.strKind_is X.prog X.w k t, PySem.W.mapOf_K (prog := X.prog) (w := X.w) I3.kIn D.at_ D.lit, ?_⟩
  rw [PySem.W.find_K D.at_ hr]
  rcases q3 with ⟨rfl, q3⟩ | ⟨u, v, rfl, rv, q3⟩
  · exact ⟨z, H3, I3.tok _, rz, q3⟩
  · exact ⟨v, H3, I3.tok _, rv, q3⟩
theorem de_kget {X : Cx} {E : WX} {x : Str} {kvs : List (Str × D)} {e f : Expr} {fk fx : M (Bool × D)} {p apos cpos : Pos} (G : Gd X.K X.w X.mg x kvs) (he : PE X e (tD X.K E fk)) (hf : PE X f (tD X.K E fx)) (m : M2 X (.Name x p) "get" apos e f cpos) (hg : Gl X x := by rfl) (hd : (x == ("__debug__" : Str)) = false := by decide) :
    PE X (.Call (.Attribute (.Name x p) "get" apos) [e, f] [] cpos) (tD X.K E (kgetM kvs fk fx)) := by
  obtain ⟨ad, es, n, e1, D, h1, h2⟩ := G.ex
  refine (pe_kget D (pe_glob hg e1 (v := .ref ad) rfl hd) he hf m).imp fun σ H Q h => ?_
  obtain ⟨P, B, ia, s, Fs, R, w⟩ := h
  have key : rdOs X.K E [.ex fk, .ex fx] σ H (fun vs H' => match vs with | [y, z] => ∃ (k : Str) (r : Option Value), y = .str k ∧ PySem.W.nsIn X.K ad k = some r ∧ ((r = none ∧ Q z H') ∨ ∃ u v, r = some u ∧ RelV v u ∧ Q v H') | _ => False) := by
    refine rdOps R w (fun _ _ q => q) fun ds s' vs H' Gs Fs' q ovs fr r' => ?_
    split at q
    · rename_i z y
      cases ovs with
      | cons o1 n1 _ t =>
        cases t with
        | cons o2 n2 _ t =>
          cases t
          cases q0 : tget kvs z with
          | none =>
            rw [q0] at q
            exact ⟨z, none, o1.str_inv, h2 z q0, .inl ⟨rfl, q _ _ (.part o2.rep (n2 rfl) o2.inB fr r')⟩⟩
          | some d =>
            rw [q0] at q
            obtain ⟨u, v, g1, g2, g3⟩ := h1 z d q0
            exact ⟨z, some u, o1.str_inv, g1, .inr ⟨u, v, rfl, g2, q _ _ (.flat (g3 _) fr r')⟩⟩
    · exact q.elim
  exact key
/-! ### is of bools -/
def isBD (neg : Bool) : D → D → Option (Bool × D)
  | .bl a, .bl b => some (false, .bl (if neg then !decide (a = b) else decide (a = b)))
  | _, _ => none
theorem opd_isB {K : PySem.W.Frag} : OpD K (isBD false) rIsB := by
  intro P B ia s σ H H0 Fs dx dy q x y F G Q R o1 o2 fr e k
  unfold isBD at e
  split at e
  · cases e
    exact ⟨_, _, o1.bl_inv, o2.bl_inv, by have := k _ _ (RV.flat .bl fr R); simpa using this⟩
  · cases e
@[simp] theorem v_isB {a b n : Bool} : isBD n (.bl a) (.bl b) = some (false, .bl (if n then !decide (a = b) else decide (a = b))) := rfl
/-! ### t[::-1] -/
section
variable {prog : Program} {w : World} {A : Around} {E : Value → Shared → Prop} {s : Shared}
theorem adjust_rev (n : Nat) : Builtin.Slice.sliceAdjust none none (-1) (n : Int) = ((n : Int) - 1, -1) := by
  unfold Builtin.Slice.sliceAdjust
  simp
theorem places_rev (n : Nat) : Builtin.Slice.slicePlaces ((n : Int) - 1) (-1) (-1) = n := by
  unfold Builtin.Slice.slicePlaces
  have h1 : ¬ ((-1 : Int) > 0) := by decide
  simp only [h1, if_false]
  by_cases h : (n : Int) - 1 > -1
  · rw [if_pos h, show (- -1 : Int) = 1 by decide, Int.ediv_one]
    omega
  · rw [if_neg h]; omega
theorem sliceApplied_rev {sl : Addr} {vl vu vs : Value} {n : Nat} {Q : Int × Int × Nat → Shared → Prop} (hs : s.heap.IsSliceOf sl vl vu vs) (pl : IsPart vl none) (pu : IsPart vu none) (ps : IsPart vs (some (-1)))
    (h : Q ((n : Int) - 1, -1, n) s) : wpAny (model prog w) A (Builtin.Slice.sliceApplied (.ref sl) (pure (n : Int))) Q E s := by
  obtain ⟨os, hos, hcs, hds⟩ := id hs
  unfold Builtin.Slice.sliceApplied Builtin.Slice.sliceFields
  refine wpAny_bind (wpAny_bind (wpAny_field hos hds (x := vl) rfl (wpAny_bind (wpAny_field hos hds (x := vu) rfl (wpAny_bind (wpAny_field hos hds (x := vs) rfl (wpAny_pure ?_)))))))
  refine wpAny_bind (HT.slicePart_ ps ?_)
  show wpAny _ _ (if ((-1 : Int) == 0) = true then _ else _) _ _ s
  rw [if_neg (by decide)]
  refine wpAny_bind (HT.slicePart_ pl (wpAny_bind (HT.slicePart_ pu (wpAny_bind (wpAny_pure ?_)))))
  show wpAny _ _ (match Builtin.Slice.sliceAdjust none none (-1) (n : Int) with | (lo, hi) => pure (lo, (-1 : Int), Builtin.Slice.slicePlaces lo hi (-1))) _ _ s
  rw [adjust_rev n]
  show wpAny _ _ (pure ((n : Int) - 1, (-1 : Int), Builtin.Slice.slicePlaces ((n : Int) - 1) (-1) (-1))) _ _ s
  rw [places_rev]
  exact wpAny_pure h
theorem pick_rev (xs : Array Value) : ((List.range xs.size).filterMap fun (m : Nat) => xs[((xs.size : Int) - 1 + (m : Int) * (-1)).toNat]?).toArray = xs.toList.reverse.toArray := by
  have e : (List.range xs.size).filterMap (fun (m : Nat) => xs[((xs.size : Int) - 1 + (m : Int) * (-1)).toNat]?) = ((List.range xs.size).map fun k => xs.size - 1 - k).filterMap (xs[·]?) := by
    rw [List.filterMap_map]
    congr 1
    funext m
    have e2 : ((xs.size : Int) - 1 + (m : Int) * (-1)).toNat = xs.size - 1 - m := by omega
    show xs[((xs.size : Int) - 1 + (m : Int) * (-1)).toNat]? = xs[xs.size - 1 - m]?
    rw [e2]
  rw [e, PySem.W.krv_range, List.filterMap_reverse, PySem.W.krv_all]
theorem getItem_tuple_rev {t sl : Addr} {items : Array Value} {vl vu vs : Value} {Q : Value → Shared → Prop} (ht : PyProof.Rows.IsTup s.heap t items) (hs : s.heap.IsSliceOf sl vl vu vs) (pl : IsPart vl none) (pu : IsPart vu none) (ps : IsPart vs (some (-1)))
    (h : Q (.ref s.heap.objs.size) { s with heap := s.heap.push { cls := .type "tuple", data := .seq items.toList.reverse.toArray } })
    (hsz : items.size ≤ sizeLine) : wpAny (model prog w) A (getItem (.ref t) (.ref sl)) Q E s := by
  have htake : sizeOk (.seq items.toList.reverse.toArray) := by
    show items.toList.reverse.toArray.size ≤ sizeLine
    rw [List.size_toArray, List.length_reverse, Array.length_toList]
    exact hsz
  obtain ⟨os, hos, hcs, hds⟩ := id hs
  have hTs : s.TypeIs (.ref sl) "slice" := ⟨os, hos, hcs⟩
  unfold getItem
  try with_reducible refine wpAny_holding ?_
  first | refine wpAny_bind (wpAny_pure ?_) | skip
  refine wpAny_bind (wpAny_sequenceKey ht.typeIs (by decide) ?_)
  refine wpAny_bind (wpAny_callSpecial?_slot (name := Str.ofString "__getitem__") ht.typeIs PyProof.Rows.slot_tuple_getitem
    (wpAny_call_entry PyProof.Rows.slot_tuple_getitem ht.typeIs PyProof.Rows.entry_tuple_getitem ?_ (PyProof.Rows.args_tuple_getitem _ _)))
  show wpAny _ _ (Builtin.Tuple.tupleItemsOf (.ref t) >>= _) _ _ s
  refine wpAny_bind (PyProof.Rows.tupleItemsOf_ ht ?_)
  refine wpAny_bind (wpAny_typeOf hTs ?_)
  rw [if_pos (by decide)]
  refine wpAny_bind (sliceApplied_rev hs pl pu ps ?_)
  have hno : ¬ ((((items.size : Int) - 1) == 0 && (-1 : Int) == 1 && items.size == items.size) = true) := by
    rw [show ((-1 : Int) == 1) = false by decide, Bool.and_false, Bool.false_and]
    exact Bool.false_ne_true
  show wpAny _ _ (if (((items.size : Int) - 1) == 0 && (-1 : Int) == 1 && items.size == items.size) = true then _ else _) _ _ s
  rw [if_neg hno, pick_rev]
  first
    | exact wpAny_bind (m := Builtin.Tuple.tupleExact _) (wpAny_newObj_type (wpAny_pure ⟨_, rfl, wpAny_pure h⟩) htake)
    | exact wpAny_bind (m := Builtin.Tuple.tupleExact _) (wpAny_newObj_type (wpAny_bind (wpAny_pure (wpAny_pure ⟨_, rfl, wpAny_pure h⟩))) htake)
    | exact wpAny_bind (wpAny_bind (m := Builtin.Tuple.tupleExact _) (wpAny_newObj_type (wpAny_pure (wpAny_pure ⟨_, rfl, wpAny_pure h⟩)) htake))
    | exact wpAny_bind (wpAny_bind (m := Builtin.Tuple.tupleExact _) (wpAny_newObj_type (wpAny_pure ⟨_, rfl, wpAny_pure h⟩) htake))
end
theorem pe_revT {X : Cx} {e : Expr} {te : TE} {k : Nat} {p1 p2 p3 pos : Pos} (he : PE X e te) : PE X (.Subscript e (.Slice none none (some (.UnaryOp .USub (.Constant (.int 1) k p1) p2)) p3) pos)
    (fun σ H Q => te σ H fun x H1 => ∃ a xs, x = .ref a ∧ SqT X.K H1 a xs ∧ ∀ p, H1 p = none → Q (.ref p) (upd H1 p (.tup xs.reverse))) := by
  refine ⟨fun pins s σ H Q I h => ?_⟩
  refine PyProof.Rows.Subscript_ (thn (he.run pins s σ H _ I h) fun v s1 ⟨x, H1, I1, r1, q1⟩ => ?_)
  obtain ⟨a, xs, ex, hx, q⟩ := q1
  subst ex
  cases r1
  have hst : PO X (some (.UnaryOp .USub (.Constant (.int 1) k p1) p2)) (tPart (tUn (rU fun i => .int (-i)) (tC (.int 1)))) := po_some (pe_un un_neg pe_int)
  refine wpAny_Slice (thn (po_none.run pins s1 σ H1 (fun o H2 => o = none ∧ H2 = H1) I1 ⟨rfl, rfl⟩) fun vl s2 ⟨l, H2, I2, pl, el, e2⟩ => ?_)
  subst el e2
  refine thn (po_none.run pins s2 σ H2 (fun o H3 => o = none ∧ H3 = H2) I2 ⟨rfl, rfl⟩) fun vu s3 ⟨u, H3, I3, pu, eu, e3⟩ => ?_
  subst eu e3
  refine thn (hst.run pins s3 σ H3 (fun o H4 => o = some (-1) ∧ H4 = H3) I3 ⟨1, rfl, -1, rfl, rfl, rfl⟩) fun vs s4 ⟨o, H4, I4, ps, eo, e4⟩ => ?_
  subst eo e4
  have I5 : Inv X pins σ H4 { s4 with heap := s4.heap.push { cls := .type "slice", data := .fields #[vl, vu, vs] } } := I4.kept (t' := s4.toks) fun b ob q => Heap.get?_push_of_some _ q
  obtain ⟨its, r, ht, hz⟩ := I5.tuple hx
  have hlen := r.length
  show wpAny (model X.prog X.w) X.A (PyProof.Rows.subscriptTail e (.Slice none none (some (.UnaryOp .USub (.Constant (.int 1) k p1) p2)) p3) (.ref a) (.ref s4.heap.objs.size)) (EP X pins σ Q) X.xe { s4 with heap := s4.heap.push { cls := .type "slice", data := .fields #[vl, vu, vs] } }
  refine PyProof.Rows.tail_any (ops := [.ref a, .ref s4.heap.objs.size]) ht.typeIs PyProof.Rows.slot_tuple_getitem.lookup ?_ (by with_unfolding_all rfl)
  refine getItem_tuple_rev ht (Heap.IsSliceOf.new _ vl vu vs) pl pu ps ?_ (by rw [List.size_toArray]; omega)
  refine ⟨.ref _, _, I5.laid (t' := s4.toks) (o := .tup xs.reverse) (fun b ob q => Heap.get?_push_of_some _ q) (Nat.le_refl _) ?_, rfl, q _ (I5.hok.fresh (Nat.le_refl _))⟩
  exact ⟨by rw [List.length_reverse]; exact hz, _, r.reverse, _, Heap.get?_push_size _ rfl, rfl, 0, rfl⟩
theorem Reps.reverse {K : PySem.W.Frag} {H : Hp} : ∀ {ds : List D} {vs : List V} {F : List Addr}, Reps K H ds vs F → ∃ F', Reps K H ds.reverse vs.reverse F' ∧ ∀ b, b ∈ F' → b ∈ F
  | [], _, _, h => by cases h; exact ⟨[], .nil, fun _ m => m⟩
  | d :: ds, _, _, h => by
    cases h with
    | @cons _ v F1 _ vs F2 h1 h2 =>
      obtain ⟨F', e1, e2⟩ := Reps.reverse h2
      rw [List.reverse_cons, List.reverse_cons]
      refine ⟨F' ++ F1, e1.append (.one h1), fun b m => ?_⟩
      rcases List.mem_append.mp m with m | m
      · exact List.mem_append_right _ (e2 b m)
      · exact List.mem_append_left _ m
def revT : D → Option (Bool × D)
  | .tup ds => some (false, .tup ds.reverse)
  | _ => none
@[simp] theorem v_revT {ds : List D} : revT (.tup ds) = some (false, .tup ds.reverse) := rfl
theorem opd_revT {K : PySem.W.Frag} : OpD1 K revT fun x H1 Q => ∃ a xs, x = .ref a ∧ SqT K H1 a xs ∧ ∀ p, H1 p = none → Q (.ref p) (upd H1 p (.tup xs.reverse)) := by
  intro P B ia s σ H H0 Fs dx q x F Q R o fr e k
  unfold revT at e
  split at e
  · cases e
    obtain ⟨a, vs, rfl, h1, h2, no⟩ := o.tup_inv
    obtain ⟨F', e1, e2⟩ := h2.reverse
    exact ⟨a, vs, rfl, h1, fun p np => k _ _ (.tup e1 (no.sub e2) (fun b m => o.inB b (e2 b m)) fr R np)⟩
  · cases e
theorem de_revT {X : Cx} {E : WX} {e : Expr} {o : Opd} {k : Nat} {p1 p2 p3 pos : Pos} (he : PE X e (rdO X.K E o)) : PE X (.Subscript e (.Slice none none (some (.UnaryOp .USub (.Constant (.int 1) k p1) p2)) p3) pos) (tD X.K E (unM revT o)) :=
  (pe_revT he).imp (tD_un opd_revT)
end PV

/-! PV: a comprehension within a comprehension. -/
namespace PV
open PySem PySem.Spec L2
theorem lookup_rel {c : Str → NameKind → Bool} {x : Str} : ∀ {l : List (Str × NameKind)} {k : NameKind}, l.lookup x = some k → (l.map fun (n, k) => if c n k = true then (n, NameKind.cell) else (n, k)).lookup x = some (if c x k = true then .cell else k)
  | [], _, h => by cases h
  | (n, k') :: r, k, h => by
    have e : (List.map (fun (n, k) => if c n k = true then (n, NameKind.cell) else (n, k)) ((n, k') :: r)) = (n, if c n k' = true then .cell else k') :: r.map fun (n, k) => if c n k = true then (n, NameKind.cell) else (n, k) := by
      rw [List.map_cons]
      congr 1
      dsimp only
      split <;> rfl
    rw [e, List.lookup_cons]
    rw [List.lookup_cons] at h
    by_cases q : x = n
    · subst q
      simp only [beq_self_eq_true] at h ⊢
      cases h
      rfl
    · have q' : (x == n) = false := beq_eq_false_iff_ne.mpr q
      rw [q'] at h ⊢
      exact lookup_rel h
theorem blkOk_in {N : List Str} {sc scope : Scope} {own : List (Str × Nat)} {env : Env} (h : blkC N sc scope own = true) : BlkOk N (relabel sc env) scope own := by
  have o := blkOk_by h
  refine ⟨o.kind, o.uniq, o.ix, fun y hy e => ?_, o.own⟩
  have key : ∀ k, sc.names.lookup y.1 = some k → (k = .cell ∨ k = .free) → (relabel sc env).names.lookup y.1 = some .cell ∨ (relabel sc env).names.lookup y.1 = some .free := fun k hk h => by
    have := lookup_rel (c := fun n k => k == NameKind.free && env.scope.kind == ScopeKind.function && env.kindOf n == some NameKind.cell) hk
    have e2 : (relabel sc env).names.lookup y.1 = _ := this
    rw [e2]
    split
    · exact .inl rfl
    · rcases h with rfl | rfl
      · exact .inl rfl
      · exact .inr rfl
  rcases o.free y hy e with q | q
  · exact key _ q (.inl rfl)
  · exact key _ q (.inr rfl)
end PV

/-! Printed by gen.py: the defs of the text by values. -/
namespace K24
open PySem PySem.Spec L2 PV
def top (i : Nat) : Stmt := PySem.Challenge.pw_onescore_k24_sound_code.main.body.getD i (.Pass ⟨0, 0, 0, 0⟩)
def d_DEEDS : D := (.tup [(.str "store"), (.str "emit"), (.str "wait"), (.str "input"), (.str "yes"), (.str "no"), (.str "test")])
def d_MOST_HEIGHT : D := (.int 40)
def d_SIZE : D := (.int 4294967296)
def kd_CHANGES : List (Str × D) := [("push", (.int 1)), ("load", (.int 1)), ("store", (.int (-1))), ("add", (.int (-1))), ("sub", (.int (-1))), ("mul", (.int (-1))), ("less", (.int (-1))), ("same", (.int (-1))), ("zero", (.int (-1))), ("emit", (.int (-1)))]
def kv_CHANGES : List (Str × He.Dv) := [("push", (.int 1)), ("load", (.int 1)), ("store", (.int (-1))), ("add", (.int (-1))), ("sub", (.int (-1))), ("mul", (.int (-1))), ("less", (.int (-1))), ("same", (.int (-1))), ("zero", (.int (-1))), ("emit", (.int (-1)))]
def kd_SHAPES : List (Str × D) := [("push", (.str "n")), ("load", (.str "s")), ("store", (.str "s")), ("add", (.str "")), ("sub", (.str "")), ("mul", (.str "")), ("less", (.str "")), ("same", (.str "")), ("jump", (.str "g")), ("zero", (.str "g")), ("emit", (.str "es")), ("wait", (.str "ec")), ("input", (.str "s")), ("round", (.str "ng")), ("yes", (.str "n")), ("no", (.str "n")), ("test", (.str "w")), ("stop", (.str ""))]
def kv_SHAPES : List (Str × He.Dv) := [("push", (.str "n")), ("load", (.str "s")), ("store", (.str "s")), ("add", (.str "")), ("sub", (.str "")), ("mul", (.str "")), ("less", (.str "")), ("same", (.str "")), ("jump", (.str "g")), ("zero", (.str "g")), ("emit", (.str "es")), ("wait", (.str "ec")), ("input", (.str "s")), ("round", (.str "ng")), ("yes", (.str "n")), ("no", (.str "n")), ("test", (.str "w")), ("stop", (.str ""))]
def kd_TAKES : List (Str × D) := [("store", (.int 1)), ("add", (.int 2)), ("sub", (.int 2)), ("mul", (.int 2)), ("less", (.int 2)), ("same", (.int 2)), ("zero", (.int 1)), ("emit", (.int 1))]
def kv_TAKES : List (Str × He.Dv) := [("store", (.int 1)), ("add", (.int 2)), ("sub", (.int 2)), ("mul", (.int 2)), ("less", (.int 2)), ("same", (.int 2)), ("zero", (.int 1)), ("emit", (.int 1))]
structure Gb (K : PySem.W.Frag) (w : World) (mg : Str → Option Value) : Prop where
  b_abs : mg "abs" = none
  b_all : mg "all" = none
  b_any : mg "any" = none
  b_bool : mg "bool" = none
  b_dict : mg "dict" = none
  b_int : mg "int" = none
  b_isinstance : mg "isinstance" = none
  b_len : mg "len" = none
  b_list : mg "list" = none
  b_range : mg "range" = none
  b_set : mg "set" = none
  b_sorted : mg "sorted" = none
  b_str : mg "str" = none
  b_tuple : mg "tuple" = none
  b_zip : mg "zip" = none
  g_DEEDS : Gc K mg "DEEDS" d_DEEDS
  g_MOST_HEIGHT : Gc K mg "MOST_HEIGHT" d_MOST_HEIGHT
  g_SIZE : Gc K mg "SIZE" d_SIZE
  d_CHANGES : Gd K w mg "CHANGES" kd_CHANGES
  d_SHAPES : Gd K w mg "SHAPES" kd_SHAPES
  d_TAKES : Gd K w mg "TAKES" kd_TAKES
structure Tab (P : Program) (w : World) (K : PySem.W.Frag) (mg : Str → Option Value) (base : Heap) (k : Nat) (c : Nat → FS) : Prop where
  t0 : Kn P w K mg base k "is_integer" ["value", "size"] [] (c 0)
  t1 : Kn P w K mg base k "are_choices" ["value", "size"] [] (c 1)
  t2 : Kn P w K mg base k "has_form" ["ends", "instruction", "size"] [] (c 2)
  t3 : Kn P w K mg base k "goals" ["code", "at"] [] (c 3)
  t4 : Kn P w K mg base k "heights_of" ["code"] [] (c 4)
  t5 : Kn P w K mg base k "has_quiet_circle" ["code", "reached"] [1] (c 5)
  t6 : Kn P w K mg base k "is_sound" ["ends", "code"] [] (c 6)
  t7 : Kn P w K mg base k "_law_tape" ["_law_script"] [] (c 7)
  t8 : Kn P w K mg base k "_law_take" ["_law_tape_here", "_law_many"] [0] (c 8)
  t9 : Kn P w K mg base k "_law_is_integer" ["_law_actual"] [] (c 9)
  t10 : Kn P w K mg base k "_law_same_items" ["_law_actual", "_law_expected"] [] (c 10)
  t11 : Kn P w K mg base k "_law_same" ["_law_actual", "_law_expected"] [] (c 11)
  t12 : Kn P w K mg base k "_law_shape_ok" ["_law_ends", "_law_one", "_law_size"] [] (c 12)
  t13 : Kn P w K mg base k "_law_choices_ok" ["_law_part", "_law_size"] [] (c 13)
  t14 : Kn P w K mg base k "_law_moves" ["_law_code", "_law_at"] [] (c 14)
  t15 : Kn P w K mg base k "_law_sound" ["_law_ends", "_law_code"] [] (c 15)
  t16 : Kn P w K mg base k "_law_instruction" ["_law_tape_here", "_law_many"] [0] (c 16)
  t17 : Kn P w K mg base k "_law_pattern" ["_law_tape_here", "_law_at", "_law_many"] [0] (c 17)
  t18 : Kn P w K mg base k "law" ["_law_script"] [] (c 18)
/-- is_integer -/
abbrev N0 : List Str := ["value", "size"]
abbrev p0 : List Str := ["value", "size"]
theorem sc0 : FnScope N0 p0 (defScope (top 7)) := ⟨rfl, rfl, rfl, by decide +kernel, rfl, by decide +kernel, by decide +kernel⟩
noncomputable def b0 (c : Nat → FS) : M Fl :=
  (retM (andV (binM isiD (.sl 0) (.ex (constM (.ty "int")))) (andV (notV (.ex (binM isiD (.sl 0) (.ex (constM (.ty "bool")))))) (chainM leD ltD (constM (.int 0)) (varM 0) (varM 1)))))
/-- are_choices -/
abbrev N1 : List Str := ["value", "size", "one", "labels"]
abbrev p1 : List Str := ["value", "size"]
theorem sc1 : FnScope N1 p1 (defScope (top 8)) := ⟨rfl, rfl, rfl, by decide +kernel, rfl, by decide +kernel, by decide +kernel⟩
noncomputable def b1 (c : Nat → FS) : M Fl :=
  (seqM (iteM (orM (notM (truM (.ex (binM isiD (.sl 0) (.ex (constM (.ty "tuple"))))))) (notM (truM (.sl 0)))) (retM (constM (.bl false))) nxM)
    (seqM (forM (itM (varM 0)) (.nm 2) (seqM (iteM (orM (notM (truM (.ex (binM isiD (.sl 2) (.ex (constM (.ty "tuple"))))))) (truB (binM (eqS true) (.ex (unM lenD (.sl 2))) (.ex (constM (.int 3)))))) (retM (constM (.bl false))) nxM)
    (iteM (orM (notM (truM (.ex (binM isiD (.ex (binM ixD (.sl 2) (.ex (constM (.int 0))))) (.ex (constM (.ty "str"))))))) (orM (notM (truM (.ex (binM isiD (.ex (binM ixD (.sl 2) (.ex (constM (.int 1))))) (.ex (constM (.ty "str"))))))) (notM (truM (.ex (callM (c 0) [.ex (binM ixD (.sl 2) (.ex (constM (.int 2)))), .ex (varM 1)])))))) (retM (constM (.bl false))) nxM)))
    (seqM (setM 3 (compM (itM (varM 0)) (.nm 2) yesM (binM ixD (.sl 2) (.ex (constM (.int 0)))) [2]))
    (retM (binM (eqS false) (.sl 3) (.ex (unM (srtD srtSet) (.sl 3))))))))
/-- has_form -/
abbrev N2 : List Str := ["ends", "instruction", "size", "shape", "part", "right"]
abbrev p2 : List Str := ["ends", "instruction", "size"]
theorem sc2 : FnScope N2 p2 (defScope (top 9)) := ⟨rfl, rfl, rfl, by decide +kernel, rfl, by decide +kernel, by decide +kernel⟩
noncomputable def b2 (c : Nat → FS) : M Fl :=
  (seqM (iteM (orM (truB (unM (kinD true kd_SHAPES) (.ex (binM ixD (.sl 1) (.ex (constM (.int 0))))))) (truB (binM (eqS true) (.ex (unM lenD (.sl 1))) (.ex (binM addD (.ex (unM lenD (.ex (unM (kixD kd_SHAPES) (.ex (binM ixD (.sl 1) (.ex (constM (.int 0))))))))) (.ex (constM (.int 1)))))))) (retM (constM (.bl false))) nxM)
    (seqM (forM (zipM (unM (kixD kd_SHAPES) (.ex (binM ixD (.sl 1) (.ex (constM (.int 0)))))) (sliceM (.sl 1) (some (.ex (constM (.int 1)))) none)) (.tp [(.nm 3), (.nm 4)]) (seqM (setM 5 (binM isiD (.sl 4) (.ex (constM (.ty "str")))))
    (seqM (iteM (truB (binM (eqS false) (.sl 3) (.ex (constM (.str "n"))))) (setM 5 (callM (c 0) [.ex (varM 4), .ex (constM d_SIZE)])) (iteM (truB (binM (eqS false) (.sl 3) (.ex (constM (.str "g"))))) (setM 5 (callM (c 0) [.ex (varM 4), .ex (varM 2)])) (iteM (truB (binM (eqS false) (.sl 3) (.ex (constM (.str "e"))))) (setM 5 (andV (varM 5) (binM (inD false) (.sl 4) (.sl 0)))) (iteM (truB (binM (eqS false) (.sl 3) (.ex (constM (.str "w"))))) (setM 5 (andV (varM 5) (binM (inD false) (.sl 4) (.ex (tupM [(constM (.str "yes")), (constM (.str "no"))]))))) (iteM (truB (binM (eqS false) (.sl 3) (.ex (constM (.str "c"))))) (setM 5 (callM (c 1) [.ex (varM 4), .ex (varM 2)])) nxM)))))
    (iteM (notM (truM (.sl 5))) (retM (constM (.bl false))) nxM))))
    (retM (constM (.bl true)))))
/-- goals -/
abbrev N3 : List Str := ["code", "at", "instruction", "word", "result", "_", "goal"]
abbrev p3 : List Str := ["code", "at"]
theorem sc3 : FnScope N3 p3 (defScope (top 10)) := ⟨rfl, rfl, rfl, by decide +kernel, rfl, by decide +kernel, by decide +kernel⟩
noncomputable def b3 (c : Nat → FS) : M Fl :=
  (seqM (setM 2 (binM ixD (.sl 0) (.sl 1)))
    (seqM (setM 3 (binM ixD (.sl 2) (.ex (constM (.int 0)))))
    (seqM (iteM (truB (binM (eqS false) (.sl 3) (.ex (constM (.str "stop"))))) (retM (lstM [])) nxM)
    (seqM (iteM (truB (binM (eqS false) (.sl 3) (.ex (constM (.str "wait"))))) (retM (compM (itM (binM ixD (.sl 2) (.ex (constM (.int 2))))) (.tp [(.nm 5), (.nm 5), (.nm 6)]) yesM (tupM [(varM 6), (constM (.bl true))]) [5, 6])) nxM)
    (seqM (iteM (truB (binM (eqS false) (.sl 3) (.ex (constM (.str "jump"))))) (retM (lstM [(tupM [(binM ixD (.sl 2) (.ex (constM (.int 1)))), (constM (.bl false))])])) nxM)
    (seqM (setM 4 (lstM [(tupM [(binM addD (.sl 1) (.ex (constM (.int 1)))), (binM (inD false) (.sl 3) (.ex (constM d_DEEDS)))])]))
    (seqM (iteM (truB (binM (eqS false) (.sl 3) (.ex (constM (.str "zero"))))) (dropM (growM appD 4 (tupM [(binM ixD (.sl 2) (.ex (constM (.int 1)))), (constM (.bl false))]))) nxM)
    (seqM (iteM (truB (binM (eqS false) (.sl 3) (.ex (constM (.str "round"))))) (dropM (growM appD 4 (tupM [(binM ixD (.sl 2) (.ex (constM (.int 2)))), (constM (.bl true))]))) nxM)
    (retM (moveM 4))))))))))
/-- heights_of -/
abbrev N4 : List Str := ["code", "heights", "waiting", "at", "word", "height", "goal", "_"]
abbrev p4 : List Str := ["code"]
theorem sc4 : FnScope N4 p4 (defScope (top 11)) := ⟨rfl, rfl, rfl, by decide +kernel, rfl, by decide +kernel, by decide +kernel⟩
noncomputable def b4 (c : Nat → FS) : M Fl :=
  (seqM (setM 1 (dispM [((constM (.int 0)), (constM (.int 0)))]))
    (seqM (setM 2 (lstM [(constM (.int 0))]))
    (seqM (whileM (truM (.sl 2)) (seqM (setM 3 (popM 2))
    (seqM (setM 4 (binM ixD (.ex (binM ixD (.sl 0) (.sl 3))) (.ex (constM (.int 0)))))
    (seqM (iteM (orM (truB (binM ltD (.ex (binM ixD (.sl 1) (.sl 3))) (.ex (kgetM kd_TAKES (varM 4) (constM (.int 0)))))) (andM (truB (binM (inD false) (.sl 4) (.ex (tupM [(constM (.str "stop")), (constM (.str "wait"))])))) (truB (binM (eqS true) (.ex (binM ixD (.sl 1) (.sl 3))) (.ex (constM (.int 0))))))) (retM (constM .non)) nxM)
    (seqM (setM 5 (binM addD (.ex (binM ixD (.sl 1) (.sl 3))) (.ex (kgetM kd_CHANGES (varM 4) (constM (.int 0))))))
    (forM (itM (callM (c 3) [.ex (varM 0), .ex (varM 3)])) (.tp [(.nm 6), (.nm 7)]) (seqM (iteM (orM (truB (binM geD (.sl 6) (.ex (unM lenD (.sl 0))))) (orM (truB (binM gtD (.sl 5) (.ex (constM d_MOST_HEIGHT)))) (truB (binM (eqS true) (.ex (dgetM 1 (varM 6) (varM 5))) (.sl 5))))) (retM (constM .non)) nxM)
    (iteM (truB (binM (inD true) (.sl 6) (.sl 1))) (seqM (setItM 1 (varM 6) (varM 5))
    (dropM (growM appD 2 (varM 6)))) nxM))))))))
    (retM (moveM 1)))))
/-- has_quiet_circle -/
abbrev N5 : List Str := ["code", "reached", "left", "ready", "at", "goal", "deed"]
abbrev p5 : List Str := ["code", "reached"]
theorem sc5 : FnScope N5 p5 (defScope (top 12)) := ⟨rfl, rfl, rfl, by decide +kernel, rfl, by decide +kernel, by decide +kernel⟩
noncomputable def b5 (c : Nat → FS) : M Fl :=
  (seqM (lockM 1 (setM 2 (dcM (keysM 1) (.nm 4) yesM (varM 4) (compM (itM (callM (c 3) [.ex (varM 0), .ex (varM 4)])) (.tp [(.nm 5), (.nm 6)]) (notM (truM (.sl 6))) (varM 5) [5, 6]) [4])))
    (seqM (whileM (truM (.sl 2)) (seqM (lockM 2 (setM 3 (compM (keysM 2) (.nm 4) (notM (truM (.ex (unM anyD (.ex (compM (itM (binM ixD (.sl 2) (.sl 4))) (.nm 5) yesM (binM (inD false) (.sl 5) (.sl 2)) [5])))))) (varM 4) [4])))
    (seqM (iteM (notM (truM (.sl 3))) (retM (constM (.bl true))) nxM)
    (forM (itM (varM 3)) (.nm 4) (dropM (dpopM 2 (varM 4)))))))
    (retM (constM (.bl false)))))
/-- is_sound -/
abbrev N6 : List Str := ["ends", "code", "heights", "instruction"]
abbrev p6 : List Str := ["ends", "code"]
theorem sc6 : FnScope N6 p6 (defScope (top 13)) := ⟨rfl, rfl, rfl, by decide +kernel, rfl, by decide +kernel, by decide +kernel⟩
noncomputable def b6 (c : Nat → FS) : M Fl :=
  (seqM (iteM (orM (notM (truM (.sl 1))) (notM (truM (.ex (unM allD (.ex (compM (itM (varM 1)) (.nm 3) yesM (callM (c 2) [.ex (varM 0), .ex (varM 3), .ex (unM lenD (.sl 1))]) [3]))))))) (retM (constM (.bl false))) nxM)
    (seqM (setM 2 (callM (c 4) [.ex (varM 1)]))
    (retM (andV (binM (isD true) (.sl 2) (.ex (constM .non))) (notV (.ex (callM (c 5) [.ex (varM 1), .sl 2])))))))
/-- _law_tape -/
abbrev N7 : List Str := ["_law_script", "_law_cells", "_law_seed", "_law_cell"]
abbrev p7 : List Str := ["_law_script"]
theorem sc7 : FnScope N7 p7 (defScope (top 15)) := ⟨rfl, rfl, rfl, by decide +kernel, rfl, by decide +kernel, by decide +kernel⟩
noncomputable def b7 (c : Nat → FS) : M Fl :=
  (seqM (setM 1 (compM (itM (varM 0)) (.nm 3) yesM (unM absD (.ex (unM toInt (.sl 3)))) [3]))
    (seqM (setM 2 (constM (.int 7)))
    (seqM (forM (itM (varM 1)) (.nm 3) (setM 2 (binM modD (.ex (unM toInt (.ex (binM addD (.ex (binM mulD (.sl 2) (.ex (constM (.int 31))))) (.sl 3))))) (.ex (constM (.int 2147483647))))))
    (retM (dispM [((constM (.str "cells")), (varM 1)), ((constM (.str "at")), (constM (.int 0))), ((constM (.str "left")), (constM (.int 0))), ((constM (.str "seed")), (varM 2)), ((constM (.str "salt")), (constM (.int 0)))])))))
/-- _law_take -/
abbrev N8 : List Str := ["_law_tape_here", "_law_many", "_law_drawn", "_law_mixed"]
abbrev p8 : List Str := ["_law_tape_here", "_law_many"]
theorem sc8 : FnScope N8 p8 (defScope (top 16)) := ⟨rfl, rfl, rfl, by decide +kernel, rfl, by decide +kernel, by decide +kernel⟩
noncomputable def b8 (c : Nat → FS) : M Fl :=
  (seqM (iteM (andM (truB (binM (eqS false) (.ex (binM ixD (.sl 0) (.ex (constM (.str "left"))))) (.ex (constM (.int 0))))) (truB (binM ltD (.ex (binM ixD (.sl 0) (.ex (constM (.str "at"))))) (.ex (unM lenD (.ex (binM ixD (.sl 0) (.ex (constM (.str "cells")))))))))) (seqM (setItM 0 (constM (.str "left")) (binM ixD (.ex (binM ixD (.sl 0) (.ex (constM (.str "cells"))))) (.ex (binM ixD (.sl 0) (.ex (constM (.str "at")))))))
    (setItM 0 (constM (.str "at")) (binM addD (.ex (binM ixD (.sl 0) (.ex (constM (.str "at"))))) (.ex (constM (.int 1)))))) nxM)
    (seqM (iteM (truB (binM gtD (.ex (binM ixD (.sl 0) (.ex (constM (.str "left"))))) (.ex (constM (.int 0))))) (seqM (setM 2 (binM modD (.ex (unM toInt (.ex (binM ixD (.sl 0) (.ex (constM (.str "left"))))))) (.sl 1)))
    (seqM (setItM 0 (constM (.str "left")) (binM divD (.ex (binM ixD (.sl 0) (.ex (constM (.str "left"))))) (.sl 1)))
    (retM (moveM 2)))) nxM)
    (seqM (setItM 0 (constM (.str "salt")) (binM addD (.ex (binM ixD (.sl 0) (.ex (constM (.str "salt"))))) (.ex (constM (.int 1)))))
    (seqM (setM 3 (binM modD (.ex (unM toInt (.ex (binM addD (.ex (binM mulD (.ex (binM ixD (.sl 0) (.ex (constM (.str "seed"))))) (.ex (constM (.int 48271))))) (.ex (binM mulD (.ex (binM ixD (.sl 0) (.ex (constM (.str "salt"))))) (.ex (constM (.int 69621))))))))) (.ex (constM (.int 2147483647)))))
    (seqM (setM 3 (binM modD (.ex (unM toInt (.ex (binM addD (.ex (binM addD (.ex (binM mulD (.sl 3) (.sl 3))) (.ex (binM mulD (.ex (binM ixD (.sl 0) (.ex (constM (.str "salt"))))) (.ex (constM (.int 40692))))))) (.ex (constM (.int 12345))))))) (.ex (constM (.int 2147483399)))))
    (retM (binM modD (.ex (unM toInt (.sl 3))) (.sl 1))))))))
/-- _law_is_integer -/
abbrev N9 : List Str := ["_law_actual"]
abbrev p9 : List Str := ["_law_actual"]
theorem sc9 : FnScope N9 p9 (defScope (top 17)) := ⟨rfl, rfl, rfl, by decide +kernel, rfl, by decide +kernel, by decide +kernel⟩
noncomputable def b9 (c : Nat → FS) : M Fl :=
  (retM (andV (binM isiD (.sl 0) (.ex (constM (.ty "int")))) (notV (.ex (binM isiD (.sl 0) (.ex (constM (.ty "bool"))))))))
/-- _law_same_items -/
abbrev N10 : List Str := ["_law_actual", "_law_expected", "_law_k"]
abbrev p10 : List Str := ["_law_actual", "_law_expected"]
theorem sc10 : FnScope N10 p10 (defScope (top 18)) := ⟨rfl, rfl, rfl, by decide +kernel, rfl, by decide +kernel, by decide +kernel⟩
noncomputable def b10 (c : Nat → FS) : M Fl :=
  (seqM (iteM (truB (binM (eqS true) (.ex (unM lenD (.sl 0))) (.ex (unM lenD (.sl 1))))) (retM (constM (.bl false))) nxM)
    (seqM (forM (rng1M (unM lenD (.sl 1))) (.nm 2) (iteM (notM (truM (.ex (callM (c 11) [.ex (binM ixD (.sl 0) (.sl 2)), .ex (binM ixD (.sl 1) (.sl 2))])))) (retM (constM (.bl false))) nxM))
    (retM (constM (.bl true)))))
/-- _law_same -/
abbrev N11 : List Str := ["_law_actual", "_law_expected", "_law_key"]
abbrev p11 : List Str := ["_law_actual", "_law_expected"]
theorem sc11 : FnScope N11 p11 (defScope (top 19)) := ⟨rfl, rfl, rfl, by decide +kernel, rfl, by decide +kernel, by decide +kernel⟩
noncomputable def b11 (c : Nat → FS) : M Fl :=
  (seqM (iteM (truB (binM (isD false) (.sl 1) (.ex (constM .non)))) (retM (binM (isD false) (.sl 0) (.ex (constM .non)))) nxM)
    (seqM (iteM (truM (.ex (binM isiD (.sl 1) (.ex (constM (.ty "bool")))))) (retM (andV (binM isiD (.sl 0) (.ex (constM (.ty "bool")))) (binM (eqS false) (.sl 0) (.sl 1)))) nxM)
    (seqM (iteM (truM (.ex (binM isiD (.sl 1) (.ex (constM (.ty "int")))))) (retM (andV (callM (c 9) [.ex (varM 0)]) (binM (eqS false) (.sl 0) (.sl 1)))) nxM)
    (seqM (iteM (truM (.ex (binM isiD (.sl 1) (.ex (constM (.ty "str")))))) (retM (andV (binM isiD (.sl 0) (.ex (constM (.ty "str")))) (binM (eqS false) (.sl 0) (.sl 1)))) nxM)
    (seqM (iteM (truM (.ex (binM isiD (.sl 1) (.ex (constM (.ty "tuple")))))) (retM (andV (binM isiD (.sl 0) (.ex (constM (.ty "tuple")))) (callM (c 10) [.ex (varM 0), .ex (varM 1)]))) nxM)
    (seqM (iteM (truM (.ex (binM isiD (.sl 1) (.ex (constM (.ty "list")))))) (retM (andV (binM isiD (.sl 0) (.ex (constM (.ty "list")))) (callM (c 10) [.ex (varM 0), .ex (varM 1)]))) nxM)
    (seqM (iteM (orM (notM (truM (.ex (binM isiD (.sl 0) (.ex (constM (.ty "dict"))))))) (truB (binM (eqS true) (.ex (unM lenD (.sl 0))) (.ex (unM lenD (.sl 1)))))) (retM (constM (.bl false))) nxM)
    (seqM (forM (itM (varM 1)) (.nm 2) (iteM (orM (truB (binM (inD true) (.sl 2) (.sl 0))) (notM (truM (.ex (callM (c 11) [.ex (binM ixD (.sl 0) (.sl 2)), .ex (binM ixD (.sl 1) (.sl 2))]))))) (retM (constM (.bl false))) nxM))
    (seqM (forM (itM (varM 0)) (.nm 2) (iteM (truM (.ex (binM isiD (.sl 2) (.ex (constM (.ty "bool")))))) (retM (constM (.bl false))) nxM))
    (retM (constM (.bl true))))))))))))
/-- _law_shape_ok -/
abbrev N12 : List Str := ["_law_ends", "_law_one", "_law_size", "_law_shapes", "_law_more", "_law_shape", "_law_k", "_law_part", "_law_number"]
abbrev p12 : List Str := ["_law_ends", "_law_one", "_law_size"]
theorem sc12 : FnScope N12 p12 (defScope (top 20)) := ⟨rfl, rfl, rfl, by decide +kernel, rfl, by decide +kernel, by decide +kernel⟩
noncomputable def b12 (c : Nat → FS) : M Fl :=
  (seqM (setM 3 (dispM [((constM (.str "push")), (constM (.str "n"))), ((constM (.str "load")), (constM (.str "s"))), ((constM (.str "store")), (constM (.str "s"))), ((constM (.str "add")), (constM (.str ""))), ((constM (.str "sub")), (constM (.str ""))), ((constM (.str "mul")), (constM (.str ""))), ((constM (.str "less")), (constM (.str ""))), ((constM (.str "same")), (constM (.str ""))), ((constM (.str "jump")), (constM (.str "g")))]))
    (seqM (setM 4 (dispM [((constM (.str "zero")), (constM (.str "g"))), ((constM (.str "emit")), (constM (.str "es"))), ((constM (.str "wait")), (constM (.str "ec"))), ((constM (.str "input")), (constM (.str "s"))), ((constM (.str "round")), (constM (.str "ng"))), ((constM (.str "yes")), (constM (.str "n"))), ((constM (.str "no")), (constM (.str "n"))), ((constM (.str "test")), (constM (.str "w"))), ((constM (.str "stop")), (constM (.str "")))]))
    (seqM (setM 5 (dgetM 3 (binM ixD (.sl 1) (.ex (constM (.int 0)))) (dget1M 4 (binM ixD (.sl 1) (.ex (constM (.int 0)))))))
    (seqM (iteM (orM (truB (binM (isD false) (.sl 5) (.ex (constM .non)))) (truB (binM (eqS true) (.ex (unM lenD (.sl 1))) (.ex (binM addD (.ex (unM lenD (.sl 5))) (.ex (constM (.int 1)))))))) (retM (constM (.bl false))) nxM)
    (seqM (forM (rng1M (unM lenD (.sl 5))) (.nm 6) (seqM (setM 7 (binM ixD (.sl 1) (.ex (binM addD (.sl 6) (.ex (constM (.int 1)))))))
    (seqM (setM 8 (andV (binM isiD (.sl 7) (.ex (constM (.ty "int")))) (notV (.ex (binM isiD (.sl 7) (.ex (constM (.ty "bool"))))))))
    (seqM (iteM (orM (andM (truB (binM (eqS false) (.ex (binM ixD (.sl 5) (.sl 6))) (.ex (constM (.str "n"))))) (notM (andM (truM (.sl 8)) (truB (chainM leD ltD (constM (.int 0)) (varM 7) (constM (.int 4294967296))))))) (andM (truB (binM (eqS false) (.ex (binM ixD (.sl 5) (.sl 6))) (.ex (constM (.str "g"))))) (notM (andM (truM (.sl 8)) (truB (chainM leD ltD (constM (.int 0)) (varM 7) (varM 2))))))) (retM (constM (.bl false))) nxM)
    (seqM (iteM (orM (andM (truB (binM (inD false) (.ex (binM ixD (.sl 5) (.sl 6))) (.ex (constM (.str "sew"))))) (notM (truM (.ex (binM isiD (.sl 7) (.ex (constM (.ty "str")))))))) (andM (truB (binM (eqS false) (.ex (binM ixD (.sl 5) (.sl 6))) (.ex (constM (.str "e"))))) (truB (binM (inD true) (.sl 7) (.sl 0))))) (retM (constM (.bl false))) nxM)
    (iteM (orM (andM (truB (binM (eqS false) (.ex (binM ixD (.sl 5) (.sl 6))) (.ex (constM (.str "w"))))) (truB (binM (inD true) (.sl 7) (.ex (lstM [(constM (.str "yes")), (constM (.str "no"))]))))) (andM (truB (binM (eqS false) (.ex (binM ixD (.sl 5) (.sl 6))) (.ex (constM (.str "c"))))) (notM (truM (.ex (callM (c 13) [.ex (varM 7), .ex (varM 2)])))))) (retM (constM (.bl false))) nxM))))))
    (retM (constM (.bl true))))))))
/-- _law_choices_ok -/
abbrev N13 : List Str := ["_law_part", "_law_size", "_law_one", "_law_labels", "_law_k"]
abbrev p13 : List Str := ["_law_part", "_law_size"]
theorem sc13 : FnScope N13 p13 (defScope (top 21)) := ⟨rfl, rfl, rfl, by decide +kernel, rfl, by decide +kernel, by decide +kernel⟩
noncomputable def b13 (c : Nat → FS) : M Fl :=
  (seqM (iteM (orM (notM (truM (.ex (binM isiD (.sl 0) (.ex (constM (.ty "tuple"))))))) (truB (binM (eqS false) (.sl 0) (.ex (tupM []))))) (retM (constM (.bl false))) nxM)
    (seqM (forM (itM (varM 0)) (.nm 2) (seqM (iteM (orM (notM (truM (.ex (binM isiD (.sl 2) (.ex (constM (.ty "tuple"))))))) (orM (truB (binM (eqS true) (.ex (unM lenD (.sl 2))) (.ex (constM (.int 3))))) (orM (notM (truM (.ex (binM isiD (.ex (binM ixD (.sl 2) (.ex (constM (.int 0))))) (.ex (constM (.ty "str"))))))) (notM (truM (.ex (binM isiD (.ex (binM ixD (.sl 2) (.ex (constM (.int 1))))) (.ex (constM (.ty "str")))))))))) (retM (constM (.bl false))) nxM)
    (iteM (orM (notM (truM (.ex (binM isiD (.ex (binM ixD (.sl 2) (.ex (constM (.int 2))))) (.ex (constM (.ty "int"))))))) (orM (truM (.ex (binM isiD (.ex (binM ixD (.sl 2) (.ex (constM (.int 2))))) (.ex (constM (.ty "bool")))))) (notM (truB (chainM leD ltD (constM (.int 0)) (binM ixD (.sl 2) (.ex (constM (.int 2)))) (varM 1)))))) (retM (constM (.bl false))) nxM)))
    (seqM (setM 3 (compM (itM (varM 0)) (.nm 2) yesM (binM ixD (.sl 2) (.ex (constM (.int 0)))) [2]))
    (retM (andV (binM (eqS false) (.sl 3) (.ex (unM (srtD srtL) (.sl 3)))) (binM (eqS false) (.ex (unM lenD (.ex (compM (rng1M (unM lenD (.sl 3))) (.nm 4) (truB (binM (inD false) (.ex (binM ixD (.sl 3) (.sl 4))) (.ex (sliceM (.sl 3) none (some (.sl 4)))))) (varM 4) [4])))) (.ex (constM (.int 0)))))))))
/-- _law_moves -/
abbrev N14 : List Str := ["_law_code", "_law_at", "_law_one", "_law_moves_here", "_law_choice"]
abbrev p14 : List Str := ["_law_code", "_law_at"]
theorem sc14 : FnScope N14 p14 (defScope (top 22)) := ⟨rfl, rfl, rfl, by decide +kernel, rfl, by decide +kernel, by decide +kernel⟩
noncomputable def b14 (c : Nat → FS) : M Fl :=
  (seqM (setM 2 (binM ixD (.sl 0) (.sl 1)))
    (seqM (iteM (truB (binM (eqS false) (.ex (binM ixD (.sl 2) (.ex (constM (.int 0))))) (.ex (constM (.str "stop"))))) (retM (lstM [])) nxM)
    (seqM (iteM (truB (binM (eqS false) (.ex (binM ixD (.sl 2) (.ex (constM (.int 0))))) (.ex (constM (.str "jump"))))) (retM (lstM [(tupM [(binM ixD (.sl 2) (.ex (constM (.int 1)))), (constM (.bl false))])])) nxM)
    (seqM (iteM (truB (binM (eqS false) (.ex (binM ixD (.sl 2) (.ex (constM (.int 0))))) (.ex (constM (.str "wait"))))) (retM (compM (itM (binM ixD (.sl 2) (.ex (constM (.int 2))))) (.nm 4) yesM (tupM [(binM ixD (.sl 4) (.ex (constM (.int 2)))), (constM (.bl true))]) [4])) nxM)
    (seqM (setM 3 (lstM [(tupM [(binM addD (.sl 1) (.ex (constM (.int 1)))), (binM (inD false) (.ex (binM ixD (.sl 2) (.ex (constM (.int 0))))) (.ex (lstM [(constM (.str "store")), (constM (.str "emit")), (constM (.str "input")), (constM (.str "yes")), (constM (.str "no")), (constM (.str "test"))])))])]))
    (seqM (iteM (truB (binM (eqS false) (.ex (binM ixD (.sl 2) (.ex (constM (.int 0))))) (.ex (constM (.str "zero"))))) (dropM (growM appD 3 (tupM [(binM ixD (.sl 2) (.ex (constM (.int 1)))), (constM (.bl false))]))) nxM)
    (seqM (iteM (truB (binM (eqS false) (.ex (binM ixD (.sl 2) (.ex (constM (.int 0))))) (.ex (constM (.str "round"))))) (dropM (growM appD 3 (tupM [(binM ixD (.sl 2) (.ex (constM (.int 2)))), (constM (.bl true))]))) nxM)
    (retM (moveM 3)))))))))
/-- _law_sound -/
abbrev N15 : List Str := ["_law_ends", "_law_code", "_law_takes", "_law_puts", "_law_height", "_law_waiting", "_law_at", "_law_word", "_law_now", "_law_goal", "_law_deed", "_law_start", "_law_reached", "_law_k", "_law_one"]
abbrev p15 : List Str := ["_law_ends", "_law_code"]
theorem sc15 : FnScope N15 p15 (defScope (top 23)) := ⟨rfl, rfl, rfl, by decide +kernel, rfl, by decide +kernel, by decide +kernel⟩
noncomputable def b15 (c : Nat → FS) : M Fl :=
  (seqM (iteM (orM (truB (binM (eqS false) (.sl 1) (.ex (tupM [])))) (truB (binM (eqS true) (.ex (compM (itM (varM 1)) (.nm 14) (notM (truM (.ex (callM (c 12) [.ex (varM 0), .ex (varM 14), .ex (unM lenD (.sl 1))])))) (varM 14) [14])) (.ex (lstM []))))) (retM (constM (.bl false))) nxM)
    (seqM (setM 2 (dispM [((constM (.str "store")), (constM (.int 1))), ((constM (.str "add")), (constM (.int 2))), ((constM (.str "sub")), (constM (.int 2))), ((constM (.str "mul")), (constM (.int 2))), ((constM (.str "less")), (constM (.int 2))), ((constM (.str "same")), (constM (.int 2))), ((constM (.str "zero")), (constM (.int 1))), ((constM (.str "emit")), (constM (.int 1)))]))
    (seqM (setM 3 (dispM [((constM (.str "push")), (constM (.int 1))), ((constM (.str "load")), (constM (.int 1))), ((constM (.str "add")), (constM (.int 1))), ((constM (.str "sub")), (constM (.int 1))), ((constM (.str "mul")), (constM (.int 1))), ((constM (.str "less")), (constM (.int 1))), ((constM (.str "same")), (constM (.int 1)))]))
    (seqM (setM 4 (dispM [((constM (.int 0)), (constM (.int 0)))]))
    (seqM (setM 5 (lstM [(constM (.int 0))]))
    (seqM (whileM (truB (binM (eqS true) (.sl 5) (.ex (lstM [])))) (seqM (setM 6 (popM 5))
    (seqM (setM 7 (binM ixD (.ex (binM ixD (.sl 1) (.sl 6))) (.ex (constM (.int 0)))))
    (seqM (setM 8 (binM subD (.ex (binM ixD (.sl 4) (.sl 6))) (.ex (dgetM 2 (varM 7) (constM (.int 0))))))
    (seqM (iteM (orM (truB (binM ltD (.sl 8) (.ex (constM (.int 0))))) (andM (truB (binM (inD false) (.sl 7) (.ex (lstM [(constM (.str "stop")), (constM (.str "wait"))])))) (truB (binM (eqS true) (.ex (binM ixD (.sl 4) (.sl 6))) (.ex (constM (.int 0))))))) (retM (constM (.bl false))) nxM)
    (seqM (setM 8 (binM addD (.sl 8) (.ex (dgetM 3 (varM 7) (constM (.int 0))))))
    (forM (itM (callM (c 14) [.ex (varM 1), .ex (varM 6)])) (.tp [(.nm 9), (.nm 10)]) (seqM (iteM (orM (truB (binM geD (.sl 9) (.ex (unM lenD (.sl 1))))) (orM (truB (binM gtD (.sl 8) (.ex (constM (.int 40))))) (truB (binM (eqS true) (.ex (dgetM 4 (varM 9) (varM 8))) (.sl 8))))) (retM (constM (.bl false))) nxM)
    (iteM (truB (binM (inD true) (.sl 9) (.sl 4))) (seqM (setItM 4 (varM 9) (varM 8))
    (dropM (growM appD 5 (varM 9)))) nxM)))))))))
    (seqM (lockM 4 (forM (keysM 4) (.nm 11) (seqM (setM 12 (lstM [(varM 11)]))
    (seqM (setM 13 (constM (.int 0)))
    (whileM (truB (binM ltD (.sl 13) (.ex (unM lenD (.sl 12))))) (seqM (forM (itM (callM (c 14) [.ex (varM 1), .ex (binM ixD (.sl 12) (.sl 13))])) (.tp [(.nm 9), (.nm 10)]) (seqM (iteM (andM (notM (truM (.sl 10))) (truB (binM (eqS false) (.sl 9) (.sl 11)))) (retM (constM (.bl false))) nxM)
    (iteM (andM (notM (truM (.sl 10))) (truB (binM (inD true) (.sl 9) (.sl 12)))) (dropM (growM appD 12 (varM 9))) nxM)))
    (setM 13 (binM addD (.sl 13) (.ex (constM (.int 1)))))))))))
    (retM (constM (.bl true))))))))))
/-- _law_instruction -/
abbrev N16 : List Str := ["_law_tape_here", "_law_many", "_law_goal", "_law_name", "_law_number", "_law_end", "_law_both", "_law_choices", "_law_word", "_law_menu"]
abbrev p16 : List Str := ["_law_tape_here", "_law_many"]
theorem sc16 : FnScope N16 p16 (defScope (top 24)) := ⟨rfl, rfl, rfl, by decide +kernel, rfl, by decide +kernel, by decide +kernel⟩
noncomputable def b16 (c : Nat → FS) : M Fl :=
  (seqM (setM 2 (binM subD (.ex (callM (c 8) [.sl 0, .ex (binM addD (.sl 1) (.ex (constM (.int 1))))])) (.ex (iteM (truB (binM (eqS false) (.ex (callM (c 8) [.sl 0, .ex (constM (.int 12))])) (.ex (constM (.int 0))))) (constM (.int 1)) (constM (.int 0))))))
    (seqM (setM 3 (binM ixD (.ex (lstM [(constM (.str "n")), (constM (.str "m"))])) (.ex (callM (c 8) [.sl 0, .ex (constM (.int 2))]))))
    (seqM (setM 4 (binM ixD (.ex (lstM [(constM (.int 0)), (constM (.int 5)), (constM (.int 4294967295)), (constM (.int 4294967296)), (binM subD (.ex (constM (.int 0))) (.ex (constM (.int 1))))])) (.ex (binM divD (.ex (callM (c 8) [.sl 0, .ex (constM (.int 22))])) (.ex (constM (.int 9)))))))
    (seqM (setM 5 (binM ixD (.ex (lstM [(constM (.str "a")), (constM (.str "b")), (constM (.str "zz"))])) (.ex (binM divD (.ex (callM (c 8) [.sl 0, .ex (constM (.int 13))])) (.ex (constM (.int 6)))))))
    (seqM (setM 6 (tupM [(tupM [(constM (.str "go")), (constM (.str "n")), (varM 2)]), (tupM [(constM (.str "no")), (constM (.str "n")), (callM (c 8) [.sl 0, .ex (varM 1)])])]))
    (seqM (setM 7 (binM ixD (.ex (lstM [(varM 6), (sliceM (.sl 6) none (some (.ex (constM (.int 1))))), (varM 6), (unM revT (.sl 6)), (tupM []), (binM addD (.sl 6) (.ex (sliceM (.sl 6) (some (.ex (constM (.int 1)))) none)))])) (.ex (binM divD (.ex (callM (c 8) [.sl 0, .ex (constM (.int 15))])) (.ex (constM (.int 3)))))))
    (seqM (setM 8 (binM ixD (.ex (lstM [(constM (.str "yes")), (constM (.str "no")), (constM (.str "maybe"))])) (.ex (binM divD (.ex (callM (c 8) [.sl 0, .ex (constM (.int 13))])) (.ex (constM (.int 6)))))))
    (seqM (setM 9 (lstM [(tupM [(constM (.str "push")), (varM 4)]), (tupM [(constM (.str "load")), (varM 3)]), (tupM [(constM (.str "store")), (varM 3)]), (tupM [(constM (.str "add"))]), (tupM [(constM (.str "less"))]), (tupM [(constM (.str "jump")), (varM 2)]), (tupM [(constM (.str "zero")), (varM 2)])]))
    (seqM (setM 9 (binM addD (.sl 9) (.ex (lstM [(tupM [(constM (.str "emit")), (varM 5), (constM (.str "go"))]), (tupM [(constM (.str "wait")), (varM 5), (varM 7)]), (tupM [(constM (.str "input")), (varM 3)]), (tupM [(constM (.str "round")), (constM (.int 3)), (varM 2)]), (tupM [(constM (.str "yes")), (constM (.int 3))]), (tupM [(constM (.str "no")), (constM (.int 3))])]))))
    (seqM (setM 9 (binM addD (.sl 9) (.ex (lstM [(tupM [(constM (.str "test")), (varM 8)]), (tupM [(constM (.str "stop"))]), (tupM [(constM (.str "push")), (constM (.int 1))]), (tupM [(constM (.str "store")), (varM 3)]), (tupM [(constM (.str "stop"))]), (tupM [(constM (.str "fly"))]), (tupM [(constM (.str "push"))])]))))
    (retM (binM ixD (.sl 9) (.ex (callM (c 8) [.sl 0, .ex (constM (.int 20))]))))))))))))))
/-- _law_pattern -/
abbrev N17 : List Str := ["_law_tape_here", "_law_at", "_law_many", "_law_choice", "_law_goal"]
abbrev p17 : List Str := ["_law_tape_here", "_law_at", "_law_many"]
theorem sc17 : FnScope N17 p17 (defScope (top 25)) := ⟨rfl, rfl, rfl, by decide +kernel, rfl, by decide +kernel, by decide +kernel⟩
noncomputable def b17 (c : Nat → FS) : M Fl :=
  (seqM (setM 3 (callM (c 8) [.sl 0, .ex (constM (.int 6))]))
    (seqM (setM 4 (callM (c 8) [.sl 0, .ex (varM 2)]))
    (seqM (iteM (truB (binM (eqS false) (.sl 3) (.ex (constM (.int 0))))) (retM (lstM [(tupM [(constM (.str "push")), (constM (.int 1))]), (tupM [(constM (.str "store")), (constM (.str "n"))])])) nxM)
    (seqM (iteM (truB (binM (eqS false) (.sl 3) (.ex (constM (.int 1))))) (retM (lstM [(tupM [(constM (.str "load")), (constM (.str "n"))]), (tupM [(constM (.str "push")), (constM (.int 2))]), (tupM [(constM (.str "sub"))]), (tupM [(constM (.str "emit")), (constM (.str "b")), (constM (.str "go"))])])) nxM)
    (seqM (iteM (truB (binM (eqS false) (.sl 3) (.ex (constM (.int 2))))) (retM (lstM [(tupM [(constM (.str "round")), (constM (.int 3)), (varM 4)]), (tupM [(constM (.str "load")), (constM (.str "n"))]), (tupM [(constM (.str "zero")), (varM 4)]), (tupM [(constM (.str "yes")), (constM (.int 3))])])) nxM)
    (seqM (iteM (truB (binM (eqS false) (.sl 3) (.ex (constM (.int 3))))) (retM (lstM [(tupM [(constM (.str "input")), (constM (.str "m"))]), (tupM [(constM (.str "jump")), (varM 4)])])) nxM)
    (seqM (iteM (truB (binM (eqS false) (.sl 3) (.ex (constM (.int 4))))) (retM (lstM [(tupM [(constM (.str "wait")), (constM (.str "a")), (tupM [(tupM [(constM (.str "go")), (constM (.str "n")), (varM 4)]), (tupM [(constM (.str "no")), (constM (.str "m")), (varM 1)])])])])) nxM)
    (retM (lstM [(callM (c 16) [.sl 0, .ex (varM 2)])])))))))))
/-- law -/
abbrev N18 : List Str := ["_law_script", "_law_tape_here", "_law_k", "_law_many", "_law_code"]
abbrev p18 : List Str := ["_law_script"]
theorem sc18 : FnScope N18 p18 (defScope (top 26)) := ⟨rfl, rfl, rfl, by decide +kernel, rfl, by decide +kernel, by decide +kernel⟩
noncomputable def b18 (c : Nat → FS) : M Fl :=
  (seqM (setM 1 (callM (c 7) [.ex (varM 0)]))
    (seqM (forM (rng1M (constM (.int 4))) (.nm 2) (seqM (setM 3 (binM addD (.ex (constM (.int 2))) (.ex (callM (c 8) [.sl 1, .ex (constM (.int 11))]))))
    (seqM (setM 4 (lstM []))
    (seqM (whileM (truB (binM ltD (.ex (unM lenD (.sl 4))) (.sl 3))) (iteM (truB (binM gtD (.ex (callM (c 8) [.sl 1, .ex (constM (.int 4))])) (.ex (constM (.int 0))))) (setM 4 (binM addD (.sl 4) (.ex (callM (c 17) [.sl 1, .ex (unM lenD (.sl 4)), .ex (varM 3)])))) (dropM (growM appD 4 (callM (c 16) [.sl 1, .ex (varM 3)])))))
    (seqM (setM 4 (unM toTup (.ex (sliceM (.sl 4) none (some (.sl 3))))))
    (seqM (iteM (truB (binM gtD (.ex (callM (c 8) [.sl 1, .ex (constM (.int 3))])) (.ex (constM (.int 0))))) (setM 4 (binM addD (.ex (sliceM (.sl 4) none (some (.ex (negM (.ex (constM (.int 1)))))))) (.ex (tupM [(tupM [(constM (.str "stop"))])])))) nxM)
    (iteM (notM (truM (.ex (callM (c 11) [.ex (callM (c 6) [.ex (tupM [(constM (.str "a")), (constM (.str "b"))]), .ex (varM 4)]), .ex (callM (c 15) [.ex (tupM [(constM (.str "a")), (constM (.str "b"))]), .ex (varM 4)])])))) (retM (constM (.bl false))) nxM)))))))
    (retM (binM (isBD false) (.ex (callM (c 6) [.ex (tupM [(constM (.str "a"))]), .ex (tupM [])])) (.ex (constM (.bl false)))))))
noncomputable def step (c : Nat → FS) : Nat → FS
  | 0 => runF [] 2 2 (b0 c)
  | 1 => runF [] 2 4 (b1 c)
  | 2 => runF [] 3 6 (b2 c)
  | 3 => runF [] 2 7 (b3 c)
  | 4 => runF [] 1 8 (b4 c)
  | 5 => runF [1] 2 7 (b5 c)
  | 6 => runF [] 2 4 (b6 c)
  | 7 => runF [] 1 4 (b7 c)
  | 8 => runF [0] 2 4 (b8 c)
  | 9 => runF [] 1 1 (b9 c)
  | 10 => runF [] 2 3 (b10 c)
  | 11 => runF [] 2 3 (b11 c)
  | 12 => runF [] 3 9 (b12 c)
  | 13 => runF [] 2 5 (b13 c)
  | 14 => runF [] 2 5 (b14 c)
  | 15 => runF [] 2 15 (b15 c)
  | 16 => runF [0] 2 10 (b16 c)
  | 17 => runF [0] 3 5 (b17 c)
  | 18 => runF [] 1 5 (b18 c)
  | _ => stkF
noncomputable def sem : Nat → Nat → FS
  | 0 => fun _ => stkF
  | n + 1 => step (sem n)
theorem se0 (k : Nat) : sem (k + 1) 0 = runF [] 2 2 (b0 (sem k)) := rfl
theorem se1 (k : Nat) : sem (k + 1) 1 = runF [] 2 4 (b1 (sem k)) := rfl
theorem se2 (k : Nat) : sem (k + 1) 2 = runF [] 3 6 (b2 (sem k)) := rfl
theorem se3 (k : Nat) : sem (k + 1) 3 = runF [] 2 7 (b3 (sem k)) := rfl
theorem se4 (k : Nat) : sem (k + 1) 4 = runF [] 1 8 (b4 (sem k)) := rfl
theorem se5 (k : Nat) : sem (k + 1) 5 = runF [1] 2 7 (b5 (sem k)) := rfl
theorem se6 (k : Nat) : sem (k + 1) 6 = runF [] 2 4 (b6 (sem k)) := rfl
theorem se7 (k : Nat) : sem (k + 1) 7 = runF [] 1 4 (b7 (sem k)) := rfl
theorem se8 (k : Nat) : sem (k + 1) 8 = runF [0] 2 4 (b8 (sem k)) := rfl
theorem se9 (k : Nat) : sem (k + 1) 9 = runF [] 1 1 (b9 (sem k)) := rfl
theorem se10 (k : Nat) : sem (k + 1) 10 = runF [] 2 3 (b10 (sem k)) := rfl
theorem se11 (k : Nat) : sem (k + 1) 11 = runF [] 2 3 (b11 (sem k)) := rfl
theorem se12 (k : Nat) : sem (k + 1) 12 = runF [] 3 9 (b12 (sem k)) := rfl
theorem se13 (k : Nat) : sem (k + 1) 13 = runF [] 2 5 (b13 (sem k)) := rfl
theorem se14 (k : Nat) : sem (k + 1) 14 = runF [] 2 5 (b14 (sem k)) := rfl
theorem se15 (k : Nat) : sem (k + 1) 15 = runF [] 2 15 (b15 (sem k)) := rfl
theorem se16 (k : Nat) : sem (k + 1) 16 = runF [0] 2 10 (b16 (sem k)) := rfl
theorem se17 (k : Nat) : sem (k + 1) 17 = runF [0] 3 5 (b17 (sem k)) := rfl
theorem se18 (k : Nat) : sem (k + 1) 18 = runF [] 1 5 (b18 (sem k)) := rfl
section
variable {P : Program} {w : World} {K : PySem.W.Frag} {mg : Str → Option Value} {base : Heap} {c : Nat → FS} {k : Nat}
theorem hu1 {k : Nat} {A : Around} (r : Room k A) : A.units + 1 < cLine := by have := r.un; omega
theorem hu65 {k : Nat} {A : Around} (r : Room k A) : A.units + 65 < cLine := by have := r.un; omega
abbrev FnP (K : PySem.W.Frag) (x : Str) (st : Stmt) (f : Addr) (fd : FuncData) : Prop := FunD K x x (defArgs st) (defBody st) (defScope st) [] [] f fd
/-- is_integer -/
theorem w0 {f : Addr} {fd : FuncData} (F : FnP K "is_integer" (top 7) f fd) (G : Gb K w mg) (TB : Tab P w K mg base (k + 2) c) : FnOk P w K mg base (L2.CX P w) (k + 3) f fd p0 (spF K [] 2 (runF [] 2 2 (b0 c))) := by
  have nd := sc0.nd
  let sc := defScope (top 7)
  let N := N0
  exact fn_okD (N := N0) (ps := p0) F sc0 (by decide) (by decide) fun cdv A outer s H E hr =>
    (ds_one (ds_ret (de_and (de_b2 call_isi opd_isi rfl G.b_isinstance rfl (pv 0) (de_ty G.b_int)) (de_and (de_not (de_b2 call_isi opd_isi rfl G.b_isinstance rfl (pv 0) (de_ty G.b_bool))) (de_one (de_chain or_le or_lt opd_ord opd_ord de_int (de_var (pv 0)) (de_var (pv 1))))))))
/-- are_choices -/
theorem w1 {f : Addr} {fd : FuncData} (F : FnP K "are_choices" (top 8) f fd) (G : Gb K w mg) (TB : Tab P w K mg base (k + 2) c) : FnOk P w K mg base (L2.CX P w) (k + 3) f fd p1 (spF K [] 2 (runF [] 2 4 (b1 c))) := by
  have nd := sc1.nd
  let sc := defScope (top 8)
  let N := N1
  exact fn_okD (N := N1) (ps := p1) F sc1 (by decide) (by decide) fun cdv A outer s H E hr =>
    (ds_cons (ds_if (dt_w (dw_or (dt_not (dt_tru (de_b2 call_isi opd_isi rfl G.b_isinstance rfl (pv 0) (de_ty G.b_tuple)))) (dw_or1 (dt_not (dt_tru (pv 0)))))) (ds_one (ds_ret de_bl)) ds_nil)
    (ds_cons (ds_for (passes_of rfl) rfl (di_it (de_var (pv 0))) (dg_name nd) (ds_cons (ds_if (dt_w (dw_or (dt_not (dt_tru (de_b2 call_isi opd_isi rfl G.b_isinstance rfl (pv 2) (de_ty G.b_tuple)))) (dw_or1 (dt_cmp (or_neS hr.units) opd_neS (de_b1 or_len opd_len rfl G.b_len rfl (pv 2)) de_int (nomark _))))) (ds_one (ds_ret de_bl)) ds_nil)
    (ds_one (ds_if (dt_w (dw_or (dt_not (dt_tru (de_b2 call_isi opd_isi rfl G.b_isinstance rfl (de_ix (or_ix (hu1 hr)) opd_ix (pv 2) de_int) (de_ty G.b_str)))) (dw_or (dt_not (dt_tru (de_b2 call_isi opd_isi rfl G.b_isinstance rfl (de_ix (or_ix (hu1 hr)) opd_ix (pv 2) de_int) (de_ty G.b_str)))) (dw_or1 (dt_not (dt_tru (de_callK TB.t0 hr (takes_of rfl rfl rfl rfl) (da_cons (de_ix (or_ix (hu1 hr)) opd_ix (pv 2) de_int) (da_cons (de_var (pv 1)) da_nil))))))))) (ds_one (ds_ret de_bl)) ds_nil))))
    (ds_cons (ds_comp (ps_setLc (i := 3) (own := [("one", 2)]) (g := gT _ (.nm 2)) rfl nd rfl rfl (sw_true rfl rfl rfl (by decide +kernel)) (di_it (de_var (pv 0))) (blkOk_by (own := [("one", 2)]) (N := N) (sc := sc) (by decide +kernel)) (fun _ _ _ _ _ => (dg_name nd)) (fun _ _ _ _ _ => dts_nil) (fun _ _ _ _ _ => (de_ix (or_ix (hu1 hr)) opd_ix (pv 2) de_int))))
    (ds_one (ds_ret (de_cmp (or_eqS hr.units) opd_eqS (pv 3) (de_sortSet G.b_sorted G.b_set (pv 3)) (nomark _)))))))
/-- has_form -/
theorem w2 {f : Addr} {fd : FuncData} (F : FnP K "has_form" (top 9) f fd) (G : Gb K w mg) (TB : Tab P w K mg base (k + 2) c) : FnOk P w K mg base (L2.CX P w) (k + 3) f fd p2 (spF K [] 3 (runF [] 3 6 (b2 c))) := by
  have nd := sc2.nd
  let sc := defScope (top 9)
  let N := N2
  exact fn_okD (N := N2) (ps := p2) F sc2 (by decide) (by decide) fun cdv A outer s H E hr =>
    (ds_cons (ds_if (dt_w (dw_or (dt_knot G.d_SHAPES (de_ix (or_ix (hu1 hr)) opd_ix (pv 1) de_int)) (dw_or1 (dt_cmp (or_neS hr.units) opd_neS (de_b1 or_len opd_len rfl G.b_len rfl (pv 1)) (de_op or_add opd_add (de_b1 or_len opd_len rfl G.b_len rfl (de_kix G.d_SHAPES (de_ix (or_ix (hu1 hr)) opd_ix (pv 1) de_int))) de_int) (nomark _))))) (ds_one (ds_ret de_bl)) ds_nil)
    (ds_cons (ds_for (passes_of rfl) rfl (di_zip rfl G.b_zip (da_cons (de_kix G.d_SHAPES (de_ix (or_ix (hu1 hr)) opd_ix (pv 1) de_int)) (da_cons (de_slice (pv 1) (pod_some de_int) pod_none) da_nil))) (dg_tup rfl (dgs_cons (dg_name nd) (dgs_cons (dg_name nd) dgs_nil))) (ds_cons (ds_set (i := 5) (de_b2 call_isi opd_isi rfl G.b_isinstance rfl (pv 4) (de_ty G.b_str)) nd)
    (ds_cons (ds_if (dt_cmp (or_eqS hr.units) opd_eqS (pv 3) de_str (nomark _)) (ds_one (ds_set (i := 5) (de_callK TB.t0 hr (takes_of rfl rfl rfl rfl) (da_cons (de_var (pv 4)) (da_cons (de_glo G.g_SIZE) da_nil))) nd)) (ds_one (ds_if (dt_cmp (or_eqS hr.units) opd_eqS (pv 3) de_str (nomark _)) (ds_one (ds_set (i := 5) (de_callK TB.t0 hr (takes_of rfl rfl rfl rfl) (da_cons (de_var (pv 4)) (da_cons (de_var (pv 2)) da_nil))) nd)) (ds_one (ds_if (dt_cmp (or_eqS hr.units) opd_eqS (pv 3) de_str (nomark _)) (ds_one (ds_set (i := 5) (de_and (de_var (pv 5)) (de_one (de_cmp (or_in (hu65 hr)) opd_in (pv 4) (pv 0) (by with_unfolding_all rfl)))) nd)) (ds_one (ds_if (dt_cmp (or_eqS hr.units) opd_eqS (pv 3) de_str (nomark _)) (ds_one (ds_set (i := 5) (de_and (de_var (pv 5)) (de_one (de_cmp (or_in (hu65 hr)) opd_in (pv 4) (de_tup (da_cons de_str (da_cons de_str da_nil))) (by with_unfolding_all rfl)))) nd)) (ds_one (ds_if (dt_cmp (or_eqS hr.units) opd_eqS (pv 3) de_str (nomark _)) (ds_one (ds_set (i := 5) (de_callK TB.t1 hr (takes_of rfl rfl rfl rfl) (da_cons (de_var (pv 4)) (da_cons (de_var (pv 2)) da_nil))) nd)) ds_nil)))))))))
    (ds_one (ds_if (dt_not (dt_tru (pv 5))) (ds_one (ds_ret de_bl)) ds_nil)))))
    (ds_one (ds_ret de_bl))))
/-- goals -/
theorem w3 {f : Addr} {fd : FuncData} (F : FnP K "goals" (top 10) f fd) (G : Gb K w mg) (TB : Tab P w K mg base (k + 2) c) : FnOk P w K mg base (L2.CX P w) (k + 3) f fd p3 (spF K [] 2 (runF [] 2 7 (b3 c))) := by
  have nd := sc3.nd
  let sc := defScope (top 10)
  let N := N3
  exact fn_okD (N := N3) (ps := p3) F sc3 (by decide) (by decide) fun cdv A outer s H E hr =>
    (ds_cons (ds_set (i := 2) (de_ix (or_ix (hu1 hr)) opd_ix (pv 0) (pv 1)) nd)
    (ds_cons (ds_set (i := 3) (de_ix (or_ix (hu1 hr)) opd_ix (pv 2) de_int) nd)
    (ds_cons (ds_if (dt_cmp (or_eqS hr.units) opd_eqS (pv 3) de_str (nomark _)) (ds_one (ds_ret (de_lst da_nil))) ds_nil)
    (ds_cons (ds_if (dt_cmp (or_eqS hr.units) opd_eqS (pv 3) de_str (nomark _)) (ds_one (ds_ret (dm_comp (pe_lc (own := [("_", 5), ("goal", 6)]) (g := gT _ (.tp [(.nm 5), (.nm 5), (.nm 6)])) rfl nd (di_it (de_ix (or_ix (hu1 hr)) opd_ix (pv 2) de_int)) (blkOk_by (own := [("_", 5), ("goal", 6)]) (N := N) (sc := sc) (by decide +kernel)) (fun _ _ _ _ _ => (dg_tup rfl (dgs_cons (dg_name nd) (dgs_cons (dg_name nd) (dgs_cons (dg_name nd) dgs_nil))))) (fun _ _ _ _ _ => dts_nil) (fun _ _ _ _ _ => (de_tup (da_cons (de_var (pv 6)) (da_cons de_bl da_nil)))))))) ds_nil)
    (ds_cons (ds_if (dt_cmp (or_eqS hr.units) opd_eqS (pv 3) de_str (nomark _)) (ds_one (ds_ret (de_lst (da_cons (de_tup (da_cons (de_ix (or_ix (hu1 hr)) opd_ix (pv 2) de_int) (da_cons de_bl da_nil))) da_nil)))) ds_nil)
    (ds_cons (ds_set (i := 4) (de_lst (da_cons (de_tup (da_cons (de_op or_add opd_add (pv 1) de_int) (da_cons (de_cmp (or_in (hu65 hr)) opd_in (pv 3) (de_glo G.g_DEEDS) (by with_unfolding_all rfl)) da_nil))) da_nil)) nd)
    (ds_cons (ds_if (dt_cmp (or_eqS hr.units) opd_eqS (pv 3) de_str (nomark _)) (ds_one (ds_expr (dm_grow (pe_bm PySem.F.plainAttrs_list PySem.F.slot_list_append PySem.F.type_list_append mt_append (pv 4) (pa_cons (de_tup (da_cons (de_ix (or_ix (hu1 hr)) opd_ix (pv 2) de_int) (da_cons de_bl da_nil))) pa_nil)) grow_app))) ds_nil)
    (ds_cons (ds_if (dt_cmp (or_eqS hr.units) opd_eqS (pv 3) de_str (nomark _)) (ds_one (ds_expr (dm_grow (pe_bm PySem.F.plainAttrs_list PySem.F.slot_list_append PySem.F.type_list_append mt_append (pv 4) (pa_cons (de_tup (da_cons (de_ix (or_ix (hu1 hr)) opd_ix (pv 2) de_int) (da_cons de_bl da_nil))) pa_nil)) grow_app))) ds_nil)
    (ds_one (ds_ret (de_move (pv 4))))))))))))
/-- heights_of -/
theorem w4 {f : Addr} {fd : FuncData} (F : FnP K "heights_of" (top 11) f fd) (G : Gb K w mg) (TB : Tab P w K mg base (k + 2) c) : FnOk P w K mg base (L2.CX P w) (k + 3) f fd p4 (spF K [] 1 (runF [] 1 8 (b4 c))) := by
  have nd := sc4.nd
  let sc := defScope (top 11)
  let N := N4
  exact fn_okD (N := N4) (ps := p4) F sc4 (by decide) (by decide) fun cdv A outer s H E hr =>
    (ds_cons (ds_set (i := 1) (dm_disp (pe_disp (pps_cons de_int de_int pps_nil) rfl rfl (List.cons_ne_nil _ _) (by decide))) nd)
    (ds_cons (ds_set (i := 2) (de_lst (da_cons de_int da_nil)) nd)
    (ds_cons (ds_while (passes_of rfl) (dt_tru (pv 2)) (ds_cons (ds_set (i := 3) (dm_pop (pe_bm0 PySem.F.plainAttrs_list PySem.F.slot_list_pop PySem.F.type_list_pop mt_pop (pv 2))) nd)
    (ds_cons (ds_set (i := 4) (de_ix (or_ix (hu1 hr)) opd_ix (de_ix (or_ix (hu1 hr)) opd_ix (pv 0) (pv 3)) de_int) nd)
    (ds_cons (ds_if (dt_w (dw_or (dt_cmp or_lt opd_ord (de_ix (or_ix (hu1 hr)) opd_ix (pv 1) (pv 3)) (de_kget G.d_TAKES (de_var (pv 4)) de_int ⟨rfl, rfl, rfl, rfl⟩) (nomark _)) (dw_or1 (dt_w (dw_and (dt_cmp (or_in (hu65 hr)) opd_in (pv 4) (de_tup (da_cons de_str (da_cons de_str da_nil))) (by with_unfolding_all rfl)) (dw_and1 (dt_cmp (or_neS hr.units) opd_neS (de_ix (or_ix (hu1 hr)) opd_ix (pv 1) (pv 3)) de_int (nomark _)))))))) (ds_one (ds_ret de_non)) ds_nil)
    (ds_cons (ds_set (i := 5) (de_op or_add opd_add (de_ix (or_ix (hu1 hr)) opd_ix (pv 1) (pv 3)) (de_kget G.d_CHANGES (de_var (pv 4)) de_int ⟨rfl, rfl, rfl, rfl⟩)) nd)
    (ds_one (ds_for (passes_of rfl) rfl (di_it (de_callK TB.t3 hr (takes_of rfl rfl rfl rfl) (da_cons (de_var (pv 0)) (da_cons (de_var (pv 3)) da_nil)))) (dg_tup rfl (dgs_cons (dg_name nd) (dgs_cons (dg_name nd) dgs_nil))) (ds_cons (ds_if (dt_w (dw_or (dt_cmp or_ge opd_ord (pv 6) (de_b1 or_len opd_len rfl G.b_len rfl (pv 0)) (nomark _)) (dw_or (dt_cmp or_gt opd_ord (pv 5) (de_glo G.g_MOST_HEIGHT) (nomark _)) (dw_or1 (dt_cmp (or_neS hr.units) opd_neS (dm_dget (pe_dget2 (hu1 hr) (pv 1) (de_var (pv 6)) (de_var (pv 5)) ⟨rfl, rfl, rfl, rfl⟩)) (pv 5) (nomark _)))))) (ds_one (ds_ret de_non)) ds_nil)
    (ds_one (ds_if (dt_cmp (or_notin (hu65 hr)) opd_in (pv 6) (pv 1) (by with_unfolding_all rfl)) (ds_cons (ds_setIt (ps_asg (de_var (pv 5)) (pg_sub (pv 1) (de_var (pv 6)) set_list)) (ps_dput (hu1 hr) (pv 1) (de_var (pv 6)) (de_var (pv 5)) rfl))
    (ds_one (ds_expr (dm_grow (pe_bm PySem.F.plainAttrs_list PySem.F.slot_list_append PySem.F.type_list_append mt_append (pv 2) (pa_cons (de_var (pv 6)) pa_nil)) grow_app)))) ds_nil))))))))))
    (ds_one (ds_ret (de_move (pv 1)))))))
/-- has_quiet_circle -/
theorem w5 {f : Addr} {fd : FuncData} (F : FnP K "has_quiet_circle" (top 12) f fd) (G : Gb K w mg) (TB : Tab P w K mg base (k + 2) c) : FnOk P w K mg base (L2.CX P w) (k + 3) f fd p5 (spF K [1] 2 (runF [1] 2 7 (b5 c))) := by
  have nd := sc5.nd
  let sc := defScope (top 12)
  let N := N5
  exact fn_okD (N := N5) (ps := p5) F sc5 (by decide) (by decide) fun cdv A outer s H E hr =>
    (ds_cons (ds_lock (i := 1) (ds_set (i := 2) (dm_dc (pe_dc (own := [("at", 4)]) (g := gT _ (.nm 4)) rfl nd (di_keys (pv 1)) (blkOk_by (own := [("at", 4)]) (N := N) (sc := sc) (by decide +kernel)) (fun _ _ _ _ _ => (dg_name nd)) (fun _ _ _ _ _ => dts_nil) (fun _ _ _ _ _ => (de_var (pv 4))) (fun _ _ _ _ _ => (dm_comp (pe_lc (own := [("goal", 5), ("deed", 6)]) (g := gT _ (.tp [(.nm 5), (.nm 6)])) rfl nd (di_it (de_callK TB.t3 hr takes0 (da_cons (de_var (pv 0)) (da_cons (de_var (pv 4)) da_nil)))) (blkOk_in (own := [("goal", 5), ("deed", 6)]) (N := N) (by decide +kernel)) (fun _ _ _ _ _ => (dg_tup rfl (dgs_cons (dg_name nd) (dgs_cons (dg_name nd) dgs_nil)))) (fun _ _ _ _ _ => (pts_one (dt_not (dt_tru (pv 6))))) (fun _ _ _ _ _ => (de_var (pv 5)))))))) nd))
    (ds_cons (ds_while (passes_of rfl) (dt_tru (pv 2)) (ds_cons (ds_lock (i := 2) (ds_comp (ps_setLc (i := 3) (own := [("at", 4)]) (g := gT _ (.nm 4)) rfl nd rfl rfl (sw_true rfl rfl rfl (by decide +kernel)) (di_keys (pv 2)) (blkOk_by (own := [("at", 4)]) (N := N) (sc := sc) (by decide +kernel)) (fun _ _ _ _ _ => (dg_name nd)) (fun _ _ _ _ _ => (pts_one (dt_not (dt_tru (de_b1 (cr_any rfl) opd_any rfl G.b_any rfl (dm_comp (pe_lc (own := [("goal", 5)]) (g := gT _ (.nm 5)) rfl nd (di_it (de_ix (or_ix (hu1 hr)) opd_ix (pv 2) (pv 4))) (blkOk_in (own := [("goal", 5)]) (N := N) (by decide +kernel)) (fun _ _ _ _ _ => (dg_name nd)) (fun _ _ _ _ _ => dts_nil) (fun _ _ _ _ _ => (de_cmp (or_in (hu65 hr)) opd_in (pv 5) (pv 2) (by with_unfolding_all rfl)))))))))) (fun _ _ _ _ _ => (de_var (pv 4))))))
    (ds_cons (ds_if (dt_not (dt_tru (pv 3))) (ds_one (ds_ret de_bl)) ds_nil)
    (ds_one (ds_for (passes_of rfl) rfl (di_it (de_var (pv 3))) (dg_name nd) (ds_one (ds_expr (dm_dpop (pe_dpop1 (pv 2) (de_var (pv 4)) ⟨rfl, rfl, rfl, rfl⟩)))))))))
    (ds_one (ds_ret de_bl))))
/-- is_sound -/
theorem w6 {f : Addr} {fd : FuncData} (F : FnP K "is_sound" (top 13) f fd) (G : Gb K w mg) (TB : Tab P w K mg base (k + 2) c) : FnOk P w K mg base (L2.CX P w) (k + 3) f fd p6 (spF K [] 2 (runF [] 2 4 (b6 c))) := by
  have nd := sc6.nd
  let sc := defScope (top 13)
  let N := N6
  exact fn_okD (N := N6) (ps := p6) F sc6 (by decide) (by decide) fun cdv A outer s H E hr =>
    (ds_cons (ds_if (dt_w (dw_or (dt_not (dt_tru (pv 1))) (dw_or1 (dt_not (dt_tru (de_b1 (cr_all rfl) opd_all rfl G.b_all rfl (dm_comp (pe_lc (own := [("instruction", 3)]) (g := gT _ (.nm 3)) rfl nd (di_it (de_var (pv 1))) (blkOk_by (own := [("instruction", 3)]) (N := N) (sc := sc) (by decide +kernel)) (fun _ _ _ _ _ => (dg_name nd)) (fun _ _ _ _ _ => dts_nil) (fun _ _ _ _ _ => (de_callK TB.t2 hr takes0 (da_cons (de_var (pv 0)) (da_cons (de_var (pv 3)) (da_cons (de_b1 or_len opd_len rfl G.b_len rfl (pv 1)) da_nil))))))))))))) (ds_one (ds_ret de_bl)) ds_nil)
    (ds_cons (ds_set (i := 2) (de_callK TB.t4 hr (takes_of rfl rfl rfl rfl) (da_cons (de_var (pv 1)) da_nil)) nd)
    (ds_one (ds_ret (de_and (de_cmp op_notN opd_notN (pv 2) de_non (nomark _)) (de_one (de_not (de_callK TB.t5 hr (takes_of rfl rfl rfl rfl) (da_cons (de_var (pv 1)) (da_cons (pv 2) da_nil))))))))))
/-- _law_tape -/
theorem w7 {f : Addr} {fd : FuncData} (F : FnP K "_law_tape" (top 15) f fd) (G : Gb K w mg) (TB : Tab P w K mg base (k + 2) c) : FnOk P w K mg base (L2.CX P w) (k + 3) f fd p7 (spF K [] 1 (runF [] 1 4 (b7 c))) := by
  have nd := sc7.nd
  let sc := defScope (top 15)
  let N := N7
  exact fn_okD (N := N7) (ps := p7) F sc7 (by decide) (by decide) fun cdv A outer s H E hr =>
    (ds_cons (ds_comp (ps_setLc (i := 1) (own := [("_law_cell", 3)]) (g := gT _ (.nm 3)) rfl nd rfl rfl (sw_true rfl rfl rfl (by decide +kernel)) (di_it (de_var (pv 0))) (blkOk_by (own := [("_law_cell", 3)]) (N := N) (sc := sc) (by decide +kernel)) (fun _ _ _ _ _ => (dg_name nd)) (fun _ _ _ _ _ => dts_nil) (fun _ _ _ _ _ => (de_b1 call_abs opd_abs rfl G.b_abs rfl (de_t1 call_int1 opd_toInt rfl G.b_int rfl (pv 3))))))
    (ds_cons (ds_set (i := 2) de_int nd)
    (ds_cons (ds_for (passes_of rfl) rfl (di_it (de_var (pv 1))) (dg_name nd) (ds_one (ds_set (i := 2) (de_op op_mod opd_mod (de_t1 call_int1 opd_toInt rfl G.b_int rfl (de_op or_add opd_add (de_op op_mul opd_mul (pv 2) de_int) (pv 3))) de_int) nd)))
    (ds_one (ds_ret (dm_disp (pe_disp (pps_cons de_str (de_var (pv 1)) (pps_cons de_str de_int (pps_cons de_str de_int (pps_cons de_str (de_var (pv 2)) (pps_cons de_str de_int pps_nil))))) rfl rfl (List.cons_ne_nil _ _) (by decide))))))))
/-- _law_take -/
theorem w8 {f : Addr} {fd : FuncData} (F : FnP K "_law_take" (top 16) f fd) (G : Gb K w mg) (TB : Tab P w K mg base (k + 2) c) : FnOk P w K mg base (L2.CX P w) (k + 3) f fd p8 (spF K [0] 2 (runF [0] 2 4 (b8 c))) := by
  have nd := sc8.nd
  let sc := defScope (top 16)
  let N := N8
  exact fn_okD (N := N8) (ps := p8) F sc8 (by decide) (by decide) fun cdv A outer s H E hr =>
    (ds_cons (ds_if (dt_w (dw_and (dt_cmp (or_eqS hr.units) opd_eqS (de_ix (or_ix (hu1 hr)) opd_ix (pv 0) de_str) de_int (nomark _)) (dw_and1 (dt_cmp or_lt opd_ord (de_ix (or_ix (hu1 hr)) opd_ix (pv 0) de_str) (de_b1 or_len opd_len rfl G.b_len rfl (de_ix (or_ix (hu1 hr)) opd_ix (pv 0) de_str)) (nomark _))))) (ds_cons (ds_setIt (ps_asg (de_ix (or_ix (hu1 hr)) opd_ix (de_ix (or_ix (hu1 hr)) opd_ix (pv 0) de_str) (de_ix (or_ix (hu1 hr)) opd_ix (pv 0) de_str)) (pg_sub (pv 0) de_str set_list)) (ps_dput (hu1 hr) (pv 0) de_str (de_ix (or_ix (hu1 hr)) opd_ix (de_ix (or_ix (hu1 hr)) opd_ix (pv 0) de_str) (de_ix (or_ix (hu1 hr)) opd_ix (pv 0) de_str)) rfl))
    (ds_one (ds_setIt (ps_asg (de_op or_add opd_add (de_ix (or_ix (hu1 hr)) opd_ix (pv 0) de_str) de_int) (pg_sub (pv 0) de_str set_list)) (ps_dput (hu1 hr) (pv 0) de_str (de_op or_add opd_add (de_ix (or_ix (hu1 hr)) opd_ix (pv 0) de_str) de_int) rfl)))) ds_nil)
    (ds_cons (ds_if (dt_cmp or_gt opd_ord (de_ix (or_ix (hu1 hr)) opd_ix (pv 0) de_str) de_int (nomark _)) (ds_cons (ds_set (i := 2) (de_op op_mod opd_mod (de_t1 call_int1 opd_toInt rfl G.b_int rfl (de_ix (or_ix (hu1 hr)) opd_ix (pv 0) de_str)) (pv 1)) nd)
    (ds_cons (ds_setIt (ps_asg (de_op op_fdiv opd_div (de_ix (or_ix (hu1 hr)) opd_ix (pv 0) de_str) (pv 1)) (pg_sub (pv 0) de_str set_list)) (ps_dput (hu1 hr) (pv 0) de_str (de_op op_fdiv opd_div (de_ix (or_ix (hu1 hr)) opd_ix (pv 0) de_str) (pv 1)) rfl))
    (ds_one (ds_ret (de_move (pv 2)))))) ds_nil)
    (ds_cons (ds_setIt (ps_asg (de_op or_add opd_add (de_ix (or_ix (hu1 hr)) opd_ix (pv 0) de_str) de_int) (pg_sub (pv 0) de_str set_list)) (ps_dput (hu1 hr) (pv 0) de_str (de_op or_add opd_add (de_ix (or_ix (hu1 hr)) opd_ix (pv 0) de_str) de_int) rfl))
    (ds_cons (ds_set (i := 3) (de_op op_mod opd_mod (de_t1 call_int1 opd_toInt rfl G.b_int rfl (de_op or_add opd_add (de_op op_mul opd_mul (de_ix (or_ix (hu1 hr)) opd_ix (pv 0) de_str) de_int) (de_op op_mul opd_mul (de_ix (or_ix (hu1 hr)) opd_ix (pv 0) de_str) de_int))) de_int) nd)
    (ds_cons (ds_set (i := 3) (de_op op_mod opd_mod (de_t1 call_int1 opd_toInt rfl G.b_int rfl (de_op or_add opd_add (de_op or_add opd_add (de_op op_mul opd_mul (pv 3) (pv 3)) (de_op op_mul opd_mul (de_ix (or_ix (hu1 hr)) opd_ix (pv 0) de_str) de_int)) de_int)) de_int) nd)
    (ds_one (ds_ret (de_op op_mod opd_mod (de_t1 call_int1 opd_toInt rfl G.b_int rfl (pv 3)) (pv 1)))))))))
/-- _law_is_integer -/
theorem w9 {f : Addr} {fd : FuncData} (F : FnP K "_law_is_integer" (top 17) f fd) (G : Gb K w mg) (TB : Tab P w K mg base (k + 2) c) : FnOk P w K mg base (L2.CX P w) (k + 3) f fd p9 (spF K [] 1 (runF [] 1 1 (b9 c))) := by
  have nd := sc9.nd
  let sc := defScope (top 17)
  let N := N9
  exact fn_okD (N := N9) (ps := p9) F sc9 (by decide) (by decide) fun cdv A outer s H E hr =>
    (ds_one (ds_ret (de_and (de_b2 call_isi opd_isi rfl G.b_isinstance rfl (pv 0) (de_ty G.b_int)) (de_one (de_not (de_b2 call_isi opd_isi rfl G.b_isinstance rfl (pv 0) (de_ty G.b_bool)))))))
/-- _law_same_items -/
theorem w10 {f : Addr} {fd : FuncData} (F : FnP K "_law_same_items" (top 18) f fd) (G : Gb K w mg) (TB : Tab P w K mg base (k + 2) c) : FnOk P w K mg base (L2.CX P w) (k + 3) f fd p10 (spF K [] 2 (runF [] 2 3 (b10 c))) := by
  have nd := sc10.nd
  let sc := defScope (top 18)
  let N := N10
  exact fn_okD (N := N10) (ps := p10) F sc10 (by decide) (by decide) fun cdv A outer s H E hr =>
    (ds_cons (ds_if (dt_cmp (or_neS hr.units) opd_neS (de_b1 or_len opd_len rfl G.b_len rfl (pv 0)) (de_b1 or_len opd_len rfl G.b_len rfl (pv 1)) (nomark _)) (ds_one (ds_ret de_bl)) ds_nil)
    (ds_cons (ds_for (passes_of rfl) rfl (di_rng1 rfl G.b_range (de_b1 or_len opd_len rfl G.b_len rfl (pv 1))) (dg_name nd) (ds_one (ds_if (dt_not (dt_tru (de_callK TB.t11 hr (takes_of rfl rfl rfl rfl) (da_cons (de_ix (or_ix (hu1 hr)) opd_ix (pv 0) (pv 2)) (da_cons (de_ix (or_ix (hu1 hr)) opd_ix (pv 1) (pv 2)) da_nil))))) (ds_one (ds_ret de_bl)) ds_nil)))
    (ds_one (ds_ret de_bl))))
/-- _law_same -/
theorem w11 {f : Addr} {fd : FuncData} (F : FnP K "_law_same" (top 19) f fd) (G : Gb K w mg) (TB : Tab P w K mg base (k + 2) c) : FnOk P w K mg base (L2.CX P w) (k + 3) f fd p11 (spF K [] 2 (runF [] 2 3 (b11 c))) := by
  have nd := sc11.nd
  let sc := defScope (top 19)
  let N := N11
  exact fn_okD (N := N11) (ps := p11) F sc11 (by decide) (by decide) fun cdv A outer s H E hr =>
    (ds_cons (ds_if (dt_cmp op_isN opd_isN (pv 1) de_non (nomark _)) (ds_one (ds_ret (de_cmp op_isN opd_isN (pv 0) de_non (nomark _)))) ds_nil)
    (ds_cons (ds_if (dt_tru (de_b2 call_isi opd_isi rfl G.b_isinstance rfl (pv 1) (de_ty G.b_bool))) (ds_one (ds_ret (de_and (de_b2 call_isi opd_isi rfl G.b_isinstance rfl (pv 0) (de_ty G.b_bool)) (de_one (de_cmp (or_eqS hr.units) opd_eqS (pv 0) (pv 1) (nomark _)))))) ds_nil)
    (ds_cons (ds_if (dt_tru (de_b2 call_isi opd_isi rfl G.b_isinstance rfl (pv 1) (de_ty G.b_int))) (ds_one (ds_ret (de_and (de_callK TB.t9 hr (takes_of rfl rfl rfl rfl) (da_cons (de_var (pv 0)) da_nil)) (de_one (de_cmp (or_eqS hr.units) opd_eqS (pv 0) (pv 1) (nomark _)))))) ds_nil)
    (ds_cons (ds_if (dt_tru (de_b2 call_isi opd_isi rfl G.b_isinstance rfl (pv 1) (de_ty G.b_str))) (ds_one (ds_ret (de_and (de_b2 call_isi opd_isi rfl G.b_isinstance rfl (pv 0) (de_ty G.b_str)) (de_one (de_cmp (or_eqS hr.units) opd_eqS (pv 0) (pv 1) (nomark _)))))) ds_nil)
    (ds_cons (ds_if (dt_tru (de_b2 call_isi opd_isi rfl G.b_isinstance rfl (pv 1) (de_ty G.b_tuple))) (ds_one (ds_ret (de_and (de_b2 call_isi opd_isi rfl G.b_isinstance rfl (pv 0) (de_ty G.b_tuple)) (de_one (de_callK TB.t10 hr (takes_of rfl rfl rfl rfl) (da_cons (de_var (pv 0)) (da_cons (de_var (pv 1)) da_nil))))))) ds_nil)
    (ds_cons (ds_if (dt_tru (de_b2 call_isi opd_isi rfl G.b_isinstance rfl (pv 1) (de_ty G.b_list))) (ds_one (ds_ret (de_and (de_b2 call_isi opd_isi rfl G.b_isinstance rfl (pv 0) (de_ty G.b_list)) (de_one (de_callK TB.t10 hr (takes_of rfl rfl rfl rfl) (da_cons (de_var (pv 0)) (da_cons (de_var (pv 1)) da_nil))))))) ds_nil)
    (ds_cons (ds_if (dt_w (dw_or (dt_not (dt_tru (de_b2 call_isi opd_isi rfl G.b_isinstance rfl (pv 0) (de_ty G.b_dict)))) (dw_or1 (dt_cmp (or_neS hr.units) opd_neS (de_b1 or_len opd_len rfl G.b_len rfl (pv 0)) (de_b1 or_len opd_len rfl G.b_len rfl (pv 1)) (nomark _))))) (ds_one (ds_ret de_bl)) ds_nil)
    (ds_cons (ds_for (passes_of rfl) rfl (di_it (de_var (pv 1))) (dg_name nd) (ds_one (ds_if (dt_w (dw_or (dt_cmp (or_notin (hu65 hr)) opd_in (pv 2) (pv 0) (by with_unfolding_all rfl)) (dw_or1 (dt_not (dt_tru (de_callK TB.t11 hr (takes_of rfl rfl rfl rfl) (da_cons (de_ix (or_ix (hu1 hr)) opd_ix (pv 0) (pv 2)) (da_cons (de_ix (or_ix (hu1 hr)) opd_ix (pv 1) (pv 2)) da_nil)))))))) (ds_one (ds_ret de_bl)) ds_nil)))
    (ds_cons (ds_for (passes_of rfl) rfl (di_it (de_var (pv 0))) (dg_name nd) (ds_one (ds_if (dt_tru (de_b2 call_isi opd_isi rfl G.b_isinstance rfl (pv 2) (de_ty G.b_bool))) (ds_one (ds_ret de_bl)) ds_nil)))
    (ds_one (ds_ret de_bl)))))))))))
/-- _law_shape_ok -/
theorem w12 {f : Addr} {fd : FuncData} (F : FnP K "_law_shape_ok" (top 20) f fd) (G : Gb K w mg) (TB : Tab P w K mg base (k + 2) c) : FnOk P w K mg base (L2.CX P w) (k + 3) f fd p12 (spF K [] 3 (runF [] 3 9 (b12 c))) := by
  have nd := sc12.nd
  let sc := defScope (top 20)
  let N := N12
  exact fn_okD (N := N12) (ps := p12) F sc12 (by decide) (by decide) fun cdv A outer s H E hr =>
    (ds_cons (ds_set (i := 3) (dm_disp (pe_disp (pps_cons de_str de_str (pps_cons de_str de_str (pps_cons de_str de_str (pps_cons de_str de_str (pps_cons de_str de_str (pps_cons de_str de_str (pps_cons de_str de_str (pps_cons de_str de_str (pps_cons de_str de_str pps_nil))))))))) rfl rfl (List.cons_ne_nil _ _) (by decide))) nd)
    (ds_cons (ds_set (i := 4) (dm_disp (pe_disp (pps_cons de_str de_str (pps_cons de_str de_str (pps_cons de_str de_str (pps_cons de_str de_str (pps_cons de_str de_str (pps_cons de_str de_str (pps_cons de_str de_str (pps_cons de_str de_str (pps_cons de_str de_str pps_nil))))))))) rfl rfl (List.cons_ne_nil _ _) (by decide))) nd)
    (ds_cons (ds_set (i := 5) (dm_dget (pe_dget2 (hu1 hr) (pv 3) (de_ix (or_ix (hu1 hr)) opd_ix (pv 1) de_int) (dm_dget1 (pe_dget1 (hu1 hr) (pv 4) (de_ix (or_ix (hu1 hr)) opd_ix (pv 1) de_int) ⟨rfl, rfl, rfl, rfl⟩)) ⟨rfl, rfl, rfl, rfl⟩)) nd)
    (ds_cons (ds_if (dt_w (dw_or (dt_cmp op_isN opd_isN (pv 5) de_non (nomark _)) (dw_or1 (dt_cmp (or_neS hr.units) opd_neS (de_b1 or_len opd_len rfl G.b_len rfl (pv 1)) (de_op or_add opd_add (de_b1 or_len opd_len rfl G.b_len rfl (pv 5)) de_int) (nomark _))))) (ds_one (ds_ret de_bl)) ds_nil)
    (ds_cons (ds_for (passes_of rfl) rfl (di_rng1 rfl G.b_range (de_b1 or_len opd_len rfl G.b_len rfl (pv 5))) (dg_name nd) (ds_cons (ds_set (i := 7) (de_ix (or_ix (hu1 hr)) opd_ix (pv 1) (de_op or_add opd_add (pv 6) de_int)) nd)
    (ds_cons (ds_set (i := 8) (de_and (de_b2 call_isi opd_isi rfl G.b_isinstance rfl (pv 7) (de_ty G.b_int)) (de_one (de_not (de_b2 call_isi opd_isi rfl G.b_isinstance rfl (pv 7) (de_ty G.b_bool))))) nd)
    (ds_cons (ds_if (dt_w (dw_or (dt_w (dw_and (dt_cmp (or_eqS hr.units) opd_eqS (de_ix (or_ix (hu1 hr)) opd_ix (pv 5) (pv 6)) de_str (nomark _)) (dw_and1 (dt_not (dt_w (dw_and (dt_tru (pv 8)) (dw_and1 (dt_chain or_le or_lt opd_ord opd_ord de_int (de_var (pv 7)) de_int)))))))) (dw_or1 (dt_w (dw_and (dt_cmp (or_eqS hr.units) opd_eqS (de_ix (or_ix (hu1 hr)) opd_ix (pv 5) (pv 6)) de_str (nomark _)) (dw_and1 (dt_not (dt_w (dw_and (dt_tru (pv 8)) (dw_and1 (dt_chain or_le or_lt opd_ord opd_ord de_int (de_var (pv 7)) (de_var (pv 2))))))))))))) (ds_one (ds_ret de_bl)) ds_nil)
    (ds_cons (ds_if (dt_w (dw_or (dt_w (dw_and (dt_cmp (or_in (hu65 hr)) opd_in (de_ix (or_ix (hu1 hr)) opd_ix (pv 5) (pv 6)) de_str (by with_unfolding_all rfl)) (dw_and1 (dt_not (dt_tru (de_b2 call_isi opd_isi rfl G.b_isinstance rfl (pv 7) (de_ty G.b_str))))))) (dw_or1 (dt_w (dw_and (dt_cmp (or_eqS hr.units) opd_eqS (de_ix (or_ix (hu1 hr)) opd_ix (pv 5) (pv 6)) de_str (nomark _)) (dw_and1 (dt_cmp (or_notin (hu65 hr)) opd_in (pv 7) (pv 0) (by with_unfolding_all rfl)))))))) (ds_one (ds_ret de_bl)) ds_nil)
    (ds_one (ds_if (dt_w (dw_or (dt_w (dw_and (dt_cmp (or_eqS hr.units) opd_eqS (de_ix (or_ix (hu1 hr)) opd_ix (pv 5) (pv 6)) de_str (nomark _)) (dw_and1 (dt_cmp (or_notin (hu65 hr)) opd_in (pv 7) (de_lst (da_cons de_str (da_cons de_str da_nil))) (by with_unfolding_all rfl))))) (dw_or1 (dt_w (dw_and (dt_cmp (or_eqS hr.units) opd_eqS (de_ix (or_ix (hu1 hr)) opd_ix (pv 5) (pv 6)) de_str (nomark _)) (dw_and1 (dt_not (dt_tru (de_callK TB.t13 hr (takes_of rfl rfl rfl rfl) (da_cons (de_var (pv 7)) (da_cons (de_var (pv 2)) da_nil))))))))))) (ds_one (ds_ret de_bl)) ds_nil)))))))
    (ds_one (ds_ret de_bl)))))))
/-- _law_choices_ok -/
theorem w13 {f : Addr} {fd : FuncData} (F : FnP K "_law_choices_ok" (top 21) f fd) (G : Gb K w mg) (TB : Tab P w K mg base (k + 2) c) : FnOk P w K mg base (L2.CX P w) (k + 3) f fd p13 (spF K [] 2 (runF [] 2 5 (b13 c))) := by
  have nd := sc13.nd
  let sc := defScope (top 21)
  let N := N13
  exact fn_okD (N := N13) (ps := p13) F sc13 (by decide) (by decide) fun cdv A outer s H E hr =>
    (ds_cons (ds_if (dt_w (dw_or (dt_not (dt_tru (de_b2 call_isi opd_isi rfl G.b_isinstance rfl (pv 0) (de_ty G.b_tuple)))) (dw_or1 (dt_cmp (or_eqS hr.units) opd_eqS (pv 0) (de_tup da_nil) (nomark _))))) (ds_one (ds_ret de_bl)) ds_nil)
    (ds_cons (ds_for (passes_of rfl) rfl (di_it (de_var (pv 0))) (dg_name nd) (ds_cons (ds_if (dt_w (dw_or (dt_not (dt_tru (de_b2 call_isi opd_isi rfl G.b_isinstance rfl (pv 2) (de_ty G.b_tuple)))) (dw_or (dt_cmp (or_neS hr.units) opd_neS (de_b1 or_len opd_len rfl G.b_len rfl (pv 2)) de_int (nomark _)) (dw_or (dt_not (dt_tru (de_b2 call_isi opd_isi rfl G.b_isinstance rfl (de_ix (or_ix (hu1 hr)) opd_ix (pv 2) de_int) (de_ty G.b_str)))) (dw_or1 (dt_not (dt_tru (de_b2 call_isi opd_isi rfl G.b_isinstance rfl (de_ix (or_ix (hu1 hr)) opd_ix (pv 2) de_int) (de_ty G.b_str))))))))) (ds_one (ds_ret de_bl)) ds_nil)
    (ds_one (ds_if (dt_w (dw_or (dt_not (dt_tru (de_b2 call_isi opd_isi rfl G.b_isinstance rfl (de_ix (or_ix (hu1 hr)) opd_ix (pv 2) de_int) (de_ty G.b_int)))) (dw_or (dt_tru (de_b2 call_isi opd_isi rfl G.b_isinstance rfl (de_ix (or_ix (hu1 hr)) opd_ix (pv 2) de_int) (de_ty G.b_bool))) (dw_or1 (dt_not (dt_chain or_le or_lt opd_ord opd_ord de_int (de_ix (or_ix (hu1 hr)) opd_ix (pv 2) de_int) (de_var (pv 1)))))))) (ds_one (ds_ret de_bl)) ds_nil))))
    (ds_cons (ds_set (i := 3) (dm_comp (pe_lc (own := [("_law_one", 2)]) (g := gT _ (.nm 2)) rfl nd (di_it (de_var (pv 0))) (blkOk_by (own := [("_law_one", 2)]) (N := N) (sc := sc) (by decide +kernel)) (fun _ _ _ _ _ => (dg_name nd)) (fun _ _ _ _ _ => dts_nil) (fun _ _ _ _ _ => (de_ix (or_ix (hu1 hr)) opd_ix (pv 2) de_int)))) nd)
    (ds_one (ds_ret (de_and (de_cmp (or_eqS hr.units) opd_eqS (pv 3) (de_b1 cr_sortedS opd_sorted rfl G.b_sorted rfl (pv 3)) (nomark _)) (de_one (de_cmp (or_eqS hr.units) opd_eqS (de_b1 or_len opd_len rfl G.b_len rfl (dm_comp (pe_lc (own := [("_law_k", 4)]) (g := gT _ (.nm 4)) rfl nd (di_rng1 rfl G.b_range (de_b1 or_len opd_len rfl G.b_len rfl (pv 3))) (blkOk_by (own := [("_law_k", 4)]) (N := N) (sc := sc) (by decide +kernel)) (fun _ _ _ _ _ => (dg_name nd)) (fun _ _ _ _ _ => (pts_one (dt_cmp (or_in (hu65 hr)) opd_in (de_ix (or_ix (hu1 hr)) opd_ix (pv 3) (pv 4)) (de_slice (pv 3) pod_none (pod_some (pv 4))) (by with_unfolding_all rfl)))) (fun _ _ _ _ _ => (de_var (pv 4)))))) de_int (nomark _)))))))))
/-- _law_moves -/
theorem w14 {f : Addr} {fd : FuncData} (F : FnP K "_law_moves" (top 22) f fd) (G : Gb K w mg) (TB : Tab P w K mg base (k + 2) c) : FnOk P w K mg base (L2.CX P w) (k + 3) f fd p14 (spF K [] 2 (runF [] 2 5 (b14 c))) := by
  have nd := sc14.nd
  let sc := defScope (top 22)
  let N := N14
  exact fn_okD (N := N14) (ps := p14) F sc14 (by decide) (by decide) fun cdv A outer s H E hr =>
    (ds_cons (ds_set (i := 2) (de_ix (or_ix (hu1 hr)) opd_ix (pv 0) (pv 1)) nd)
    (ds_cons (ds_if (dt_cmp (or_eqS hr.units) opd_eqS (de_ix (or_ix (hu1 hr)) opd_ix (pv 2) de_int) de_str (nomark _)) (ds_one (ds_ret (de_lst da_nil))) ds_nil)
    (ds_cons (ds_if (dt_cmp (or_eqS hr.units) opd_eqS (de_ix (or_ix (hu1 hr)) opd_ix (pv 2) de_int) de_str (nomark _)) (ds_one (ds_ret (de_lst (da_cons (de_tup (da_cons (de_ix (or_ix (hu1 hr)) opd_ix (pv 2) de_int) (da_cons de_bl da_nil))) da_nil)))) ds_nil)
    (ds_cons (ds_if (dt_cmp (or_eqS hr.units) opd_eqS (de_ix (or_ix (hu1 hr)) opd_ix (pv 2) de_int) de_str (nomark _)) (ds_one (ds_ret (dm_comp (pe_lc (own := [("_law_choice", 4)]) (g := gT _ (.nm 4)) rfl nd (di_it (de_ix (or_ix (hu1 hr)) opd_ix (pv 2) de_int)) (blkOk_by (own := [("_law_choice", 4)]) (N := N) (sc := sc) (by decide +kernel)) (fun _ _ _ _ _ => (dg_name nd)) (fun _ _ _ _ _ => dts_nil) (fun _ _ _ _ _ => (de_tup (da_cons (de_ix (or_ix (hu1 hr)) opd_ix (pv 4) de_int) (da_cons de_bl da_nil)))))))) ds_nil)
    (ds_cons (ds_set (i := 3) (de_lst (da_cons (de_tup (da_cons (de_op or_add opd_add (pv 1) de_int) (da_cons (de_cmp (or_in (hu65 hr)) opd_in (de_ix (or_ix (hu1 hr)) opd_ix (pv 2) de_int) (de_lst (da_cons de_str (da_cons de_str (da_cons de_str (da_cons de_str (da_cons de_str (da_cons de_str da_nil))))))) (by with_unfolding_all rfl)) da_nil))) da_nil)) nd)
    (ds_cons (ds_if (dt_cmp (or_eqS hr.units) opd_eqS (de_ix (or_ix (hu1 hr)) opd_ix (pv 2) de_int) de_str (nomark _)) (ds_one (ds_expr (dm_grow (pe_bm PySem.F.plainAttrs_list PySem.F.slot_list_append PySem.F.type_list_append mt_append (pv 3) (pa_cons (de_tup (da_cons (de_ix (or_ix (hu1 hr)) opd_ix (pv 2) de_int) (da_cons de_bl da_nil))) pa_nil)) grow_app))) ds_nil)
    (ds_cons (ds_if (dt_cmp (or_eqS hr.units) opd_eqS (de_ix (or_ix (hu1 hr)) opd_ix (pv 2) de_int) de_str (nomark _)) (ds_one (ds_expr (dm_grow (pe_bm PySem.F.plainAttrs_list PySem.F.slot_list_append PySem.F.type_list_append mt_append (pv 3) (pa_cons (de_tup (da_cons (de_ix (or_ix (hu1 hr)) opd_ix (pv 2) de_int) (da_cons de_bl da_nil))) pa_nil)) grow_app))) ds_nil)
    (ds_one (ds_ret (de_move (pv 3)))))))))))
/-- _law_sound -/
theorem w15 {f : Addr} {fd : FuncData} (F : FnP K "_law_sound" (top 23) f fd) (G : Gb K w mg) (TB : Tab P w K mg base (k + 2) c) : FnOk P w K mg base (L2.CX P w) (k + 3) f fd p15 (spF K [] 2 (runF [] 2 15 (b15 c))) := by
  have nd := sc15.nd
  let sc := defScope (top 23)
  let N := N15
  exact fn_okD (N := N15) (ps := p15) F sc15 (by decide) (by decide) fun cdv A outer s H E hr =>
    (ds_cons (ds_if (dt_w (dw_or (dt_cmp (or_eqS hr.units) opd_eqS (pv 1) (de_tup da_nil) (nomark _)) (dw_or1 (dt_cmp (or_neS hr.units) opd_neS (dm_comp (pe_lc (own := [("_law_one", 14)]) (g := gT _ (.nm 14)) rfl nd (di_it (de_var (pv 1))) (blkOk_by (own := [("_law_one", 14)]) (N := N) (sc := sc) (by decide +kernel)) (fun _ _ _ _ _ => (dg_name nd)) (fun _ _ _ _ _ => (pts_one (dt_not (dt_tru (de_callK TB.t12 hr takes0 (da_cons (de_var (pv 0)) (da_cons (de_var (pv 14)) (da_cons (de_b1 or_len opd_len rfl G.b_len rfl (pv 1)) da_nil)))))))) (fun _ _ _ _ _ => (de_var (pv 14))))) (de_lst da_nil) (nomark _))))) (ds_one (ds_ret de_bl)) ds_nil)
    (ds_cons (ds_set (i := 2) (dm_disp (pe_disp (pps_cons de_str de_int (pps_cons de_str de_int (pps_cons de_str de_int (pps_cons de_str de_int (pps_cons de_str de_int (pps_cons de_str de_int (pps_cons de_str de_int (pps_cons de_str de_int pps_nil)))))))) rfl rfl (List.cons_ne_nil _ _) (by decide))) nd)
    (ds_cons (ds_set (i := 3) (dm_disp (pe_disp (pps_cons de_str de_int (pps_cons de_str de_int (pps_cons de_str de_int (pps_cons de_str de_int (pps_cons de_str de_int (pps_cons de_str de_int (pps_cons de_str de_int pps_nil))))))) rfl rfl (List.cons_ne_nil _ _) (by decide))) nd)
    (ds_cons (ds_set (i := 4) (dm_disp (pe_disp (pps_cons de_int de_int pps_nil) rfl rfl (List.cons_ne_nil _ _) (by decide))) nd)
    (ds_cons (ds_set (i := 5) (de_lst (da_cons de_int da_nil)) nd)
    (ds_cons (ds_while (passes_of rfl) (dt_cmp (or_neS hr.units) opd_neS (pv 5) (de_lst da_nil) (nomark _)) (ds_cons (ds_set (i := 6) (dm_pop (pe_bm0 PySem.F.plainAttrs_list PySem.F.slot_list_pop PySem.F.type_list_pop mt_pop (pv 5))) nd)
    (ds_cons (ds_set (i := 7) (de_ix (or_ix (hu1 hr)) opd_ix (de_ix (or_ix (hu1 hr)) opd_ix (pv 1) (pv 6)) de_int) nd)
    (ds_cons (ds_set (i := 8) (de_op op_sub opd_int0 (de_ix (or_ix (hu1 hr)) opd_ix (pv 4) (pv 6)) (dm_dget (pe_dget2 (hu1 hr) (pv 2) (de_var (pv 7)) de_int ⟨rfl, rfl, rfl, rfl⟩))) nd)
    (ds_cons (ds_if (dt_w (dw_or (dt_cmp or_lt opd_ord (pv 8) de_int (nomark _)) (dw_or1 (dt_w (dw_and (dt_cmp (or_in (hu65 hr)) opd_in (pv 7) (de_lst (da_cons de_str (da_cons de_str da_nil))) (by with_unfolding_all rfl)) (dw_and1 (dt_cmp (or_neS hr.units) opd_neS (de_ix (or_ix (hu1 hr)) opd_ix (pv 4) (pv 6)) de_int (nomark _)))))))) (ds_one (ds_ret de_bl)) ds_nil)
    (ds_cons (ds_set (i := 8) (de_op or_add opd_add (pv 8) (dm_dget (pe_dget2 (hu1 hr) (pv 3) (de_var (pv 7)) de_int ⟨rfl, rfl, rfl, rfl⟩))) nd)
    (ds_one (ds_for (passes_of rfl) rfl (di_it (de_callK TB.t14 hr (takes_of rfl rfl rfl rfl) (da_cons (de_var (pv 1)) (da_cons (de_var (pv 6)) da_nil)))) (dg_tup rfl (dgs_cons (dg_name nd) (dgs_cons (dg_name nd) dgs_nil))) (ds_cons (ds_if (dt_w (dw_or (dt_cmp or_ge opd_ord (pv 9) (de_b1 or_len opd_len rfl G.b_len rfl (pv 1)) (nomark _)) (dw_or (dt_cmp or_gt opd_ord (pv 8) de_int (nomark _)) (dw_or1 (dt_cmp (or_neS hr.units) opd_neS (dm_dget (pe_dget2 (hu1 hr) (pv 4) (de_var (pv 9)) (de_var (pv 8)) ⟨rfl, rfl, rfl, rfl⟩)) (pv 8) (nomark _)))))) (ds_one (ds_ret de_bl)) ds_nil)
    (ds_one (ds_if (dt_cmp (or_notin (hu65 hr)) opd_in (pv 9) (pv 4) (by with_unfolding_all rfl)) (ds_cons (ds_setIt (ps_asg (de_var (pv 8)) (pg_sub (pv 4) (de_var (pv 9)) set_list)) (ps_dput (hu1 hr) (pv 4) (de_var (pv 9)) (de_var (pv 8)) rfl))
    (ds_one (ds_expr (dm_grow (pe_bm PySem.F.plainAttrs_list PySem.F.slot_list_append PySem.F.type_list_append mt_append (pv 5) (pa_cons (de_var (pv 9)) pa_nil)) grow_app)))) ds_nil)))))))))))
    (ds_cons (ds_lock (i := 4) (ds_for (passes_of rfl) rfl (di_keys (pv 4)) (dg_name nd) (ds_cons (ds_set (i := 12) (de_lst (da_cons (de_var (pv 11)) da_nil)) nd)
    (ds_cons (ds_set (i := 13) de_int nd)
    (ds_one (ds_while (passes_of rfl) (dt_cmp or_lt opd_ord (pv 13) (de_b1 or_len opd_len rfl G.b_len rfl (pv 12)) (nomark _)) (ds_cons (ds_for (passes_of rfl) rfl (di_it (de_callK TB.t14 hr (takes_of rfl rfl rfl rfl) (da_cons (de_var (pv 1)) (da_cons (de_ix (or_ix (hu1 hr)) opd_ix (pv 12) (pv 13)) da_nil)))) (dg_tup rfl (dgs_cons (dg_name nd) (dgs_cons (dg_name nd) dgs_nil))) (ds_cons (ds_if (dt_w (dw_and (dt_not (dt_tru (pv 10))) (dw_and1 (dt_cmp (or_eqS hr.units) opd_eqS (pv 9) (pv 11) (nomark _))))) (ds_one (ds_ret de_bl)) ds_nil)
    (ds_one (ds_if (dt_w (dw_and (dt_not (dt_tru (pv 10))) (dw_and1 (dt_cmp (or_notin (hu65 hr)) opd_in (pv 9) (pv 12) (by with_unfolding_all rfl))))) (ds_one (ds_expr (dm_grow (pe_bm PySem.F.plainAttrs_list PySem.F.slot_list_append PySem.F.type_list_append mt_append (pv 12) (pa_cons (de_var (pv 9)) pa_nil)) grow_app))) ds_nil))))
    (ds_one (ds_set (i := 13) (de_op or_add opd_add (pv 13) de_int) nd)))))))))
    (ds_one (ds_ret de_bl)))))))))
/-- _law_instruction -/
theorem w16 {f : Addr} {fd : FuncData} (F : FnP K "_law_instruction" (top 24) f fd) (G : Gb K w mg) (TB : Tab P w K mg base (k + 2) c) : FnOk P w K mg base (L2.CX P w) (k + 3) f fd p16 (spF K [0] 2 (runF [0] 2 10 (b16 c))) := by
  have nd := sc16.nd
  let sc := defScope (top 24)
  let N := N16
  exact fn_okD (N := N16) (ps := p16) F sc16 (by decide) (by decide) fun cdv A outer s H E hr =>
    (ds_cons (ds_set (i := 2) (de_op op_sub opd_int0 (de_callK TB.t8 hr (takes_of rfl rfl rfl rfl) (da_cons (pv 0) (da_cons (de_op or_add opd_add (pv 1) de_int) da_nil))) (de_ite (dt_cmp (or_eqS hr.units) opd_eqS (de_callK TB.t8 hr (takes_of rfl rfl rfl rfl) (da_cons (pv 0) (da_cons de_int da_nil))) de_int (nomark _)) de_int de_int)) nd)
    (ds_cons (ds_set (i := 3) (de_ix (or_ix (hu1 hr)) opd_ix (de_lst (da_cons de_str (da_cons de_str da_nil))) (de_callK TB.t8 hr (takes_of rfl rfl rfl rfl) (da_cons (pv 0) (da_cons de_int da_nil)))) nd)
    (ds_cons (ds_set (i := 4) (de_ix (or_ix (hu1 hr)) opd_ix (de_lst (da_cons de_int (da_cons de_int (da_cons de_int (da_cons de_int (da_cons (de_op op_sub opd_int0 de_int de_int) da_nil)))))) (de_op op_fdiv opd_div (de_callK TB.t8 hr (takes_of rfl rfl rfl rfl) (da_cons (pv 0) (da_cons de_int da_nil))) de_int)) nd)
    (ds_cons (ds_set (i := 5) (de_ix (or_ix (hu1 hr)) opd_ix (de_lst (da_cons de_str (da_cons de_str (da_cons de_str da_nil)))) (de_op op_fdiv opd_div (de_callK TB.t8 hr (takes_of rfl rfl rfl rfl) (da_cons (pv 0) (da_cons de_int da_nil))) de_int)) nd)
    (ds_cons (ds_set (i := 6) (de_tup (da_cons (de_tup (da_cons de_str (da_cons de_str (da_cons (de_var (pv 2)) da_nil)))) (da_cons (de_tup (da_cons de_str (da_cons de_str (da_cons (de_callK TB.t8 hr (takes_of rfl rfl rfl rfl) (da_cons (pv 0) (da_cons (de_var (pv 1)) da_nil))) da_nil)))) da_nil))) nd)
    (ds_cons (ds_set (i := 7) (de_ix (or_ix (hu1 hr)) opd_ix (de_lst (da_cons (de_var (pv 6)) (da_cons (de_slice (pv 6) pod_none (pod_some de_int)) (da_cons (de_var (pv 6)) (da_cons (de_revT (pv 6)) (da_cons (de_tup da_nil) (da_cons (de_op or_add opd_add (pv 6) (de_slice (pv 6) (pod_some de_int) pod_none)) da_nil))))))) (de_op op_fdiv opd_div (de_callK TB.t8 hr (takes_of rfl rfl rfl rfl) (da_cons (pv 0) (da_cons de_int da_nil))) de_int)) nd)
    (ds_cons (ds_set (i := 8) (de_ix (or_ix (hu1 hr)) opd_ix (de_lst (da_cons de_str (da_cons de_str (da_cons de_str da_nil)))) (de_op op_fdiv opd_div (de_callK TB.t8 hr (takes_of rfl rfl rfl rfl) (da_cons (pv 0) (da_cons de_int da_nil))) de_int)) nd)
    (ds_cons (ds_set (i := 9) (de_lst (da_cons (de_tup (da_cons de_str (da_cons (de_var (pv 4)) da_nil))) (da_cons (de_tup (da_cons de_str (da_cons (de_var (pv 3)) da_nil))) (da_cons (de_tup (da_cons de_str (da_cons (de_var (pv 3)) da_nil))) (da_cons (de_tup (da_cons de_str da_nil)) (da_cons (de_tup (da_cons de_str da_nil)) (da_cons (de_tup (da_cons de_str (da_cons (de_var (pv 2)) da_nil))) (da_cons (de_tup (da_cons de_str (da_cons (de_var (pv 2)) da_nil))) da_nil)))))))) nd)
    (ds_cons (ds_set (i := 9) (de_op or_add opd_add (pv 9) (de_lst (da_cons (de_tup (da_cons de_str (da_cons (de_var (pv 5)) (da_cons de_str da_nil)))) (da_cons (de_tup (da_cons de_str (da_cons (de_var (pv 5)) (da_cons (de_var (pv 7)) da_nil)))) (da_cons (de_tup (da_cons de_str (da_cons (de_var (pv 3)) da_nil))) (da_cons (de_tup (da_cons de_str (da_cons de_int (da_cons (de_var (pv 2)) da_nil)))) (da_cons (de_tup (da_cons de_str (da_cons de_int da_nil))) (da_cons (de_tup (da_cons de_str (da_cons de_int da_nil))) da_nil)))))))) nd)
    (ds_cons (ds_set (i := 9) (de_op or_add opd_add (pv 9) (de_lst (da_cons (de_tup (da_cons de_str (da_cons (de_var (pv 8)) da_nil))) (da_cons (de_tup (da_cons de_str da_nil)) (da_cons (de_tup (da_cons de_str (da_cons de_int da_nil))) (da_cons (de_tup (da_cons de_str (da_cons (de_var (pv 3)) da_nil))) (da_cons (de_tup (da_cons de_str da_nil)) (da_cons (de_tup (da_cons de_str da_nil)) (da_cons (de_tup (da_cons de_str da_nil)) da_nil))))))))) nd)
    (ds_one (ds_ret (de_ix (or_ix (hu1 hr)) opd_ix (pv 9) (de_callK TB.t8 hr (takes_of rfl rfl rfl rfl) (da_cons (pv 0) (da_cons de_int da_nil))))))))))))))))
/-- _law_pattern -/
theorem w17 {f : Addr} {fd : FuncData} (F : FnP K "_law_pattern" (top 25) f fd) (G : Gb K w mg) (TB : Tab P w K mg base (k + 2) c) : FnOk P w K mg base (L2.CX P w) (k + 3) f fd p17 (spF K [0] 3 (runF [0] 3 5 (b17 c))) := by
  have nd := sc17.nd
  let sc := defScope (top 25)
  let N := N17
  exact fn_okD (N := N17) (ps := p17) F sc17 (by decide) (by decide) fun cdv A outer s H E hr =>
    (ds_cons (ds_set (i := 3) (de_callK TB.t8 hr (takes_of rfl rfl rfl rfl) (da_cons (pv 0) (da_cons de_int da_nil))) nd)
    (ds_cons (ds_set (i := 4) (de_callK TB.t8 hr (takes_of rfl rfl rfl rfl) (da_cons (pv 0) (da_cons (de_var (pv 2)) da_nil))) nd)
    (ds_cons (ds_if (dt_cmp (or_eqS hr.units) opd_eqS (pv 3) de_int (nomark _)) (ds_one (ds_ret (de_lst (da_cons (de_tup (da_cons de_str (da_cons de_int da_nil))) (da_cons (de_tup (da_cons de_str (da_cons de_str da_nil))) da_nil))))) ds_nil)
    (ds_cons (ds_if (dt_cmp (or_eqS hr.units) opd_eqS (pv 3) de_int (nomark _)) (ds_one (ds_ret (de_lst (da_cons (de_tup (da_cons de_str (da_cons de_str da_nil))) (da_cons (de_tup (da_cons de_str (da_cons de_int da_nil))) (da_cons (de_tup (da_cons de_str da_nil)) (da_cons (de_tup (da_cons de_str (da_cons de_str (da_cons de_str da_nil)))) da_nil))))))) ds_nil)
    (ds_cons (ds_if (dt_cmp (or_eqS hr.units) opd_eqS (pv 3) de_int (nomark _)) (ds_one (ds_ret (de_lst (da_cons (de_tup (da_cons de_str (da_cons de_int (da_cons (de_var (pv 4)) da_nil)))) (da_cons (de_tup (da_cons de_str (da_cons de_str da_nil))) (da_cons (de_tup (da_cons de_str (da_cons (de_var (pv 4)) da_nil))) (da_cons (de_tup (da_cons de_str (da_cons de_int da_nil))) da_nil))))))) ds_nil)
    (ds_cons (ds_if (dt_cmp (or_eqS hr.units) opd_eqS (pv 3) de_int (nomark _)) (ds_one (ds_ret (de_lst (da_cons (de_tup (da_cons de_str (da_cons de_str da_nil))) (da_cons (de_tup (da_cons de_str (da_cons (de_var (pv 4)) da_nil))) da_nil))))) ds_nil)
    (ds_cons (ds_if (dt_cmp (or_eqS hr.units) opd_eqS (pv 3) de_int (nomark _)) (ds_one (ds_ret (de_lst (da_cons (de_tup (da_cons de_str (da_cons de_str (da_cons (de_tup (da_cons (de_tup (da_cons de_str (da_cons de_str (da_cons (de_var (pv 4)) da_nil)))) (da_cons (de_tup (da_cons de_str (da_cons de_str (da_cons (de_var (pv 1)) da_nil)))) da_nil))) da_nil)))) da_nil)))) ds_nil)
    (ds_one (ds_ret (de_lst (da_cons (de_callK TB.t16 hr (takes_of rfl rfl rfl rfl) (da_cons (pv 0) (da_cons (de_var (pv 2)) da_nil))) da_nil)))))))))))
/-- law -/
theorem w18 {f : Addr} {fd : FuncData} (F : FnP K "law" (top 26) f fd) (G : Gb K w mg) (TB : Tab P w K mg base (k + 2) c) : FnOk P w K mg base (L2.CX P w) (k + 3) f fd p18 (spF K [] 1 (runF [] 1 5 (b18 c))) := by
  have nd := sc18.nd
  let sc := defScope (top 26)
  let N := N18
  exact fn_okD (N := N18) (ps := p18) F sc18 (by decide) (by decide) fun cdv A outer s H E hr =>
    (ds_cons (ds_set (i := 1) (de_callK TB.t7 hr (takes_of rfl rfl rfl rfl) (da_cons (de_var (pv 0)) da_nil)) nd)
    (ds_cons (ds_for (passes_of rfl) rfl (di_rng1 rfl G.b_range de_int) (dg_name nd) (ds_cons (ds_set (i := 3) (de_op or_add opd_add de_int (de_callK TB.t8 hr (takes_of rfl rfl rfl rfl) (da_cons (pv 1) (da_cons de_int da_nil)))) nd)
    (ds_cons (ds_set (i := 4) (de_lst da_nil) nd)
    (ds_cons (ds_while (passes_of rfl) (dt_cmp or_lt opd_ord (de_b1 or_len opd_len rfl G.b_len rfl (pv 4)) (pv 3) (nomark _)) (ds_one (ds_if (dt_cmp or_gt opd_ord (de_callK TB.t8 hr (takes_of rfl rfl rfl rfl) (da_cons (pv 1) (da_cons de_int da_nil))) de_int (nomark _)) (ds_one (ds_set (i := 4) (de_op or_add opd_add (pv 4) (de_callK TB.t17 hr (takes_of rfl rfl rfl rfl) (da_cons (pv 1) (da_cons (de_b1 or_len opd_len rfl G.b_len rfl (pv 4)) (da_cons (de_var (pv 3)) da_nil))))) nd)) (ds_one (ds_expr (dm_grow (pe_bm PySem.F.plainAttrs_list PySem.F.slot_list_append PySem.F.type_list_append mt_append (pv 4) (pa_cons (de_callK TB.t16 hr (takes_of rfl rfl rfl rfl) (da_cons (pv 1) (da_cons (de_var (pv 3)) da_nil))) pa_nil)) grow_app))))))
    (ds_cons (ds_set (i := 4) (de_t1 call_tuple_of opd_toTup rfl G.b_tuple rfl (de_slice (pv 4) pod_none (pod_some (pv 3)))) nd)
    (ds_cons (ds_if (dt_cmp or_gt opd_ord (de_callK TB.t8 hr (takes_of rfl rfl rfl rfl) (da_cons (pv 1) (da_cons de_int da_nil))) de_int (nomark _)) (ds_one (ds_set (i := 4) (de_op or_add opd_add (de_slice (pv 4) pod_none (pod_some (de_neg de_int))) (de_tup (da_cons (de_tup (da_cons de_str da_nil)) da_nil))) nd)) ds_nil)
    (ds_one (ds_if (dt_not (dt_tru (de_callK TB.t11 hr (takes_of rfl rfl rfl rfl) (da_cons (de_callK TB.t6 hr (takes_of rfl rfl rfl rfl) (da_cons (de_tup (da_cons de_str (da_cons de_str da_nil))) (da_cons (de_var (pv 4)) da_nil))) (da_cons (de_callK TB.t15 hr (takes_of rfl rfl rfl rfl) (da_cons (de_tup (da_cons de_str (da_cons de_str da_nil))) (da_cons (de_var (pv 4)) da_nil))) da_nil))))) (ds_one (ds_ret de_bl)) ds_nil))))))))
    (ds_one (ds_ret (de_cmp op_isBl opd_isB (de_callK TB.t6 hr (takes_of rfl rfl rfl rfl) (da_cons (de_tup (da_cons de_str da_nil)) (da_cons (de_tup da_nil) da_nil))) de_bl (nomark _))))))
/-- where the defs stand -/
structure Df (K : PySem.W.Frag) (mg : Str → Option Value) : Prop where
  f0 : ∃ (f : Addr) (fd : FuncData), mg "is_integer" = some (.ref f) ∧ FnP K "is_integer" (top 7) f fd
  f1 : ∃ (f : Addr) (fd : FuncData), mg "are_choices" = some (.ref f) ∧ FnP K "are_choices" (top 8) f fd
  f2 : ∃ (f : Addr) (fd : FuncData), mg "has_form" = some (.ref f) ∧ FnP K "has_form" (top 9) f fd
  f3 : ∃ (f : Addr) (fd : FuncData), mg "goals" = some (.ref f) ∧ FnP K "goals" (top 10) f fd
  f4 : ∃ (f : Addr) (fd : FuncData), mg "heights_of" = some (.ref f) ∧ FnP K "heights_of" (top 11) f fd
  f5 : ∃ (f : Addr) (fd : FuncData), mg "has_quiet_circle" = some (.ref f) ∧ FnP K "has_quiet_circle" (top 12) f fd
  f6 : ∃ (f : Addr) (fd : FuncData), mg "is_sound" = some (.ref f) ∧ FnP K "is_sound" (top 13) f fd
  f7 : ∃ (f : Addr) (fd : FuncData), mg "_law_tape" = some (.ref f) ∧ FnP K "_law_tape" (top 15) f fd
  f8 : ∃ (f : Addr) (fd : FuncData), mg "_law_take" = some (.ref f) ∧ FnP K "_law_take" (top 16) f fd
  f9 : ∃ (f : Addr) (fd : FuncData), mg "_law_is_integer" = some (.ref f) ∧ FnP K "_law_is_integer" (top 17) f fd
  f10 : ∃ (f : Addr) (fd : FuncData), mg "_law_same_items" = some (.ref f) ∧ FnP K "_law_same_items" (top 18) f fd
  f11 : ∃ (f : Addr) (fd : FuncData), mg "_law_same" = some (.ref f) ∧ FnP K "_law_same" (top 19) f fd
  f12 : ∃ (f : Addr) (fd : FuncData), mg "_law_shape_ok" = some (.ref f) ∧ FnP K "_law_shape_ok" (top 20) f fd
  f13 : ∃ (f : Addr) (fd : FuncData), mg "_law_choices_ok" = some (.ref f) ∧ FnP K "_law_choices_ok" (top 21) f fd
  f14 : ∃ (f : Addr) (fd : FuncData), mg "_law_moves" = some (.ref f) ∧ FnP K "_law_moves" (top 22) f fd
  f15 : ∃ (f : Addr) (fd : FuncData), mg "_law_sound" = some (.ref f) ∧ FnP K "_law_sound" (top 23) f fd
  f16 : ∃ (f : Addr) (fd : FuncData), mg "_law_instruction" = some (.ref f) ∧ FnP K "_law_instruction" (top 24) f fd
  f17 : ∃ (f : Addr) (fd : FuncData), mg "_law_pattern" = some (.ref f) ∧ FnP K "_law_pattern" (top 25) f fd
  f18 : ∃ (f : Addr) (fd : FuncData), mg "law" = some (.ref f) ∧ FnP K "law" (top 26) f fd
theorem bi0 {f : Addr} {fd : FuncData} (F : FnP K "is_integer" (top 7) f fd) : Binds K fd p0 [] := F.bindsN fun _ _ _ _ _ _ us hl => match us, hl with | [_, _], _ => rfl
theorem bi1 {f : Addr} {fd : FuncData} (F : FnP K "are_choices" (top 8) f fd) : Binds K fd p1 [] := F.bindsN fun _ _ _ _ _ _ us hl => match us, hl with | [_, _], _ => rfl
theorem bi2 {f : Addr} {fd : FuncData} (F : FnP K "has_form" (top 9) f fd) : Binds K fd p2 [] := F.bindsN fun _ _ _ _ _ _ us hl => match us, hl with | [_, _, _], _ => rfl
theorem bi3 {f : Addr} {fd : FuncData} (F : FnP K "goals" (top 10) f fd) : Binds K fd p3 [] := F.bindsN fun _ _ _ _ _ _ us hl => match us, hl with | [_, _], _ => rfl
theorem bi4 {f : Addr} {fd : FuncData} (F : FnP K "heights_of" (top 11) f fd) : Binds K fd p4 [] := F.bindsN fun _ _ _ _ _ _ us hl => match us, hl with | [_], _ => rfl
theorem bi5 {f : Addr} {fd : FuncData} (F : FnP K "has_quiet_circle" (top 12) f fd) : Binds K fd p5 [] := F.bindsN fun _ _ _ _ _ _ us hl => match us, hl with | [_, _], _ => rfl
theorem bi6 {f : Addr} {fd : FuncData} (F : FnP K "is_sound" (top 13) f fd) : Binds K fd p6 [] := F.bindsN fun _ _ _ _ _ _ us hl => match us, hl with | [_, _], _ => rfl
theorem bi7 {f : Addr} {fd : FuncData} (F : FnP K "_law_tape" (top 15) f fd) : Binds K fd p7 [] := F.bindsN fun _ _ _ _ _ _ us hl => match us, hl with | [_], _ => rfl
theorem bi8 {f : Addr} {fd : FuncData} (F : FnP K "_law_take" (top 16) f fd) : Binds K fd p8 [] := F.bindsN fun _ _ _ _ _ _ us hl => match us, hl with | [_, _], _ => rfl
theorem bi9 {f : Addr} {fd : FuncData} (F : FnP K "_law_is_integer" (top 17) f fd) : Binds K fd p9 [] := F.bindsN fun _ _ _ _ _ _ us hl => match us, hl with | [_], _ => rfl
theorem bi10 {f : Addr} {fd : FuncData} (F : FnP K "_law_same_items" (top 18) f fd) : Binds K fd p10 [] := F.bindsN fun _ _ _ _ _ _ us hl => match us, hl with | [_, _], _ => rfl
theorem bi11 {f : Addr} {fd : FuncData} (F : FnP K "_law_same" (top 19) f fd) : Binds K fd p11 [] := F.bindsN fun _ _ _ _ _ _ us hl => match us, hl with | [_, _], _ => rfl
theorem bi12 {f : Addr} {fd : FuncData} (F : FnP K "_law_shape_ok" (top 20) f fd) : Binds K fd p12 [] := F.bindsN fun _ _ _ _ _ _ us hl => match us, hl with | [_, _, _], _ => rfl
theorem bi13 {f : Addr} {fd : FuncData} (F : FnP K "_law_choices_ok" (top 21) f fd) : Binds K fd p13 [] := F.bindsN fun _ _ _ _ _ _ us hl => match us, hl with | [_, _], _ => rfl
theorem bi14 {f : Addr} {fd : FuncData} (F : FnP K "_law_moves" (top 22) f fd) : Binds K fd p14 [] := F.bindsN fun _ _ _ _ _ _ us hl => match us, hl with | [_, _], _ => rfl
theorem bi15 {f : Addr} {fd : FuncData} (F : FnP K "_law_sound" (top 23) f fd) : Binds K fd p15 [] := F.bindsN fun _ _ _ _ _ _ us hl => match us, hl with | [_, _], _ => rfl
theorem bi16 {f : Addr} {fd : FuncData} (F : FnP K "_law_instruction" (top 24) f fd) : Binds K fd p16 [] := F.bindsN fun _ _ _ _ _ _ us hl => match us, hl with | [_, _], _ => rfl
theorem bi17 {f : Addr} {fd : FuncData} (F : FnP K "_law_pattern" (top 25) f fd) : Binds K fd p17 [] := F.bindsN fun _ _ _ _ _ _ us hl => match us, hl with | [_, _, _], _ => rfl
theorem bi18 {f : Addr} {fd : FuncData} (F : FnP K "law" (top 26) f fd) : Binds K fd p18 [] := F.bindsN fun _ _ _ _ _ _ us hl => match us, hl with | [_], _ => rfl
theorem tab (D : Df K mg) (G : Gb K w mg) : ∀ k : Nat, Tab P w K mg base (k + 2) (sem k)
  | 0 => by
    obtain ⟨f0, fd0, e0, F0⟩ := D.f0
    obtain ⟨f1, fd1, e1, F1⟩ := D.f1
    obtain ⟨f2, fd2, e2, F2⟩ := D.f2
    obtain ⟨f3, fd3, e3, F3⟩ := D.f3
    obtain ⟨f4, fd4, e4, F4⟩ := D.f4
    obtain ⟨f5, fd5, e5, F5⟩ := D.f5
    obtain ⟨f6, fd6, e6, F6⟩ := D.f6
    obtain ⟨f7, fd7, e7, F7⟩ := D.f7
    obtain ⟨f8, fd8, e8, F8⟩ := D.f8
    obtain ⟨f9, fd9, e9, F9⟩ := D.f9
    obtain ⟨f10, fd10, e10, F10⟩ := D.f10
    obtain ⟨f11, fd11, e11, F11⟩ := D.f11
    obtain ⟨f12, fd12, e12, F12⟩ := D.f12
    obtain ⟨f13, fd13, e13, F13⟩ := D.f13
    obtain ⟨f14, fd14, e14, F14⟩ := D.f14
    obtain ⟨f15, fd15, e15, F15⟩ := D.f15
    obtain ⟨f16, fd16, e16, F16⟩ := D.f16
    obtain ⟨f17, fd17, e17, F17⟩ := D.f17
    obtain ⟨f18, fd18, e18, F18⟩ := D.f18
    exact ⟨Kn.zero e0 F0.kp (bi0 F0), Kn.zero e1 F1.kp (bi1 F1), Kn.zero e2 F2.kp (bi2 F2), Kn.zero e3 F3.kp (bi3 F3), Kn.zero e4 F4.kp (bi4 F4), Kn.zero e5 F5.kp (bi5 F5), Kn.zero e6 F6.kp (bi6 F6), Kn.zero e7 F7.kp (bi7 F7), Kn.zero e8 F8.kp (bi8 F8), Kn.zero e9 F9.kp (bi9 F9), Kn.zero e10 F10.kp (bi10 F10), Kn.zero e11 F11.kp (bi11 F11), Kn.zero e12 F12.kp (bi12 F12), Kn.zero e13 F13.kp (bi13 F13), Kn.zero e14 F14.kp (bi14 F14), Kn.zero e15 F15.kp (bi15 F15), Kn.zero e16 F16.kp (bi16 F16), Kn.zero e17 F17.kp (bi17 F17), Kn.zero e18 F18.kp (bi18 F18)⟩
  | k + 1 => by
    have T := tab D G k
    obtain ⟨f0, fd0, e0, F0⟩ := D.f0
    obtain ⟨f1, fd1, e1, F1⟩ := D.f1
    obtain ⟨f2, fd2, e2, F2⟩ := D.f2
    obtain ⟨f3, fd3, e3, F3⟩ := D.f3
    obtain ⟨f4, fd4, e4, F4⟩ := D.f4
    obtain ⟨f5, fd5, e5, F5⟩ := D.f5
    obtain ⟨f6, fd6, e6, F6⟩ := D.f6
    obtain ⟨f7, fd7, e7, F7⟩ := D.f7
    obtain ⟨f8, fd8, e8, F8⟩ := D.f8
    obtain ⟨f9, fd9, e9, F9⟩ := D.f9
    obtain ⟨f10, fd10, e10, F10⟩ := D.f10
    obtain ⟨f11, fd11, e11, F11⟩ := D.f11
    obtain ⟨f12, fd12, e12, F12⟩ := D.f12
    obtain ⟨f13, fd13, e13, F13⟩ := D.f13
    obtain ⟨f14, fd14, e14, F14⟩ := D.f14
    obtain ⟨f15, fd15, e15, F15⟩ := D.f15
    obtain ⟨f16, fd16, e16, F16⟩ := D.f16
    obtain ⟨f17, fd17, e17, F17⟩ := D.f17
    obtain ⟨f18, fd18, e18, F18⟩ := D.f18
    exact ⟨⟨f0, fd0, e0, F0.kp, bi0 F0, w0 F0 G T⟩, ⟨f1, fd1, e1, F1.kp, bi1 F1, w1 F1 G T⟩, ⟨f2, fd2, e2, F2.kp, bi2 F2, w2 F2 G T⟩, ⟨f3, fd3, e3, F3.kp, bi3 F3, w3 F3 G T⟩, ⟨f4, fd4, e4, F4.kp, bi4 F4, w4 F4 G T⟩, ⟨f5, fd5, e5, F5.kp, bi5 F5, w5 F5 G T⟩, ⟨f6, fd6, e6, F6.kp, bi6 F6, w6 F6 G T⟩, ⟨f7, fd7, e7, F7.kp, bi7 F7, w7 F7 G T⟩, ⟨f8, fd8, e8, F8.kp, bi8 F8, w8 F8 G T⟩, ⟨f9, fd9, e9, F9.kp, bi9 F9, w9 F9 G T⟩, ⟨f10, fd10, e10, F10.kp, bi10 F10, w10 F10 G T⟩, ⟨f11, fd11, e11, F11.kp, bi11 F11, w11 F11 G T⟩, ⟨f12, fd12, e12, F12.kp, bi12 F12, w12 F12 G T⟩, ⟨f13, fd13, e13, F13.kp, bi13 F13, w13 F13 G T⟩, ⟨f14, fd14, e14, F14.kp, bi14 F14, w14 F14 G T⟩, ⟨f15, fd15, e15, F15.kp, bi15 F15, w15 F15 G T⟩, ⟨f16, fd16, e16, F16.kp, bi16 F16, w16 F16 G T⟩, ⟨f17, fd17, e17, F17.kp, bi17 F17, w17 F17 G T⟩, ⟨f18, fd18, e18, F18.kp, bi18 F18, w18 F18 G T⟩⟩
end
def dd0 : He.DefD := ⟨("is_integer", none), "is_integer", "is_integer", defArgs (top 7), defBody (top 7), defScope (top 7), [], []⟩
def dd1 : He.DefD := ⟨("are_choices", none), "are_choices", "are_choices", defArgs (top 8), defBody (top 8), defScope (top 8), [], []⟩
def dd2 : He.DefD := ⟨("has_form", none), "has_form", "has_form", defArgs (top 9), defBody (top 9), defScope (top 9), [], []⟩
def dd3 : He.DefD := ⟨("goals", none), "goals", "goals", defArgs (top 10), defBody (top 10), defScope (top 10), [], []⟩
def dd4 : He.DefD := ⟨("heights_of", none), "heights_of", "heights_of", defArgs (top 11), defBody (top 11), defScope (top 11), [], []⟩
def dd5 : He.DefD := ⟨("has_quiet_circle", none), "has_quiet_circle", "has_quiet_circle", defArgs (top 12), defBody (top 12), defScope (top 12), [], []⟩
def dd6 : He.DefD := ⟨("is_sound", none), "is_sound", "is_sound", defArgs (top 13), defBody (top 13), defScope (top 13), [], []⟩
def dd7 : He.DefD := ⟨("_law_tape", none), "_law_tape", "_law_tape", defArgs (top 15), defBody (top 15), defScope (top 15), [], []⟩
def dd8 : He.DefD := ⟨("_law_take", none), "_law_take", "_law_take", defArgs (top 16), defBody (top 16), defScope (top 16), [], []⟩
def dd9 : He.DefD := ⟨("_law_is_integer", none), "_law_is_integer", "_law_is_integer", defArgs (top 17), defBody (top 17), defScope (top 17), [], []⟩
def dd10 : He.DefD := ⟨("_law_same_items", none), "_law_same_items", "_law_same_items", defArgs (top 18), defBody (top 18), defScope (top 18), [], []⟩
def dd11 : He.DefD := ⟨("_law_same", none), "_law_same", "_law_same", defArgs (top 19), defBody (top 19), defScope (top 19), [], []⟩
def dd12 : He.DefD := ⟨("_law_shape_ok", none), "_law_shape_ok", "_law_shape_ok", defArgs (top 20), defBody (top 20), defScope (top 20), [], []⟩
def dd13 : He.DefD := ⟨("_law_choices_ok", none), "_law_choices_ok", "_law_choices_ok", defArgs (top 21), defBody (top 21), defScope (top 21), [], []⟩
def dd14 : He.DefD := ⟨("_law_moves", none), "_law_moves", "_law_moves", defArgs (top 22), defBody (top 22), defScope (top 22), [], []⟩
def dd15 : He.DefD := ⟨("_law_sound", none), "_law_sound", "_law_sound", defArgs (top 23), defBody (top 23), defScope (top 23), [], []⟩
def dd16 : He.DefD := ⟨("_law_instruction", none), "_law_instruction", "_law_instruction", defArgs (top 24), defBody (top 24), defScope (top 24), [], []⟩
def dd17 : He.DefD := ⟨("_law_pattern", none), "_law_pattern", "_law_pattern", defArgs (top 25), defBody (top 25), defScope (top 25), [], []⟩
def dd18 : He.DefD := ⟨("law", none), "law", "law", defArgs (top 26), defBody (top 26), defScope (top 26), [], []⟩
def fn : List He.DefD := [dd0, dd1, dd2, dd3, dd4, dd5, dd6, dd7, dd8, dd9, dd10, dd11, dd12, dd13, dd14, dd15, dd16, dd17, dd18]
def fa : List He.Fa := [.glo "is_integer", .glo "are_choices", .glo "has_form", .glo "goals", .glo "heights_of", .glo "has_quiet_circle", .glo "is_sound", .glo "_law_tape", .glo "_law_take", .glo "_law_is_integer", .glo "_law_same_items", .glo "_law_same", .glo "_law_shape_ok", .glo "_law_choices_ok", .glo "_law_moves", .glo "_law_sound", .glo "_law_instruction", .glo "_law_pattern", .glo "law", .free "abs", .free "all", .free "any", .free "bool", .free "dict", .free "int", .free "isinstance", .free "len", .free "list", .free "range", .free "set", .free "sorted", .free "str", .free "tuple", .free "zip", .glo "DEEDS", .int "MOST_HEIGHT" 40, .int "SIZE" 4294967296, .glo "CHANGES", .glo "SHAPES", .glo "TAKES"]
def xs_DEEDS : List Str := ["store", "emit", "wait", "input", "yes", "no", "test"]
def ex (K : PySem.W.Frag) : Bool := true && He.tupB K "DEEDS" (xs_DEEDS.map He.Dv.str) && He.valsB K (He.ga K "CHANGES") kv_CHANGES && He.valsB K (He.ga K "SHAPES") kv_SHAPES && He.valsB K (He.ga K "TAKES") kv_TAKES
def ts : List He.Tab := [(fun K => He.ga K "CHANGES", kv_CHANGES.map (·.1)), (fun K => He.ga K "SHAPES", kv_SHAPES.map (·.1)), (fun K => He.ga K "TAKES", kv_TAKES.map (·.1))]
abbrev R : PySem.W.OpenRow := PySem.W.OpenLaw.row PySem.Challenge.rw_onescore_k24_sound_code
abbrev hk : PySem.W.Hook := He.hookX 4 fa fn ts [] ex
def ob (s : PySem.W.SharedT) : He.AlX := He.obsX 4 fa fn ts [] ex (HandSHeadRun.getT s)
theorem ob_eq (s : PySem.W.SharedT) : ob s = hk.obs s.abs := He.obsX_eq (HandSHeadRun.getT_eq s)
def lo0 : List PySem.Str := ["SIZE", "MOST_HEIGHT", "SHAPES", "CHANGES", "TAKES", "DEEDS", "is_integer", "are_choices", "has_form", "goals", "heights_of", "has_quiet_circle", "is_sound", "_law_tape", "_law_take", "_law_is_integer", "_law_same_items", "_law_same", "_law_shape_ok", "_law_choices_ok", "_law_moves", "_law_sound", "_law_instruction", "_law_pattern"]
def loose : List PySem.Str := lo0
theorem run (w : World) : HandSHeadRun.RunEq R (PySem.W.view R.prog [26]) hk ob 1480 loose w := PySem.W.byRow2 "special-get-raises" (P := fun w => HandSHeadRun.RunEq R (PySem.W.view R.prog [26]) hk ob 1480 loose w) (fun w => by intro os; kernel_rfl) (fun w => by intro os; kernel_rfl) w
theorem facts {P : Program} {w : World} {K : PySem.W.Frag} {h : Heap} {mg : Str → Option Value} (X : K.In h) (G : h.Ns mainGlobals mg) (c : He.SaysX fa fn ts [] ex w h K) : Df K mg ∧ Gb K w mg := by
  have cd := c.t.d
  have hx := c.more
  refine ⟨⟨?_, ?_, ?_, ?_, ?_, ?_, ?_, ?_, ?_, ?_, ?_, ?_, ?_, ?_, ?_, ?_, ?_, ?_, ?_⟩, ⟨?_, ?_, ?_, ?_, ?_, ?_, ?_, ?_, ?_, ?_, ?_, ?_, ?_, ?_, ?_, ?_, ?_, ?_, ?_, ?_, ?_⟩⟩
  · obtain ⟨fd, F⟩ := cd.def_ 0 (d := dd0) rfl
    exact ⟨_, fd, He.glo_ok X G (cd.fact 0 (f := .glo "is_integer") rfl), F⟩
  · obtain ⟨fd, F⟩ := cd.def_ 1 (d := dd1) rfl
    exact ⟨_, fd, He.glo_ok X G (cd.fact 1 (f := .glo "are_choices") rfl), F⟩
  · obtain ⟨fd, F⟩ := cd.def_ 2 (d := dd2) rfl
    exact ⟨_, fd, He.glo_ok X G (cd.fact 2 (f := .glo "has_form") rfl), F⟩
  · obtain ⟨fd, F⟩ := cd.def_ 3 (d := dd3) rfl
    exact ⟨_, fd, He.glo_ok X G (cd.fact 3 (f := .glo "goals") rfl), F⟩
  · obtain ⟨fd, F⟩ := cd.def_ 4 (d := dd4) rfl
    exact ⟨_, fd, He.glo_ok X G (cd.fact 4 (f := .glo "heights_of") rfl), F⟩
  · obtain ⟨fd, F⟩ := cd.def_ 5 (d := dd5) rfl
    exact ⟨_, fd, He.glo_ok X G (cd.fact 5 (f := .glo "has_quiet_circle") rfl), F⟩
  · obtain ⟨fd, F⟩ := cd.def_ 6 (d := dd6) rfl
    exact ⟨_, fd, He.glo_ok X G (cd.fact 6 (f := .glo "is_sound") rfl), F⟩
  · obtain ⟨fd, F⟩ := cd.def_ 7 (d := dd7) rfl
    exact ⟨_, fd, He.glo_ok X G (cd.fact 7 (f := .glo "_law_tape") rfl), F⟩
  · obtain ⟨fd, F⟩ := cd.def_ 8 (d := dd8) rfl
    exact ⟨_, fd, He.glo_ok X G (cd.fact 8 (f := .glo "_law_take") rfl), F⟩
  · obtain ⟨fd, F⟩ := cd.def_ 9 (d := dd9) rfl
    exact ⟨_, fd, He.glo_ok X G (cd.fact 9 (f := .glo "_law_is_integer") rfl), F⟩
  · obtain ⟨fd, F⟩ := cd.def_ 10 (d := dd10) rfl
    exact ⟨_, fd, He.glo_ok X G (cd.fact 10 (f := .glo "_law_same_items") rfl), F⟩
  · obtain ⟨fd, F⟩ := cd.def_ 11 (d := dd11) rfl
    exact ⟨_, fd, He.glo_ok X G (cd.fact 11 (f := .glo "_law_same") rfl), F⟩
  · obtain ⟨fd, F⟩ := cd.def_ 12 (d := dd12) rfl
    exact ⟨_, fd, He.glo_ok X G (cd.fact 12 (f := .glo "_law_shape_ok") rfl), F⟩
  · obtain ⟨fd, F⟩ := cd.def_ 13 (d := dd13) rfl
    exact ⟨_, fd, He.glo_ok X G (cd.fact 13 (f := .glo "_law_choices_ok") rfl), F⟩
  · obtain ⟨fd, F⟩ := cd.def_ 14 (d := dd14) rfl
    exact ⟨_, fd, He.glo_ok X G (cd.fact 14 (f := .glo "_law_moves") rfl), F⟩
  · obtain ⟨fd, F⟩ := cd.def_ 15 (d := dd15) rfl
    exact ⟨_, fd, He.glo_ok X G (cd.fact 15 (f := .glo "_law_sound") rfl), F⟩
  · obtain ⟨fd, F⟩ := cd.def_ 16 (d := dd16) rfl
    exact ⟨_, fd, He.glo_ok X G (cd.fact 16 (f := .glo "_law_instruction") rfl), F⟩
  · obtain ⟨fd, F⟩ := cd.def_ 17 (d := dd17) rfl
    exact ⟨_, fd, He.glo_ok X G (cd.fact 17 (f := .glo "_law_pattern") rfl), F⟩
  · obtain ⟨fd, F⟩ := cd.def_ 18 (d := dd18) rfl
    exact ⟨_, fd, He.glo_ok X G (cd.fact 18 (f := .glo "law") rfl), F⟩
  · exact He.free_ok X G (cd.fact 19 (f := .free "abs") rfl)
  · exact He.free_ok X G (cd.fact 20 (f := .free "all") rfl)
  · exact He.free_ok X G (cd.fact 21 (f := .free "any") rfl)
  · exact He.free_ok X G (cd.fact 22 (f := .free "bool") rfl)
  · exact He.free_ok X G (cd.fact 23 (f := .free "dict") rfl)
  · exact He.free_ok X G (cd.fact 24 (f := .free "int") rfl)
  · exact He.free_ok X G (cd.fact 25 (f := .free "isinstance") rfl)
  · exact He.free_ok X G (cd.fact 26 (f := .free "len") rfl)
  · exact He.free_ok X G (cd.fact 27 (f := .free "list") rfl)
  · exact He.free_ok X G (cd.fact 28 (f := .free "range") rfl)
  · exact He.free_ok X G (cd.fact 29 (f := .free "set") rfl)
  · exact He.free_ok X G (cd.fact 30 (f := .free "sorted") rfl)
  · exact He.free_ok X G (cd.fact 31 (f := .free "str") rfl)
  · exact He.free_ok X G (cd.fact 32 (f := .free "tuple") rfl)
  · exact He.free_ok X G (cd.fact 33 (f := .free "zip") rfl)
  · have e := He.glo_ok X G (cd.fact 34 (f := .glo "DEEDS") rfl)
    have t : He.tupB K "DEEDS" (xs_DEEDS.map He.Dv.str) = true := by
      unfold ex at hx
      simp only [Bool.and_eq_true] at hx
      simp only [hx]
    exact Gc.strs (xs := xs_DEEDS) e fun H => He.tupB_ok t H
  · exact Gc.int (He.int_ok X G (cd.fact 35 (f := .int "MOST_HEIGHT" 40) rfl))
  · exact Gc.int (He.int_ok X G (cd.fact 36 (f := .int "SIZE" 4294967296) rfl))
  · have hb : He.valsB K (He.ga K "CHANGES") kv_CHANGES = true := by
      unfold ex at hx
      simp only [Bool.and_eq_true] at hx
      simp only [hx]
    exact Gd.of (He.glo_ok X G (cd.fact 37 (f := .glo "CHANGES") rfl)) (tabW c.t 0 rfl) hb rfl
  · have hb : He.valsB K (He.ga K "SHAPES") kv_SHAPES = true := by
      unfold ex at hx
      simp only [Bool.and_eq_true] at hx
      simp only [hx]
    exact Gd.of (He.glo_ok X G (cd.fact 38 (f := .glo "SHAPES") rfl)) (tabW c.t 1 rfl) hb rfl
  · have hb : He.valsB K (He.ga K "TAKES") kv_TAKES = true := by
      unfold ex at hx
      simp only [Bool.and_eq_true] at hx
      simp only [hx]
    exact Gd.of (He.glo_ok X G (cd.fact 39 (f := .glo "TAKES") rfl)) (tabW c.t 2 rfl) hb rfl
end K24
section
open PySem PySem.W PySem.Calls PyProof.Rows
theorem K24.holds_of (k : Nat) (hr : L2.Room (k + 3) PySem.callerA) (hlaw : ∀ ns : List Int, ns.length ≤ 63 → (∀ i ∈ ns, Builtin.Int.intBits i ≤ 1048576) → ∃ fr, K24.sem (k + 1) 18 [.fro (ns.map PV.D.int)] = .ret fr (.bl true) []) : PySem.Challenge.rw_onescore_k24_sound_code.Holds := by
  w_on; o_law
  refine HandSHeadRun.head_any (r := OpenLaw.row PySem.Challenge.rw_onescore_k24_sound_code) (q := view (OpenLaw.row PySem.Challenge.rw_onescore_k24_sound_code).prog [26]) (H := K24.hk) (ob := K24.ob) (M := 1480) (loose := K24.loose) (d := HandSHeadRun.topDef (OpenLaw.row PySem.Challenge.rw_onescore_k24_sound_code).prog 26) (kwd := []) K24.ob_eq
    (by kernel_rfl) (fun s => by kernel_rfl) K24.run (by kernel_rfl) (by kernel_rfl) (by kernel_rfl) (by rfl) (by first | assumption | decide +kernel) (by decide +kernel) ⟨rfl, rfl, rfl, rfl, rfl, by decide +kernel⟩ ?hw ?hc
  case hw => w_witness2
  case hc =>
    refine PV.walk_pv (l := PySem.Challenge.rw_onescore_k24_sound_code) (k := k + 3) (x := "_law_script") rfl (by kernel_rfl) hr ?_
    intro w mg fa h Y G hmg0
    obtain ⟨K, KX, c⟩ := Y
    have hmg : mg ("law" : PySem.Str) = some (.ref fa) := by
      have e : (HandSHeadRun.topDef (OpenLaw.row PySem.Challenge.rw_onescore_k24_sound_code).prog 26).name = ("law" : PySem.Str) := by kernel_rfl
      rw [← e]
      exact hmg0
    obtain ⟨D, Gb⟩ := K24.facts (P := (PySem.Challenge.rw_onescore_k24_sound_code).prog) (w := w) KX G c
    obtain ⟨f, fd, e, F⟩ := D.f18
    rw [hmg] at e
    cases e
    have b := L2.FunD.bindsA (ps := ["_law_script"]) F fun _ _ _ _ _ _ us hl => match us, hl with | [_], _ => rfl
    exact ⟨K, fd, _, KX, fun s u => b s [u] rfl, hlaw, fun base _ _ => K24.w18 F Gb (K24.tab D Gb k)⟩
end

namespace K24
open PySem PySem.Spec PyProof.Rows L2 PV
/-! ### values as data: comparable -/
def okS (x : Str) : Bool := PyData.strOk x
def shD (n : Nat) (d : D) : Prop := ∃ p, d.py = some p ∧ p.canLay0 = true ∧ p.depth ≤ n
theorem shD.mono {n m : Nat} {d : D} (h : shD n d) (hm : n ≤ m) : shD m d := let ⟨p, a, b, c⟩ := h; ⟨p, a, b, Nat.le_trans c hm⟩
theorem sh_int {i : Int} : shD 0 (.int i) := ⟨_, rfl, by simp [PyData.canLay0], by simp [PyData.depth]⟩
theorem sh_str {x : Str} (h : okS x = true) : shD 0 (.str x) := ⟨_, rfl, by simpa [PyData.canLay0, okS] using h, by simp [PyData.depth]⟩
theorem sh_pys {n : Nat} : ∀ {ds : List D}, (∀ d, d ∈ ds → shD n d) → ∃ ps, D.pys ds = some ps ∧ PyData.canLayAll0 ps = true ∧ PyData.depthAll ps ≤ n
  | [], _ => ⟨[], by simp [D.pys], by simp [PyData.canLayAll0], by simp [PyData.depthAll]⟩
  | d :: ds, h => by
    obtain ⟨p, a, b, c⟩ := h d List.mem_cons_self
    obtain ⟨ps, a', b', c'⟩ := sh_pys fun e m => h e (List.mem_cons_of_mem _ m)
    refine ⟨p :: ps, by simp [D.pys, a, a'], by simp [PyData.canLayAll0, b, b'], ?_⟩
    simp only [PyData.depthAll]
    omega
theorem sh_tup {n : Nat} {ds : List D} (h : ∀ d, d ∈ ds → shD n d) : shD (n + 1) (.tup ds) := by
  obtain ⟨ps, a, b, c⟩ := sh_pys h
  exact ⟨.tuple ps, by simp [D.py, a], by simpa [PyData.canLay0] using b, by simp only [PyData.depth]; omega⟩
theorem sh_lst {n : Nat} {ds : List D} (h : ∀ d, d ∈ ds → shD n d) : shD (n + 1) (.lst ds) := by
  obtain ⟨ps, a, b, c⟩ := sh_pys h
  exact ⟨.list ps, by simp [D.py, a], by simpa [PyData.canLay0] using b, by simp only [PyData.depth]; omega⟩
theorem shD.shp {n : Nat} {d : D} (h : shD n d) (hn : n ≤ 64) : ∃ p, d.py = some p ∧ d.shp = some p := by
  obtain ⟨p, a, b, c⟩ := h
  refine ⟨p, a, ?_⟩
  unfold D.shp
  rw [a]
  have : SeqAt.shaped p = true := by
    unfold SeqAt.shaped
    rw [b, decide_eq_true (by omega)]; rfl
  simp [this]
theorem eq_nilT {n : Nat} {g : Bool} {ds : List D} (h : shD n (.tup ds)) (hn : n ≤ 64) : eqS g (.tup ds) (.tup []) = some (false, .bl (if g then !ds.isEmpty else ds.isEmpty)) := by
  obtain ⟨p, a, b⟩ := h.shp hn
  obtain ⟨q, a2, b2⟩ := (sh_tup (n := 0) (ds := []) (by simp)).shp (by decide)
  show eqDD g _ _ = _
  unfold eqDD eqD
  rw [b, b2]
  simp only [D.py] at a a2
  obtain ⟨ps, e1, e2⟩ := Option.map_eq_some_iff.mp a
  simp only [D.pys, Option.map_some, Option.some.injEq] at a2
  subst a2 e2
  cases ds with
  | nil =>
    simp only [D.pys, Option.some.injEq] at e1
    subst e1
    simp [PyData.eqv, PyData.eqvAll]
  | cons d ds =>
    simp only [D.pys] at e1
    obtain ⟨x, _, e3⟩ := Option.bind_eq_some_iff.mp e1
    obtain ⟨xs, _, e4⟩ := Option.map_eq_some_iff.mp e3
    subst e4
    simp [PyData.eqv, PyData.eqvAll]
theorem eq_nilL {n : Nat} {g : Bool} {ds : List D} (h : shD n (.lst ds)) (hn : n ≤ 64) : eqS g (.lst ds) (.lst []) = some (false, .bl (if g then !ds.isEmpty else ds.isEmpty)) := by
  obtain ⟨p, a, b⟩ := h.shp hn
  obtain ⟨q, a2, b2⟩ := (sh_lst (n := 0) (ds := []) (by simp)).shp (by decide)
  show eqDD g _ _ = _
  unfold eqDD eqD
  rw [b, b2]
  simp only [D.py] at a a2
  obtain ⟨ps, e1, e2⟩ := Option.map_eq_some_iff.mp a
  simp only [D.pys, Option.map_some, Option.some.injEq] at a2
  subst a2 e2
  cases ds with
  | nil =>
    simp only [D.pys, Option.some.injEq] at e1
    subst e1
    simp [PyData.eqv, PyData.eqvAll]
  | cons d ds =>
    simp only [D.pys] at e1
    obtain ⟨x, _, e3⟩ := Option.bind_eq_some_iff.mp e1
    obtain ⟨xs, _, e4⟩ := Option.map_eq_some_iff.mp e3
    subst e4
    simp [PyData.eqv, PyData.eqvAll]
theorem pys_strs : ∀ xs : List Str, D.pys (xs.map D.str) = some (xs.map PyData.str)
  | [] => by simp [D.pys]
  | x :: xs => by simp [D.pys, D.py, pys_strs xs]
theorem eqv_strs : ∀ xs ys : List Str, PyData.eqvAll (xs.map PyData.str) (ys.map PyData.str) = decide (xs = ys)
  | [], [] => by simp [PyData.eqvAll]
  | [], y :: ys => by simp [PyData.eqvAll]
  | x :: xs, [] => by simp [PyData.eqvAll]
  | x :: xs, y :: ys => by
    simp only [List.map_cons, PyData.eqvAll, PyData.eqv, eqv_strs xs ys, List.cons.injEq, Bool.decide_and]
    congr 1
theorem eq_strs {g : Bool} {xs ys : List Str} (hx : ∀ x, x ∈ xs → okS x = true) (hy : ∀ x, x ∈ ys → okS x = true) : eqS g (.lst (xs.map D.str)) (.lst (ys.map D.str)) = some (false, .bl (if g then !decide (xs = ys) else decide (xs = ys))) := by
  have sh : ∀ zs : List Str, (∀ x, x ∈ zs → okS x = true) → (D.lst (zs.map D.str)).shp = some (.list (zs.map PyData.str)) := fun zs hz => by
    obtain ⟨p, a, b⟩ := (sh_lst (n := 0) (ds := zs.map D.str) fun d m => by
      obtain ⟨x, m', rfl⟩ := List.mem_map.mp m
      exact sh_str (hz x m')).shp (by decide)
    simp only [D.py, pys_strs, Option.map_some, Option.some.injEq] at a
    rw [b, ← a]
  show eqDD g _ _ = _
  unfold eqDD eqD
  rw [sh xs hx, sh ys hy]
  simp [PyData.eqv, eqv_strs]
theorem txts_map : ∀ xs : List Str, txts (xs.map D.str) = some xs
  | [] => rfl
  | x :: xs => by simp [txts, txts_map xs]
theorem srtD_map {g : List Str → List Str} {xs : List Str} (h : xs.length < 63) : srtD g (.lst (xs.map D.str)) = some (true, .lst ((g xs).map D.str)) := by
  unfold srtD
  simp only [txts_map, Option.bind_some, if_pos h]
/-! ### code -/
inductive Pt where
  | n (i : Int) | s (x : Str) | c (l : List (Str × Str × Int))
def triD (t : Str × Str × Int) : D := .tup [.str t.1, .str t.2.1, .int t.2.2]
def Pt.d : Pt → D
  | .n i => .int i
  | .s x => .str x
  | .c l => .tup (l.map triD)
abbrev Ins := Str × List Pt
def insD (x : Ins) : D := .tup (.str x.1 :: x.2.map Pt.d)
def codeD (c : List Ins) : D := .tup (c.map insD)
def Pt.ok : Pt → Prop
  | .n _ => True
  | .s x => okS x = true
  | .c l => l.length < 63 ∧ ∀ t, t ∈ l → okS t.1 = true ∧ okS t.2.1 = true
structure InsK (x : Ins) : Prop where
  w : okS x.1 = true
  p : ∀ p, p ∈ x.2 → p.ok
  few : x.2.length ≤ 63
theorem sh_tri {t : Str × Str × Int} (h : okS t.1 = true ∧ okS t.2.1 = true) : shD 1 (triD t) := sh_tup fun d m => by
  simp only [List.mem_cons, List.not_mem_nil, or_false] at m
  rcases m with rfl | rfl | rfl
  · exact sh_str h.1
  · exact sh_str h.2
  · exact sh_int
theorem sh_chs {l : List (Str × Str × Int)} (h : (Pt.c l).ok) : shD 2 (.tup (l.map triD)) := sh_tup fun d m => by
  obtain ⟨t, m', rfl⟩ := List.mem_map.mp m
  exact sh_tri (h.2 t m')
theorem sh_pt {p : Pt} (h : p.ok) : shD 2 p.d := by
  cases p with
  | n i => exact sh_int.mono (by decide)
  | s x => exact (sh_str h).mono (by decide)
  | c l => exact sh_chs h
theorem sh_ins {x : Ins} (h : InsK x) : shD 3 (insD x) := sh_tup fun d m => by
  rcases List.mem_cons.mp m with rfl | m
  · exact (sh_str h.w).mono (by decide)
  · obtain ⟨p, m', rfl⟩ := List.mem_map.mp m
    exact sh_pt (h.p p m')
theorem sh_insl {c : List Ins} (h : ∀ x, x ∈ c → InsK x) : ∀ d, d ∈ c.map insD → shD 3 d := fun d m => by
  obtain ⟨x, m', rfl⟩ := List.mem_map.mp m
  exact sh_ins (h x m')
/-! ### the forms -/
def szI : Int := 4294967296
def inZ (i size : Int) : Bool := decide (0 ≤ i) && decide (i < size)
def labs (l : List (Str × Str × Int)) : List Str := l.map (·.1)
def chOk (size : Int) (l : List (Str × Str × Int)) : Bool := !l.isEmpty && (l.all (fun t => inZ t.2.2 size) && (decide (sortedS (labs l) = true) && decide (labs l).Nodup))
def memB (xs : List Str) (x : Str) : Bool := decide (x ∈ xs)
/-- by its sign: n 110, s 115, g 103, e 101, w 119, c 99 -/
def ptOk (ends : List Str) (size : Int) (sg : Nat) : Pt → Bool
  | .n i => (decide (sg = 110) && inZ i szI) || (decide (sg = 103) && inZ i size)
  | .s x => decide (sg = 115) || ((decide (sg = 101) && memB ends x) || (decide (sg = 119) && memB ["yes", "no"] x))
  | .c l => decide (sg = 99) && chOk size l
def shOf (w : Str) : Option (List Nat) := match tget kd_SHAPES w with
  | some (.str sh) => some sh.cps.toList
  | _ => none
def insOk (ends : List Str) (size : Int) (x : Ins) : Bool := match shOf x.1 with
  | none => false
  | some sh => decide (x.2.length = sh.length) && (sh.zip x.2).all fun q => ptOk ends size q.1 q.2
def sgB (c : Nat) : Bool := decide (c ∈ ([110, 115, 103, 101, 119, 99] : List Nat))
theorem shapes_sg : (kd_SHAPES.all fun q => match q.2 with
  | .str sh => sh.cps.toList.all sgB && decide (sh.length ≤ 2)
  | _ => false) = true := by decide +kernel
theorem shOf_get {w : Str} : (∃ sh, tget kd_SHAPES w = some (.str (tx sh)) ∧ shOf w = some sh ∧ (∀ c, c ∈ sh → sgB c = true) ∧ sh.length ≤ 2) ∨ (tget kd_SHAPES w = none ∧ shOf w = none) := by
  cases e : tget kd_SHAPES w with
  | none => exact .inr ⟨rfl, by unfold shOf; rw [e]⟩
  | some d =>
    have h := List.all_eq_true.mp shapes_sg _ (tget_mem e)
    cases d with
    | str sh =>
      simp only [Bool.and_eq_true, List.all_eq_true, decide_eq_true_eq] at h
      exact .inl ⟨sh.cps.toList, rfl, by unfold shOf; rw [e], h.1, h.2⟩
    | _ => simp at h
end K24

namespace K24
open PySem PySem.Spec PyProof.Rows L2 PV
def fre : Slot → Bool
  | none => true
  | some (.sh, _) => true
  | _ => false
theorem put_fre {s : S} {i : Nat} {x : Slot} {d : D} (h : s[i]? = some x) (hf : fre x = true) : (Tg.nm i).put d s = some (s.set i (some (.sh, d))) := by
  rw [Tg.put]
  unfold putS
  rw [h]
  match x, hf with
  | none, _ => rfl
  | some (.sh, _), _ => rfl
def flB (b : Bool) : Fl := if b then .nx else .rt false (.bl false)
@[simp] theorem flB_t : flB true = .nx := rfl
@[simp] theorem flB_f : flB false = .rt false (.bl false) := rfl
/-! ### is_integer -/
theorem isint_n {k : Nat} {i size : Int} : sem (k + 1) 0 [.int i, .int size] = .ret false (.bl (inZ i size)) [] := by
  rw [se0]
  refine runF_rt (s := [some (.sh, .int i), some (.sh, .int size)]) ?_ rfl rfl
  rw [show initS [] 2 [.int i, .int size] = [some (.sh, .int i), some (.sh, .int size)] from rfl]
  unfold b0 inZ
  by_cases h : 0 ≤ i <;> simp (implicitDefEqProofs := false) [h]
theorem isint_s {k : Nat} {x : Str} {size : Int} : sem (k + 1) 0 [.str x, .int size] = .ret false (.bl false) [] := by
  rw [se0]
  refine runF_rt (s := [some (.sh, .str x), some (.sh, .int size)]) ?_ rfl rfl
  rw [show initS [] 2 [.str x, .int size] = [some (.sh, .str x), some (.sh, .int size)] from rfl]
  unfold b0
  simp (implicitDefEqProofs := false)
theorem isint_t {k : Nat} {ds : List D} {size : Int} : sem (k + 1) 0 [.tup ds, .int size] = .ret false (.bl false) [] := by
  rw [se0]
  refine runF_rt (s := [some (.sh, .tup ds), some (.sh, .int size)]) ?_ rfl rfl
  rw [show initS [] 2 [.tup ds, .int size] = [some (.sh, .tup ds), some (.sh, .int size)] from rfl]
  unfold b0
  simp (implicitDefEqProofs := false)
/-! ### choices -/
section
variable {t : Str × Str × Int}
theorem tri0 : ixD (triD t) (.int 0) = some (false, .str t.1) := rfl
theorem tri1 : ixD (triD t) (.int 1) = some (false, .str t.2.1) := rfl
theorem tri2 : ixD (triD t) (.int 2) = some (false, .int t.2.2) := rfl
theorem triL : lenD (triD t) = some (false, .int 3) := rfl
theorem triI : isiD (triD t) (.ty "tuple") = some (false, .bl true) := by unfold triD; simp
end
theorem lab_loop {sh : Slot} {v sz : Slot} : ∀ (l : List (Str × Str × Int)) (acc : List D), acc.length + l.length ≤ sizeLine →
    lcL (.nm 2) yesM (binM ixD (.sl 2) (.ex (constM (.int 0)))) [2] (l.map triD) acc [v, sz, none, sh] = .ok (acc ++ (labs l).map D.str) [v, sz, none, sh]
  | [], acc, _ => by simp [lcL, labs]
  | t :: l, acc, h => by
    rw [List.length_cons] at h
    have ih := lab_loop (sh := sh) (v := v) (sz := sz) l (acc ++ [.str t.1]) (by rw [List.length_append]; simp only [List.length_cons, List.length_nil]; omega)
    rw [List.map_cons, lcL, ev_putN]
    have hz : acc.length < sizeLine := by omega
    simp (implicitDefEqProofs := false) [-v_ixT, tri0, nox, hz, killAll, ih, labs]
theorem srt_okS {xs : List Str} (h : ∀ x, x ∈ xs → okS x = true) : ∀ x, x ∈ srtSet xs → okS x = true := fun x m => h x (mem_dd.mp ((srtL_perm _).mem_iff.mp m))
theorem srtL_okS {xs : List Str} (h : ∀ x, x ∈ xs → okS x = true) : ∀ x, x ∈ srtL xs → okS x = true := fun x m => h x ((srtL_perm _).mem_iff.mp m)
noncomputable def acB (k : Nat) : M Fl := (seqM (iteM (orM (notM (truM (.ex (binM isiD (.sl 2) (.ex (constM (.ty "tuple"))))))) (truB (binM (eqS true) (.ex (unM lenD (.sl 2))) (.ex (constM (.int 3)))))) (retM (constM (.bl false))) nxM)
    (iteM (orM (notM (truM (.ex (binM isiD (.ex (binM ixD (.sl 2) (.ex (constM (.int 0))))) (.ex (constM (.ty "str"))))))) (orM (notM (truM (.ex (binM isiD (.ex (binM ixD (.sl 2) (.ex (constM (.int 1))))) (.ex (constM (.ty "str"))))))) (notM (truM (.ex (callM (sem k 0) [.ex (binM ixD (.sl 2) (.ex (constM (.int 2)))), .ex (varM 1)])))))) (retM (constM (.bl false))) nxM))
theorem ac_one {k : Nat} {v : D} {size : Int} {t : Str × Str × Int} : acB (k + 1) [some (.sh, v), some (.sh, .int size), some (.sh, triD t), none] = .ok (flB (inZ t.2.2 size)) [some (.sh, v), some (.sh, .int size), some (.sh, triD t), none] := by
  unfold acB
  cases h : inZ t.2.2 size <;> simp (implicitDefEqProofs := false) [-v_ixT, -v_lenT, tri0, tri1, tri2, triL, triI, isint_n, h]
theorem ac_loop {k : Nat} {v : D} {size : Int} : ∀ (l : List (Str × Str × Int)) (x : Slot), fre x = true → ∃ y : Slot, fre y = true ∧
    forL (.nm 2) (acB (k + 1)) (l.map triD) [some (.sh, v), some (.sh, .int size), x, none] = .ok (flB (l.all fun t => inZ t.2.2 size)) [some (.sh, v), some (.sh, .int size), y, none]
  | [], x, h => ⟨x, h, rfl⟩
  | t :: l, x, h => by
    obtain ⟨y, hy, ih⟩ := ac_loop (k := k) (v := v) (size := size) l (some (.sh, triD t)) rfl
    rw [List.map_cons, ev_for1, put_fre (x := x) rfl h, List.all_cons]
    show ∃ y, _ ∧ (acB (k + 1) [some (.sh, v), some (.sh, .int size), some (.sh, triD t), none]).bind _ = _
    rw [ac_one, Res.bind_ok]
    cases q : inZ t.2.2 size with
    | true => exact ⟨y, hy, by rw [Bool.true_and]; exact ih⟩
    | false => exact ⟨some (.sh, triD t), rfl, rfl⟩
theorem choices_c {k : Nat} {l : List (Str × Str × Int)} {size : Int} (hl : (Pt.c l).ok) : sem (k + 2) 1 [.tup (l.map triD), .int size] = .ret false (.bl (chOk size l)) [] := by
  have hok : ∀ x, x ∈ labs l → okS x = true := fun x m => by
    obtain ⟨t, m', rfl⟩ := List.mem_map.mp m
    exact (hl.2 t m').1
  have hln : (labs l).length < 63 := by simpa [labs] using hl.1
  rw [se1]
  by_cases he : l = []
  · subst he
    refine runF_rt (s := [some (.sh, .tup []), some (.sh, .int size), none, none]) ?_ rfl rfl
    rw [show initS [] 4 [.tup (List.map triD []), .int size] = [some (.sh, .tup []), some (.sh, .int size), none, none] from rfl]
    unfold b1
    simp (implicitDefEqProofs := false) [chOk]
  · have hne : (l.map triD).isEmpty = false := by cases l with
      | nil => exact absurd rfl he
      | cons _ _ => rfl
    have hne2 : l.isEmpty = false := by cases l with
      | nil => exact absurd rfl he
      | cons _ _ => rfl
    obtain ⟨y, hy, el⟩ := ac_loop (k := k) (v := .tup (l.map triD)) (size := size) l none rfl
    have eb : forL (.nm 2) (seqM (iteM (orM (notM (truM (.ex (binM isiD (.sl 2) (.ex (constM (.ty "tuple"))))))) (truB (binM (eqS true) (.ex (unM lenD (.sl 2))) (.ex (constM (.int 3)))))) (retM (constM (.bl false))) nxM)
    (iteM (orM (notM (truM (.ex (binM isiD (.ex (binM ixD (.sl 2) (.ex (constM (.int 0))))) (.ex (constM (.ty "str"))))))) (orM (notM (truM (.ex (binM isiD (.ex (binM ixD (.sl 2) (.ex (constM (.int 1))))) (.ex (constM (.ty "str"))))))) (notM (truM (.ex (callM (sem (k + 1) 0) [.ex (binM ixD (.sl 2) (.ex (constM (.int 2)))), .ex (varM 1)])))))) (retM (constM (.bl false))) nxM)) (l.map triD) [some (.sh, .tup (l.map triD)), some (.sh, .int size), none, none] = _ := el
    cases ha : l.all fun t => inZ t.2.2 size with
    | false =>
      rw [ha] at eb
      refine runF_rt (s := [some (.sh, .tup (l.map triD)), some (.sh, .int size), y, none]) ?_ rfl rfl
      rw [show initS [] 4 [.tup (l.map triD), .int size] = [some (.sh, .tup (l.map triD)), some (.sh, .int size), none, none] from rfl]
      unfold b1
      generalize l.map triD = ds at hne eb
      simp (implicitDefEqProofs := false) [-List.isEmpty_map, hne, eb, chOk, ha]
    | true =>
      rw [ha] at eb
      have e2 := lab_loop (sh := none) (v := some (.sh, .tup (l.map triD))) (sz := some (.sh, .int size)) l [] (by have := hl.1; simp only [List.length_nil]; rw [sizeLine_eq]; omega)
      have es := srtD_map (g := srtSet) hln
      have eq := eq_strs (g := false) hok (srt_okS hok)
      have hk : killAll [some (.sh, D.tup (l.map triD)), some (.sh, D.int size), y, none] [2] = [some (.sh, .tup (l.map triD)), some (.sh, .int size), none, none] := rfl
      have hf : decide (labs l = srtSet (labs l)) = chOk size l := by
        unfold chOk
        rw [hne2, ha, ← Bool.decide_and, Bool.not_false, Bool.true_and, Bool.true_and, Bool.eq_iff_iff, decide_eq_true_iff, decide_eq_true_iff]
        exact srtSet_eq _
      refine runF_rt (s := [some (.sh, .tup (l.map triD)), some (.sh, .int size), none, some (.ow, .lst ((labs l).map D.str))]) ?_ rfl rfl
      rw [show initS [] 4 [.tup (l.map triD), .int size] = [some (.sh, .tup (l.map triD)), some (.sh, .int size), none, none] from rfl]
      rw [← hf]
      unfold b1
      rw [List.nil_append] at e2
      generalize l.map triD = ds at hne eb e2 hk ⊢
      generalize (labs l).map D.str = ls at e2 es eq ⊢
      simp (implicitDefEqProofs := false) [hne, eb, hk, e2, es, eq]
theorem choices_n {k : Nat} {i size : Int} : sem (k + 2) 1 [.int i, .int size] = .ret false (.bl false) [] := by
  rw [se1]
  refine runF_rt (s := [some (.sh, .int i), some (.sh, .int size), none, none]) ?_ rfl rfl
  rw [show initS [] 4 [.int i, .int size] = [some (.sh, .int i), some (.sh, .int size), none, none] from rfl]
  unfold b1
  simp (implicitDefEqProofs := false)
theorem choices_s {k : Nat} {x : Str} {size : Int} : sem (k + 2) 1 [.str x, .int size] = .ret false (.bl false) [] := by
  rw [se1]
  refine runF_rt (s := [some (.sh, .str x), some (.sh, .int size), none, none]) ?_ rfl rfl
  rw [show initS [] 4 [.str x, .int size] = [some (.sh, .str x), some (.sh, .int size), none, none] from rfl]
  unfold b1
  simp (implicitDefEqProofs := false)
end K24

namespace K24
open PySem PySem.Spec PyProof.Rows L2 PV
/-! ### has_form -/
theorem tn : ("n" : Str) = tx [110] := by decide +kernel
theorem tg : ("g" : Str) = tx [103] := by decide +kernel
theorem ts' : ("s" : Str) = tx [115] := by decide +kernel
theorem te : ("e" : Str) = tx [101] := by decide +kernel
theorem tw : ("w" : Str) = tx [119] := by decide +kernel
theorem tc : ("c" : Str) = tx [99] := by decide +kernel
def endsD (es : List Str) : D := .tup (es.map D.str)
theorem flts_strs : ∀ xs : List Str, flts (xs.map D.str) = some (xs.map V.str)
  | [] => rfl
  | x :: xs => by simp [flts, D.flt, flts_strs xs]
theorem inV_strs {x : Str} : ∀ xs : List Str, inV (.str x) (xs.map V.str) = decide (x ∈ xs)
  | [] => by simp [inV]
  | y :: xs => by
    have ih := inV_strs (x := x) xs
    unfold inV at ih ⊢
    rw [List.map_cons, List.any_cons, ih]
    have : eqV (.str y) (.str x) = decide (x = y) := by
      show decide (y = x) = _
      rw [Bool.eq_iff_iff, decide_eq_true_iff, decide_eq_true_iff]
      exact eq_comm
    rw [this, Bool.eq_iff_iff]
    simp
theorem in_tup {n : Bool} {x : Str} {xs : List Str} : inD n (.str x) (.tup (xs.map D.str)) = some (false, .bl (if n then !memB xs x else memB xs x)) := by
  unfold inD
  simp only [flts_strs]
  simp [D.flt, inV_strs, memB]
theorem in_lst {n : Bool} {x : Str} {xs : List Str} : inD n (.str x) (.lst (xs.map D.str)) = some (false, .bl (if n then !memB xs x else memB xs x)) := by
  unfold inD
  simp only [flts_strs]
  simp [D.flt, inV_strs, memB]
theorem yn_tup {n : Bool} {x : Str} : inD n (.str x) (.tup [.str "yes", .str "no"]) = some (false, .bl (if n then !memB ["yes", "no"] x else memB ["yes", "no"] x)) := in_tup (xs := ["yes", "no"])
theorem yn_lst {n : Bool} {x : Str} : inD n (.str x) (.lst [.str "yes", .str "no"]) = some (false, .bl (if n then !memB ["yes", "no"] x else memB ["yes", "no"] x)) := in_lst (xs := ["yes", "no"])
noncomputable def hfB (k : Nat) : M Fl := (seqM (setM 5 (binM isiD (.sl 4) (.ex (constM (.ty "str")))))
    (seqM (iteM (truB (binM (eqS false) (.sl 3) (.ex (constM (.str "n"))))) (setM 5 (callM (sem k 0) [.ex (varM 4), .ex (constM d_SIZE)])) (iteM (truB (binM (eqS false) (.sl 3) (.ex (constM (.str "g"))))) (setM 5 (callM (sem k 0) [.ex (varM 4), .ex (varM 2)])) (iteM (truB (binM (eqS false) (.sl 3) (.ex (constM (.str "e"))))) (setM 5 (andV (varM 5) (binM (inD false) (.sl 4) (.sl 0)))) (iteM (truB (binM (eqS false) (.sl 3) (.ex (constM (.str "w"))))) (setM 5 (andV (varM 5) (binM (inD false) (.sl 4) (.ex (tupM [(constM (.str "yes")), (constM (.str "no"))]))))) (iteM (truB (binM (eqS false) (.sl 3) (.ex (constM (.str "c"))))) (setM 5 (callM (sem k 1) [.ex (varM 4), .ex (varM 2)])) nxM)))))
    (iteM (notM (truM (.sl 5))) (retM (constM (.bl false))) nxM)))
theorem sg_cases {c : Nat} (h : sgB c = true) : c = 110 ∨ c = 115 ∨ c = 103 ∨ c = 101 ∨ c = 119 ∨ c = 99 := by
  unfold sgB at h
  simpa using h
theorem fre_sh {d : D} : fre (some (.sh, d)) = true := rfl
section
variable {a0 a1 a2 a3 a4 x : Slot} {o : Own} {d : D}
theorem pu65 (h : fre x = true) : putS [a0, a1, a2, a3, a4, x] 5 o d = some [a0, a1, a2, a3, a4, some (o, d)] := by
  match x, h with
  | none, _ => rfl
  | some (.sh, _), _ => rfl
end
theorem hf_one {k : Nat} {es : List Str} {xd : D} {size : Int} {c : Nat} {p : Pt} {r : Slot} (hc : sgB c = true) (hp : p.ok) (hr : fre r = true) :
    hfB (k + 2) [some (.sh, endsD es), some (.sh, xd), some (.sh, .int size), some (.sh, .str (tx [c])), some (.sh, p.d), r] =
      .ok (flB (ptOk es size c p)) [some (.sh, endsD es), some (.sh, xd), some (.sh, .int size), some (.sh, .str (tx [c])), some (.sh, p.d), some (.sh, .bl (ptOk es size c p))] := by
  have eZ : d_SIZE = .int szI := rfl
  have z2 : (2 : Nat) ≤ sizeLine := by decide
  have z1 : (1 : Nat) ≤ sizeLine := by decide
  unfold hfB
  rw [eZ]
  cases p with
  | n i =>
    have e1 := isint_n (k := k + 1) (i := i) (size := size)
    have e2 := isint_n (k := k + 1) (i := i) (size := szI)
    have f1 := choices_n (k := k) (i := i) (size := size)
    simp only [ptOk]
    generalize szI = Z at *
    rcases sg_cases hc with rfl | rfl | rfl | rfl | rfl | rfl
    · cases q : inZ i Z <;> simp (implicitDefEqProofs := false) [-ev_putS, pu65, fre_sh, hr, tx_inj, tn, tg, te, tw, tc, Pt.d, e1, e2, q]
    · simp (implicitDefEqProofs := false) [-ev_putS, pu65, fre_sh, hr, tx_inj, tn, tg, te, tw, tc, Pt.d, e1, e2]
    · cases q : inZ i size <;> simp (implicitDefEqProofs := false) [-ev_putS, pu65, fre_sh, hr, tx_inj, tn, tg, te, tw, tc, Pt.d, e1, e2, q]
    · simp (implicitDefEqProofs := false) [-ev_putS, pu65, fre_sh, hr, tx_inj, tn, tg, te, tw, tc, Pt.d, e1, e2]
    · simp (implicitDefEqProofs := false) [-ev_putS, pu65, fre_sh, hr, tx_inj, tn, tg, te, tw, tc, Pt.d, e1, e2]
    · simp (implicitDefEqProofs := false) [-ev_putS, pu65, fre_sh, hr, tx_inj, tn, tg, te, tw, tc, Pt.d, e1, e2, f1]
  | s x =>
    have e3 := isint_s (k := k + 1) (x := x) (size := size)
    have e4 := isint_s (k := k + 1) (x := x) (size := szI)
    have f2 := choices_s (k := k) (x := x) (size := size)
    have g1 := in_tup (n := false) (x := x) (xs := es)
    have g2 := yn_tup (n := false) (x := x)
    simp only [ptOk, endsD]
    generalize szI = Z at *
    generalize es.map D.str = ed at *
    generalize memB es x = q at *
    generalize memB ["yes", "no"] x = q2 at *
    rcases sg_cases hc with rfl | rfl | rfl | rfl | rfl | rfl
    · simp (implicitDefEqProofs := false) [-ev_putS, pu65, fre_sh, hr, tx_inj, tn, tg, te, tw, tc, Pt.d, e3, e4]
    · simp (implicitDefEqProofs := false) [-ev_putS, pu65, fre_sh, hr, tx_inj, tn, tg, te, tw, tc, Pt.d, e3, e4]
    · simp (implicitDefEqProofs := false) [-ev_putS, pu65, fre_sh, hr, tx_inj, tn, tg, te, tw, tc, Pt.d, e3, e4]
    · cases q <;> simp (implicitDefEqProofs := false) [-ev_putS, pu65, fre_sh, hr, tx_inj, tn, tg, te, tw, tc, Pt.d, e3, e4, g1]
    · cases q2 <;> simp (implicitDefEqProofs := false) [-ev_putS, pu65, fre_sh, hr, tx_inj, tn, tg, te, tw, tc, Pt.d, e3, e4, g2, z2]
    · simp (implicitDefEqProofs := false) [-ev_putS, pu65, fre_sh, hr, tx_inj, tn, tg, te, tw, tc, Pt.d, e3, e4, f2]
  | c l =>
    have e5 := isint_t (k := k + 1) (ds := l.map triD) (size := size)
    have e6 := isint_t (k := k + 1) (ds := l.map triD) (size := szI)
    have f3 := choices_c (k := k) (size := size) hp
    simp only [ptOk, Pt.d]
    generalize szI = Z at *
    generalize l.map triD = ld at *
    rcases sg_cases hc with rfl | rfl | rfl | rfl | rfl | rfl
    · simp (implicitDefEqProofs := false) [-ev_putS, pu65, fre_sh, hr, tx_inj, tn, tg, te, tw, tc, e5, e6]
    · simp (implicitDefEqProofs := false) [-ev_putS, pu65, fre_sh, hr, tx_inj, tn, tg, te, tw, tc, e5, e6]
    · simp (implicitDefEqProofs := false) [-ev_putS, pu65, fre_sh, hr, tx_inj, tn, tg, te, tw, tc, e5, e6]
    · simp (implicitDefEqProofs := false) [-ev_putS, pu65, fre_sh, hr, tx_inj, tn, tg, te, tw, tc, e5, e6]
    · simp (implicitDefEqProofs := false) [-ev_putS, pu65, fre_sh, hr, tx_inj, tn, tg, te, tw, tc, e5, e6]
    · cases q : chOk size l <;> simp (implicitDefEqProofs := false) [-ev_putS, pu65, fre_sh, hr, tx_inj, tn, tg, te, tw, tc, e5, e6, f3, q]
end K24

namespace K24
open PySem PySem.Spec PyProof.Rows L2 PV
theorem put34 {a0 a1 a2 s3 s4 s5 : Slot} {a b : D} (h3 : fre s3 = true) (h4 : fre s4 = true) : (Tg.tp [.nm 3, .nm 4]).put (.tup [a, b]) [a0, a1, a2, s3, s4, s5] = some [a0, a1, a2, some (.sh, a), some (.sh, b), s5] := by
  rw [Tg.put]
  show Tg.puts [.nm 3, .nm 4] [a, b] _ = _
  rw [Tg.puts, put_fre (x := s3) rfl h3, Option.bind_some, Tg.puts]
  show ((Tg.nm 4).put b [a0, a1, a2, some (.sh, a), s4, s5]).bind _ = _
  rw [put_fre (x := s4) rfl h4, Option.bind_some, Tg.puts]
  rfl
theorem hf_loop {k : Nat} {es : List Str} {xd : D} {size : Int} : ∀ (zs : List (Nat × Pt)) (s3 s4 s5 : Slot), fre s3 = true → fre s4 = true → fre s5 = true → (∀ q, q ∈ zs → sgB q.1 = true ∧ q.2.ok) →
    ∃ t3 t4 t5 : Slot, forL (.tp [.nm 3, .nm 4]) (hfB (k + 2)) (zs.map fun q => .tup [.str (tx [q.1]), q.2.d]) [some (.sh, endsD es), some (.sh, xd), some (.sh, .int size), s3, s4, s5] =
      .ok (flB (zs.all fun q => ptOk es size q.1 q.2)) [some (.sh, endsD es), some (.sh, xd), some (.sh, .int size), t3, t4, t5]
  | [], s3, s4, s5, _, _, _, _ => ⟨s3, s4, s5, rfl⟩
  | q :: zs, s3, s4, s5, h3, h4, h5, h => by
    obtain ⟨hq1, hq2⟩ := h q List.mem_cons_self
    obtain ⟨t3, t4, t5, ih⟩ := hf_loop (k := k) (es := es) (xd := xd) (size := size) zs (some (.sh, .str (tx [q.1]))) (some (.sh, q.2.d)) (some (.sh, .bl (ptOk es size q.1 q.2))) rfl rfl rfl fun z m => h z (List.mem_cons_of_mem _ m)
    rw [List.map_cons, ev_for1, put34 h3 h4, List.all_cons]
    show ∃ t3 t4 t5, (hfB (k + 2) _).bind _ = _
    rw [hf_one hq1 hq2 h5, Res.bind_ok]
    cases e : ptOk es size q.1 q.2 with
    | true =>
      rw [e] at ih
      exact ⟨t3, t4, t5, by rw [Bool.true_and]; exact ih⟩
    | false => exact ⟨_, _, _, rfl⟩
section
variable {x : Ins}
theorem ins0 : ixD (insD x) (.int 0) = some (false, .str x.1) := by
  unfold insD
  rw [v_ixT, show (0 : Int) = ((0 : Nat) : Int) from rfl, at_nat]
  rfl
theorem insL : lenD (insD x) = some (false, .int ((x.2.length + 1 : Nat) : Int)) := by
  show some (false, D.int ((List.length (D.str x.1 :: x.2.map Pt.d) : Nat) : Int)) = _
  rw [List.length_cons, List.length_map]
theorem insT : sliceD (some 1) none (insD x) = some (false, .tup (x.2.map Pt.d)) := by
  have e : cutL (D.str x.1 :: x.2.map Pt.d) (some 1) none = x.2.map Pt.d := by
    unfold cutL
    rw [HT.sIx_none]
    have h1 : HT.sIx (D.str x.1 :: x.2.map Pt.d).length 0 (some ((1 : Nat) : Int)) = 1 := by
      rw [HT.sIx_nat, List.length_cons]
      omega
    have h2 : HT.sIx (D.str x.1 :: x.2.map Pt.d).length 0 (some 1) = 1 := h1
    rw [h2, List.drop_succ_cons, List.drop_zero, List.take_of_length_le]
    simp
  show some (false, D.tup (cutL (D.str x.1 :: x.2.map Pt.d) (some 1) none)) = _
  rw [e]
end
theorem zz {sh : List Nat} {ps : List Pt} : zipD (tx sh) (ps.map Pt.d) = (sh.zip ps).map fun q => .tup [.str (tx [q.1]), q.2.d] := by
  unfold zipD
  rw [tx_list, List.zip_map_right, List.map_map]
  rfl
theorem has_form {k : Nat} {es : List Str} {x : Ins} {size : Int} (hx : InsK x) : sem (k + 3) 2 [endsD es, insD x, .int size] = .ret false (.bl (insOk es size x)) [] := by
  rw [se2]
  have z1 : (1 : Nat) ≤ sizeLine := by decide
  rcases @shOf_get x.1 with ⟨sh, e1, e2, hs, hl2⟩ | ⟨e1, e2⟩
  · have hl : sh.length ≤ sizeLine := by rw [sizeLine_eq]; omega
    have hk : kinD true kd_SHAPES (.str x.1) = some (false, .bl false) := by
      show some (false, D.bl (if true = true then !(tget kd_SHAPES x.1).isSome else (tget kd_SHAPES x.1).isSome)) = _
      rw [e1]; rfl
    have hx2 : kixD kd_SHAPES (.str x.1) = some (false, .str (tx sh)) := by
      show (tget kd_SHAPES x.1).map _ = _
      rw [e1]; rfl
    have hi : insOk es size x = (decide (x.2.length = sh.length) && (sh.zip x.2).all fun q => ptOk es size q.1 q.2) := by
      unfold insOk
      rw [e2]
    have hcmp : decide (((x.2.length + 1 : Nat) : Int) = (sh.length : Int) + 1) = decide (x.2.length = sh.length) := by
      rw [Bool.eq_iff_iff, decide_eq_true_iff, decide_eq_true_iff]
      omega
    obtain ⟨t3, t4, t5, el⟩ := hf_loop (k := k) (es := es) (xd := insD x) (size := size) (sh.zip x.2) none none none rfl rfl rfl fun q m => ⟨hs _ (List.of_mem_zip m).1, hx.p _ (List.of_mem_zip m).2⟩
    have eb : forL (.tp [.nm 3, .nm 4]) (seqM (setM 5 (binM isiD (.sl 4) (.ex (constM (.ty "str")))))
    (seqM (iteM (truB (binM (eqS false) (.sl 3) (.ex (constM (.str "n"))))) (setM 5 (callM (sem (k + 2) 0) [.ex (varM 4), .ex (constM d_SIZE)])) (iteM (truB (binM (eqS false) (.sl 3) (.ex (constM (.str "g"))))) (setM 5 (callM (sem (k + 2) 0) [.ex (varM 4), .ex (varM 2)])) (iteM (truB (binM (eqS false) (.sl 3) (.ex (constM (.str "e"))))) (setM 5 (andV (varM 5) (binM (inD false) (.sl 4) (.sl 0)))) (iteM (truB (binM (eqS false) (.sl 3) (.ex (constM (.str "w"))))) (setM 5 (andV (varM 5) (binM (inD false) (.sl 4) (.ex (tupM [(constM (.str "yes")), (constM (.str "no"))]))))) (iteM (truB (binM (eqS false) (.sl 3) (.ex (constM (.str "c"))))) (setM 5 (callM (sem (k + 2) 1) [.ex (varM 4), .ex (varM 2)])) nxM)))))
    (iteM (notM (truM (.sl 5))) (retM (constM (.bl false))) nxM))) _ _ = _ := el
    rw [← zz] at eb
    have i1 : ixD (insD x) (.int 0) = some (false, .str x.1) := ins0
    have i2 := insL (x := x)
    have i3 := insT (x := x)
    rw [hi]
    by_cases hlen : x.2.length = sh.length
    · rw [decide_eq_true hlen] at hcmp
      rw [decide_eq_true hlen, Bool.true_and]
      refine runF_rt (s := [some (.sh, endsD es), some (.sh, insD x), some (.sh, .int size), t3, t4, t5]) ?_ rfl rfl
      rw [show initS [] 6 [endsD es, insD x, .int size] = [some (.sh, endsD es), some (.sh, insD x), some (.sh, .int size), none, none, none] from rfl]
      unfold b2
      generalize insD x = X at *
      generalize endsD es = ED at *
      generalize ((sh.zip x.2).all fun q => ptOk es size q.1 q.2) = R at *
      generalize kd_SHAPES = KS at *
      have tl := t_len (l := sh) hl
      have hc2 := of_decide_eq_true hcmp
      generalize tx sh = TS at *
      cases R <;> simp (implicitDefEqProofs := false) [i1, i2, i3, hk, hx2, tl, hc2, eb]
    · rw [decide_eq_false hlen] at hcmp
      rw [decide_eq_false hlen, Bool.false_and]
      refine runF_rt (s := [some (.sh, endsD es), some (.sh, insD x), some (.sh, .int size), none, none, none]) ?_ rfl rfl
      rw [show initS [] 6 [endsD es, insD x, .int size] = [some (.sh, endsD es), some (.sh, insD x), some (.sh, .int size), none, none, none] from rfl]
      unfold b2
      generalize insD x = X at *
      generalize endsD es = ED at *
      generalize kd_SHAPES = KS at *
      have tl := t_len (l := sh) hl
      have hc2 := of_decide_eq_false hcmp
      have hc3 : ¬ ((x.2.length : Int) = (sh.length : Int)) := by omega
      generalize tx sh = TS at *
      simp (implicitDefEqProofs := false) [i1, i2, i3, hk, hx2, tl, hc2, hc3]
  · have hk : kinD true kd_SHAPES (.str x.1) = some (false, .bl true) := by
      show some (false, D.bl (if true = true then !(tget kd_SHAPES x.1).isSome else (tget kd_SHAPES x.1).isSome)) = _
      rw [e1]; rfl
    have hi : insOk es size x = false := by
      unfold insOk
      rw [e2]
    rw [hi]
    refine runF_rt (s := [some (.sh, endsD es), some (.sh, insD x), some (.sh, .int size), none, none, none]) ?_ rfl rfl
    rw [show initS [] 6 [endsD es, insD x, .int size] = [some (.sh, endsD es), some (.sh, insD x), some (.sh, .int size), none, none, none] from rfl]
    have i1 : ixD (insD x) (.int 0) = some (false, .str x.1) := ins0
    unfold b2
    generalize insD x = X at *
    generalize endsD es = ED at *
    generalize kd_SHAPES = KS at *
    simp (implicitDefEqProofs := false) [i1, hk]
end K24

namespace K24
open PySem PySem.Spec PyProof.Rows L2 PV
/-! ### _law_choices_ok -/
def dupAt (xs : List Str) (j : Nat) : Bool := memB (xs.take j) (xs.getD j "")
theorem take_nodup {xs : List Str} : ∀ n : Nat, n ≤ xs.length → ((∀ j, j < n → dupAt xs j = false) ↔ (xs.take n).Nodup)
  | 0, _ => by simp
  | n + 1, h => by
    have ih := take_nodup (xs := xs) n (by omega)
    have hn : n < xs.length := by omega
    have e : xs.take (n + 1) = xs.take n ++ [xs[n]] := by rw [List.take_succ_eq_append_getElem hn]
    have hg : xs.getD n "" = xs[n] := by simp [List.getD, List.getElem?_eq_getElem hn]
    rw [e, List.nodup_append]
    constructor
    · intro q
      refine ⟨ih.mp fun j hj => q j (by omega), by simp, fun a ha b hb => ?_⟩
      rw [List.mem_singleton.mp hb]
      rintro rfl
      have := q n (by omega)
      unfold dupAt memB at this
      rw [hg] at this
      exact of_decide_eq_false this ha
    · rintro ⟨q1, _, q2⟩ j hj
      by_cases hjn : j = n
      · subst hjn
        unfold dupAt memB
        rw [hg]
        exact decide_eq_false fun m => q2 _ m _ (List.mem_singleton.mpr rfl) rfl
      · exact ih.mpr q1 j (by omega)
theorem dup_nodup {xs : List Str} : ((List.range xs.length).filter (dupAt xs)).length = 0 ↔ xs.Nodup := by
  have h := take_nodup (xs := xs) xs.length (Nat.le_refl _)
  rw [List.take_length] at h
  rw [← h, List.length_eq_zero_iff, List.filter_eq_nil_iff]
  constructor
  · intro q j hj
    simpa using q j (List.mem_range.mpr hj)
  · intro q j hj
    rw [q j (List.mem_range.mp hj)]
    exact Bool.false_ne_true
theorem slice_to {ds : List D} {j : Nat} (h : j ≤ ds.length) : sliceD none (some (j : Int)) (.lst ds) = some (true, .lst (ds.take j)) := by
  have e : cutL ds none (some (j : Int)) = ds.take j := by
    unfold cutL
    rw [HT.sIx_none, HT.sIx_nat, Nat.min_eq_left h]
    simp
  show some (true, D.lst (cutL ds none (some (j : Int)))) = _
  rw [e]
theorem ix_strs {xs : List Str} {j : Nat} (h : j < xs.length) : ixD (.lst (xs.map D.str)) (.int j) = some (false, .str (xs.getD j "")) := by
  rw [v_ixL, at_nat, List.getElem?_map, List.getElem?_eq_getElem h]
  simp [List.getD, List.getElem?_eq_getElem h]
@[simp] theorem ev_sl_nh (a h : Opd) (s : S) : sliceM a none (some h) s = opsM [a, .ex (intM h)] (fun ds s => match ds with
    | [x, .int j] => (match sliceD none (some j) x with | some r => .ok r s | none => .stuck)
    | _ => .stuck) s := rfl
theorem dup_loop {p sz o : Slot} {xs : List Str} : ∀ (js : List Nat) (acc : List D), (∀ j, j ∈ js → j < xs.length) → acc.length + js.length ≤ sizeLine →
    lcL (.nm 4) (truB (binM (inD false) (.ex (binM ixD (.sl 3) (.sl 4))) (.ex (sliceM (.sl 3) none (some (.sl 4)))))) (varM 4) [4] (js.map fun i => .int (0 + (i : Nat))) acc [p, sz, o, some (.ow, .lst (xs.map D.str)), none] =
      .ok (acc ++ (js.filter (dupAt xs)).map fun j => .int (j : Nat)) [p, sz, o, some (.ow, .lst (xs.map D.str)), none]
  | [], acc, _, _ => by simp [lcL]
  | j :: js, acc, h, hz => by
    rw [List.length_cons] at hz
    have hj := h j List.mem_cons_self
    have i1 := ix_strs hj
    have i2 := slice_to (ds := xs.map D.str) (j := j) (by rw [List.length_map]; omega)
    rw [← List.map_take] at i2
    have i3 : inD false (.str (xs.getD j "")) (.lst ((xs.take j).map D.str)) = some (false, .bl (dupAt xs j)) := in_lst
    have hz2 : acc.length < sizeLine := by omega
    rw [List.map_cons, lcL, ev_putN, Int.zero_add]
    generalize xs.getD j "" = g at *
    generalize (xs.take j).map D.str = ts at *
    cases q : dupAt xs j with
    | true =>
      have ih := dup_loop (p := p) (sz := sz) (o := o) (xs := xs) js (acc ++ [.int j]) (fun i m => h i (List.mem_cons_of_mem _ m)) (by rw [List.length_append]; simp only [List.length_cons, List.length_nil]; omega)
      simp only [Int.zero_add, List.append_assoc, List.cons_append, List.nil_append] at ih
      rw [q] at i3
      rw [List.filter_cons_of_pos q]
      generalize xs.map D.str = ds at *
      simp (implicitDefEqProofs := false) [-v_ixL, i1, i2, i3, nox, hz2, killAll, ih]
    | false =>
      have ih := dup_loop (p := p) (sz := sz) (o := o) (xs := xs) js acc (fun i m => h i (List.mem_cons_of_mem _ m)) (by omega)
      simp only [Int.zero_add, List.append_assoc, List.cons_append, List.nil_append] at ih
      rw [q] at i3
      rw [List.filter_cons_of_neg (by rw [q]; exact Bool.false_ne_true)]
      generalize xs.map D.str = ds at *
      simp (implicitDefEqProofs := false) [-v_ixL, i1, i2, i3, nox, killAll, ih]
theorem lab_loop5 {sh s4 : Slot} {v sz : Slot} : ∀ (l : List (Str × Str × Int)) (acc : List D), acc.length + l.length ≤ sizeLine →
    lcL (.nm 2) yesM (binM ixD (.sl 2) (.ex (constM (.int 0)))) [2] (l.map triD) acc [v, sz, none, sh, s4] = .ok (acc ++ (labs l).map D.str) [v, sz, none, sh, s4]
  | [], acc, _ => by simp [lcL, labs]
  | t :: l, acc, h => by
    rw [List.length_cons] at h
    have ih := lab_loop5 (sh := sh) (v := v) (sz := sz) (s4 := s4) l (acc ++ [.str t.1]) (by rw [List.length_append]; simp only [List.length_cons, List.length_nil]; omega)
    rw [List.map_cons, lcL, ev_putN]
    have hz : acc.length < sizeLine := by omega
    simp (implicitDefEqProofs := false) [-v_ixT, tri0, nox, hz, killAll, ih, labs]
noncomputable def lcB : M Fl := (seqM (iteM (orM (notM (truM (.ex (binM isiD (.sl 2) (.ex (constM (.ty "tuple"))))))) (orM (truB (binM (eqS true) (.ex (unM lenD (.sl 2))) (.ex (constM (.int 3))))) (orM (notM (truM (.ex (binM isiD (.ex (binM ixD (.sl 2) (.ex (constM (.int 0))))) (.ex (constM (.ty "str"))))))) (notM (truM (.ex (binM isiD (.ex (binM ixD (.sl 2) (.ex (constM (.int 1))))) (.ex (constM (.ty "str")))))))))) (retM (constM (.bl false))) nxM)
    (iteM (orM (notM (truM (.ex (binM isiD (.ex (binM ixD (.sl 2) (.ex (constM (.int 2))))) (.ex (constM (.ty "int"))))))) (orM (truM (.ex (binM isiD (.ex (binM ixD (.sl 2) (.ex (constM (.int 2))))) (.ex (constM (.ty "bool")))))) (notM (truB (chainM leD ltD (constM (.int 0)) (binM ixD (.sl 2) (.ex (constM (.int 2)))) (varM 1)))))) (retM (constM (.bl false))) nxM))
theorem lc_one {v : D} {size : Int} {t : Str × Str × Int} : lcB [some (.sh, v), some (.sh, .int size), some (.sh, triD t), none, none] = .ok (flB (inZ t.2.2 size)) [some (.sh, v), some (.sh, .int size), some (.sh, triD t), none, none] := by
  unfold lcB inZ
  have i0 := tri0 (t := t)
  have i1 := tri1 (t := t)
  have i2 := tri2 (t := t)
  have i3 := triL (t := t)
  have i4 := triI (t := t)
  generalize triD t = T at *
  generalize t.2.2 = z at *
  by_cases h1 : 0 ≤ z <;> by_cases h2 : z < size <;> simp (implicitDefEqProofs := false) [i0, i1, i2, i3, i4, h1, h2]
theorem lc_loop {v : D} {size : Int} : ∀ (l : List (Str × Str × Int)) (x : Slot), fre x = true → ∃ y : Slot, fre y = true ∧
    forL (.nm 2) lcB (l.map triD) [some (.sh, v), some (.sh, .int size), x, none, none] = .ok (flB (l.all fun t => inZ t.2.2 size)) [some (.sh, v), some (.sh, .int size), y, none, none]
  | [], x, h => ⟨x, h, rfl⟩
  | t :: l, x, h => by
    obtain ⟨y, hy, ih⟩ := lc_loop (v := v) (size := size) l (some (.sh, triD t)) rfl
    rw [List.map_cons, ev_for1, put_fre (x := x) rfl h, List.all_cons]
    show ∃ y, _ ∧ (lcB [some (.sh, v), some (.sh, .int size), some (.sh, triD t), none, none]).bind _ = _
    rw [lc_one, Res.bind_ok]
    cases q : inZ t.2.2 size with
    | true => exact ⟨y, hy, by rw [Bool.true_and]; exact ih⟩
    | false => exact ⟨some (.sh, triD t), rfl, rfl⟩
theorem lchoices_c {k : Nat} {l : List (Str × Str × Int)} {size : Int} (hl : (Pt.c l).ok) : sem (k + 1) 13 [.tup (l.map triD), .int size] = .ret false (.bl (chOk size l)) [] := by
  have hok : ∀ x, x ∈ labs l → okS x = true := fun x m => by
    obtain ⟨t, m', rfl⟩ := List.mem_map.mp m
    exact (hl.2 t m').1
  have hln : (labs l).length < 63 := by simpa [labs] using hl.1
  rw [se13]
  have enil := eq_nilT (g := false) (sh_chs hl) (by decide)
  rw [List.isEmpty_map] at enil
  have z0 : (0 : Nat) ≤ sizeLine := by decide
  by_cases he : l.isEmpty = true
  · have hch : chOk size l = false := by unfold chOk; rw [he]; rfl
    rw [hch]
    rw [he] at enil
    refine runF_rt (s := [some (.sh, .tup (l.map triD)), some (.sh, .int size), none, none, none]) ?_ rfl rfl
    rw [show initS [] 5 [.tup (l.map triD), .int size] = [some (.sh, .tup (l.map triD)), some (.sh, .int size), none, none, none] from rfl]
    unfold b13
    generalize l.map triD = ds at *
    simp (implicitDefEqProofs := false) [enil]
  · have he' : l.isEmpty = false := by simpa using he
    rw [he'] at enil
    obtain ⟨y, hy, el⟩ := lc_loop (v := .tup (l.map triD)) (size := size) l none rfl
    unfold lcB at el
    cases ha : l.all fun t => inZ t.2.2 size with
    | false =>
      have hch : chOk size l = false := by unfold chOk; rw [he', ha]; rfl
      rw [hch]
      rw [ha] at el
      refine runF_rt (s := [some (.sh, .tup (l.map triD)), some (.sh, .int size), y, none, none]) ?_ rfl rfl
      rw [show initS [] 5 [.tup (l.map triD), .int size] = [some (.sh, .tup (l.map triD)), some (.sh, .int size), none, none, none] from rfl]
      unfold b13
      generalize l.map triD = ds at *
      simp (implicitDefEqProofs := false) [enil, el]
    | true =>
      rw [ha] at el
      have e2 := lab_loop5 (sh := none) (s4 := none) (v := some (.sh, .tup (l.map triD))) (sz := some (.sh, .int size)) l [] (by have := hl.1; simp only [List.length_nil]; rw [sizeLine_eq]; omega)
      rw [List.nil_append] at e2
      have es := srtD_map (g := srtL) hln
      have eq := eq_strs (g := false) hok (srtL_okS hok)
      have hk : killAll [some (.sh, D.tup (l.map triD)), some (.sh, D.int size), y, none, none] [2] = [some (.sh, .tup (l.map triD)), some (.sh, .int size), none, none, none] := rfl
      have ed := dup_loop (p := some (.sh, .tup (l.map triD))) (sz := some (.sh, .int size)) (o := none) (xs := labs l) (List.range (labs l).length) [] (fun j m => List.mem_range.mp m) (by rw [List.length_range, sizeLine_eq]; simp only [List.length_nil]; omega)
      rw [List.nil_append] at ed
      have ed : lcL (.nm 4) (truB (binM (inD false) (.ex (binM ixD (.sl 3) (.sl 4))) (.ex (sliceM (.sl 3) none (some (.sl 4)))))) (varM 4) [4] (intsD 0 (labs l).length) [] [some (.sh, .tup (l.map triD)), some (.sh, .int size), none, some (.ow, .lst ((labs l).map D.str)), none] = _ := ed
      have el3 : lenD (.lst ((labs l).map D.str)) = some (false, .int (labs l).length) := by
        show some (false, D.int ((List.length _ : Nat) : Int)) = _
        rw [List.length_map]
      have er : rngD (.int (labs l).length) = some (intsD 0 (labs l).length) := rng_nat (by rw [sizeLine_eq]; omega)
      have hf : chOk size l = (decide (labs l = srtL (labs l)) && decide (((List.range (labs l).length).filter (dupAt (labs l))).length = 0)) := by
        unfold chOk
        rw [he', ha, Bool.not_false, Bool.true_and, Bool.true_and]
        congr 1
        · rw [Bool.eq_iff_iff, decide_eq_true_iff, decide_eq_true_iff]
          exact (srtL_eq _).symm
        · rw [Bool.eq_iff_iff, decide_eq_true_iff, decide_eq_true_iff]
          exact dup_nodup.symm
      rw [hf]
      refine runF_rt (s := [some (.sh, .tup (l.map triD)), some (.sh, .int size), none, some (.ow, .lst ((labs l).map D.str)), none]) ?_ rfl rfl
      rw [show initS [] 5 [.tup (l.map triD), .int size] = [some (.sh, .tup (l.map triD)), some (.sh, .int size), none, none, none] from rfl]
      unfold b13
      generalize hN : (labs l).length = N at *
      generalize List.filter (dupAt (labs l)) (List.range N) = fl at *
      generalize decide (labs l = srtL (labs l)) = q at *
      generalize l.map triD = ds at *
      generalize (labs l).map D.str = ls at *
      have hc : (((fl.map fun j => D.int (j : Nat)).length : Nat) : Int) = (fl.length : Int) := by rw [List.length_map]
      have hc2 : decide ((fl.length : Int) = 0) = decide (fl.length = 0) := by rw [Bool.eq_iff_iff, decide_eq_true_iff, decide_eq_true_iff]; omega
      generalize fl.length = M at *
      have eL : lenD (.lst (fl.map fun j => D.int (j : Nat))) = some (false, .int M) := by
        show some (false, D.int ((List.length _ : Nat) : Int)) = _
        rw [hc]
      generalize (fl.map fun j => D.int (j : Nat)) = fd at *
      cases q <;> by_cases hM : M = 0 <;> simp (implicitDefEqProofs := false) [-v_lenL, enil, el, hk, e2, es, eq, el3, er, killAll, ed, eL, hM]
theorem lchoices_n {k : Nat} {i size : Int} : sem (k + 1) 13 [.int i, .int size] = .ret false (.bl false) [] := by
  rw [se13]
  refine runF_rt (s := [some (.sh, .int i), some (.sh, .int size), none, none, none]) ?_ rfl rfl
  rw [show initS [] 5 [.int i, .int size] = [some (.sh, .int i), some (.sh, .int size), none, none, none] from rfl]
  unfold b13
  simp (implicitDefEqProofs := false)
theorem lchoices_s {k : Nat} {x : Str} {size : Int} : sem (k + 1) 13 [.str x, .int size] = .ret false (.bl false) [] := by
  rw [se13]
  refine runF_rt (s := [some (.sh, .str x), some (.sh, .int size), none, none, none]) ?_ rfl rfl
  rw [show initS [] 5 [.str x, .int size] = [some (.sh, .str x), some (.sh, .int size), none, none, none] from rfl]
  unfold b13
  simp (implicitDefEqProofs := false)
end K24

namespace K24
open PySem PySem.Spec PyProof.Rows L2 PV
/-! ### _law_shape_ok -/
def kk (l : List (Str × D)) : List (Key × D) := l.map fun q => (.inr q.1, q.2)
theorem kget_kk {w : Str} : ∀ l : List (Str × D), kget (kk l) (.inr w) = tget l w
  | [] => rfl
  | (k, d) :: r => by
    have ih := kget_kk (w := w) r
    unfold kget kk at ih ⊢
    rw [List.map_cons, tget]
    by_cases h : k = w
    · subst h
      simp
    · have h2 : ¬ ((Sum.inr k : Key) = Sum.inr w) := fun e => h (Sum.inr.inj e)
      rw [List.find?_cons_of_neg (by simpa using h), if_neg h]
      exact ih
theorem tget_app {w : Str} : ∀ a b : List (Str × D), tget (a ++ b) w = (tget a w).or (tget b w)
  | [], b => by rw [List.nil_append]; rfl
  | (k, d) :: r, b => by
    rw [List.cons_append, tget, tget]
    split
    · rfl
    · exact tget_app r b
def shA : List (Str × D) := kd_SHAPES.take 9
def shB : List (Str × D) := kd_SHAPES.drop 9
theorem sh_get {w : Str} : (kget (kk shA) (.inr w)).getD ((kget (kk shB) (.inr w)).getD .non) = (tget kd_SHAPES w).getD .non := by
  rw [kget_kk, kget_kk]
  have : tget kd_SHAPES w = (tget shA w).or (tget shB w) := by
    rw [← tget_app]
    rfl
  rw [this]
  cases tget shA w <;> rfl
noncomputable def lsD3 : M Fl := (setM 3 (dispM [((constM (.str "push")), (constM (.str "n"))), ((constM (.str "load")), (constM (.str "s"))), ((constM (.str "store")), (constM (.str "s"))), ((constM (.str "add")), (constM (.str ""))), ((constM (.str "sub")), (constM (.str ""))), ((constM (.str "mul")), (constM (.str ""))), ((constM (.str "less")), (constM (.str ""))), ((constM (.str "same")), (constM (.str ""))), ((constM (.str "jump")), (constM (.str "g")))]))
noncomputable def lsD4 : M Fl := (setM 4 (dispM [((constM (.str "zero")), (constM (.str "g"))), ((constM (.str "emit")), (constM (.str "es"))), ((constM (.str "wait")), (constM (.str "ec"))), ((constM (.str "input")), (constM (.str "s"))), ((constM (.str "round")), (constM (.str "ng"))), ((constM (.str "yes")), (constM (.str "n"))), ((constM (.str "no")), (constM (.str "n"))), ((constM (.str "test")), (constM (.str "w"))), ((constM (.str "stop")), (constM (.str "")))]))
theorem km3 : kmerge [] [((.inr "push" : Key), (D.str "n")), (.inr "load", .str "s"), (.inr "store", .str "s"), (.inr "add", .str ""), (.inr "sub", .str ""), (.inr "mul", .str ""), (.inr "less", .str ""), (.inr "same", .str ""), (.inr "jump", .str "g")] = kk shA := by kernel_rfl
theorem km4 : kmerge [] [((.inr "zero" : Key), (D.str "g")), (.inr "emit", .str "es"), (.inr "wait", .str "ec"), (.inr "input", .str "s"), (.inr "round", .str "ng"), (.inr "yes", .str "n"), (.inr "no", .str "n"), (.inr "test", .str "w"), (.inr "stop", .str "")] = kk shB := by kernel_rfl
theorem ls_3 {a0 a1 a2 a4 a5 a6 a7 a8 : Slot} : lsD3 [a0, a1, a2, none, a4, a5, a6, a7, a8] = .ok .nx [a0, a1, a2, some (.ow, .dct (kk shA)), a4, a5, a6, a7, a8] := by
  unfold lsD3
  simp (implicitDefEqProofs := false) [km3]
theorem ls_4 {a0 a1 a2 a3 a5 a6 a7 a8 : Slot} : lsD4 [a0, a1, a2, a3, none, a5, a6, a7, a8] = .ok .nx [a0, a1, a2, a3, some (.ow, .dct (kk shB)), a5, a6, a7, a8] := by
  unfold lsD4
  simp (implicitDefEqProofs := false) [km4]
noncomputable def lsB (k : Nat) : M Fl := (seqM (setM 7 (binM ixD (.sl 1) (.ex (binM addD (.sl 6) (.ex (constM (.int 1)))))))
    (seqM (setM 8 (andV (binM isiD (.sl 7) (.ex (constM (.ty "int")))) (notV (.ex (binM isiD (.sl 7) (.ex (constM (.ty "bool"))))))))
    (seqM (iteM (orM (andM (truB (binM (eqS false) (.ex (binM ixD (.sl 5) (.sl 6))) (.ex (constM (.str "n"))))) (notM (andM (truM (.sl 8)) (truB (chainM leD ltD (constM (.int 0)) (varM 7) (constM (.int szI))))))) (andM (truB (binM (eqS false) (.ex (binM ixD (.sl 5) (.sl 6))) (.ex (constM (.str "g"))))) (notM (andM (truM (.sl 8)) (truB (chainM leD ltD (constM (.int 0)) (varM 7) (varM 2))))))) (retM (constM (.bl false))) nxM)
    (seqM (iteM (orM (andM (truB (binM (inD false) (.ex (binM ixD (.sl 5) (.sl 6))) (.ex (constM (.str "sew"))))) (notM (truM (.ex (binM isiD (.sl 7) (.ex (constM (.ty "str")))))))) (andM (truB (binM (eqS false) (.ex (binM ixD (.sl 5) (.sl 6))) (.ex (constM (.str "e"))))) (truB (binM (inD true) (.sl 7) (.sl 0))))) (retM (constM (.bl false))) nxM)
    (iteM (orM (andM (truB (binM (eqS false) (.ex (binM ixD (.sl 5) (.sl 6))) (.ex (constM (.str "w"))))) (truB (binM (inD true) (.sl 7) (.ex (lstM [(constM (.str "yes")), (constM (.str "no"))]))))) (andM (truB (binM (eqS false) (.ex (binM ixD (.sl 5) (.sl 6))) (.ex (constM (.str "c"))))) (notM (truM (.ex (callM (sem k 13) [.ex (varM 7), .ex (varM 2)])))))) (retM (constM (.bl false))) nxM)))))
section
variable {a0 a1 a2 a3 a4 a5 a6 a7 a8 x : Slot} {o : Own} {d : D}
theorem pu97 (h : fre x = true) : putS [a0, a1, a2, a3, a4, a5, a6, x, a8] 7 o d = some [a0, a1, a2, a3, a4, a5, a6, some (o, d), a8] := by
  match x, h with
  | none, _ => rfl
  | some (.sh, _), _ => rfl
theorem pu98 (h : fre x = true) : putS [a0, a1, a2, a3, a4, a5, a6, a7, x] 8 o d = some [a0, a1, a2, a3, a4, a5, a6, a7, some (o, d)] := by
  match x, h with
  | none, _ => rfl
  | some (.sh, _), _ => rfl
end
theorem sewF : hasC "sew" 110 = false ∧ hasC "sew" 115 = true ∧ hasC "sew" 103 = false ∧ hasC "sew" 101 = true ∧ hasC "sew" 119 = true ∧ hasC "sew" 99 = false := by decide +kernel
def isN : Pt → Bool
  | .n _ => true
  | _ => false
theorem ls_one {k : Nat} {es : List Str} {xd : D} {size : Int} {sh : List Nat} {j c : Nat} {p : Pt} {s3 s4 s7 s8 : Slot} (hs : sh.length ≤ sizeLine) (hj : sh[j]? = some c) (hp1 : ixD xd (.int ((j : Int) + 1)) = some (false, p.d)) (hc : sgB c = true) (hp : p.ok) (h7 : fre s7 = true) (h8 : fre s8 = true) :
    lsB (k + 1) [some (.sh, endsD es), some (.sh, xd), some (.sh, .int size), s3, s4, some (.sh, .str (tx sh)), some (.sh, .int j), s7, s8] =
      .ok (flB (ptOk es size c p)) [some (.sh, endsD es), some (.sh, xd), some (.sh, .int size), s3, s4, some (.sh, .str (tx sh)), some (.sh, .int j), some (.sh, p.d), some (.sh, .bl (isN p))] := by
  have z2 : (2 : Nat) ≤ sizeLine := by decide
  have hsh : ixD (.str (tx sh)) (.int j) = some (false, .str (tx [c])) := t_ix hs hj
  obtain ⟨w1, w2, w3, w4, w5, w6⟩ := sewF
  unfold lsB
  generalize tx sh = TS at *
  cases p with
  | n i =>
    have f1 := lchoices_n (k := k) (i := i) (size := size)
    simp only [ptOk, inZ, isN, Pt.d] at *
    generalize szI = Z at *
    rcases sg_cases hc with rfl | rfl | rfl | rfl | rfl | rfl
    · by_cases q1 : 0 ≤ i <;> by_cases q2 : i < Z <;> simp (implicitDefEqProofs := false) [-v_ixS, -ev_putS, pu97, pu98, fre_sh, h7, h8, tx_inj, tn, tg, te, tw, tc, hp1, hsh, w1, q1, q2]
    · simp (implicitDefEqProofs := false) [-v_ixS, -ev_putS, pu97, pu98, fre_sh, h7, h8, tx_inj, tn, tg, te, tw, tc, hp1, hsh, w2]
    · by_cases q1 : 0 ≤ i <;> by_cases q2 : i < size <;> simp (implicitDefEqProofs := false) [-v_ixS, -ev_putS, pu97, pu98, fre_sh, h7, h8, tx_inj, tn, tg, te, tw, tc, hp1, hsh, w3, q1, q2]
    · simp (implicitDefEqProofs := false) [-v_ixS, -ev_putS, pu97, pu98, fre_sh, h7, h8, tx_inj, tn, tg, te, tw, tc, hp1, hsh, w4]
    · simp (implicitDefEqProofs := false) [-v_ixS, -ev_putS, pu97, pu98, fre_sh, h7, h8, tx_inj, tn, tg, te, tw, tc, hp1, hsh, w5]
    · simp (implicitDefEqProofs := false) [-v_ixS, -ev_putS, pu97, pu98, fre_sh, h7, h8, tx_inj, tn, tg, te, tw, tc, hp1, hsh, w6, f1]
  | s x =>
    have f2 := lchoices_s (k := k) (x := x) (size := size)
    have g1 := in_tup (n := true) (x := x) (xs := es)
    have g2 := yn_lst (n := true) (x := x)
    simp only [ptOk, endsD, isN, Pt.d] at *
    generalize es.map D.str = ed at *
    generalize memB es x = q at *
    generalize memB ["yes", "no"] x = q2 at *
    generalize szI = Z at *
    rcases sg_cases hc with rfl | rfl | rfl | rfl | rfl | rfl
    · simp (implicitDefEqProofs := false) [-v_ixS, -ev_putS, pu97, pu98, fre_sh, h7, h8, tx_inj, tn, tg, te, tw, tc, hp1, hsh, w1]
    · simp (implicitDefEqProofs := false) [-v_ixS, -ev_putS, pu97, pu98, fre_sh, h7, h8, tx_inj, tn, tg, te, tw, tc, hp1, hsh, w2]
    · simp (implicitDefEqProofs := false) [-v_ixS, -ev_putS, pu97, pu98, fre_sh, h7, h8, tx_inj, tn, tg, te, tw, tc, hp1, hsh, w3]
    · cases q <;> simp (implicitDefEqProofs := false) [-v_ixS, -ev_putS, pu97, pu98, fre_sh, h7, h8, tx_inj, tn, tg, te, tw, tc, hp1, hsh, w4, g1]
    · cases q2 <;> simp (implicitDefEqProofs := false) [-v_ixS, -ev_putS, pu97, pu98, fre_sh, h7, h8, tx_inj, tn, tg, te, tw, tc, hp1, hsh, w5, g2, z2]
    · simp (implicitDefEqProofs := false) [-v_ixS, -ev_putS, pu97, pu98, fre_sh, h7, h8, tx_inj, tn, tg, te, tw, tc, hp1, hsh, w6, f2]
  | c l =>
    have f3 := lchoices_c (k := k) (size := size) hp
    simp only [ptOk, isN, Pt.d] at *
    generalize l.map triD = ld at *
    generalize szI = Z at *
    generalize chOk size l = q at *
    rcases sg_cases hc with rfl | rfl | rfl | rfl | rfl | rfl
    · simp (implicitDefEqProofs := false) [-v_ixS, -ev_putS, pu97, pu98, fre_sh, h7, h8, tx_inj, tn, tg, te, tw, tc, hp1, hsh, w1]
    · simp (implicitDefEqProofs := false) [-v_ixS, -ev_putS, pu97, pu98, fre_sh, h7, h8, tx_inj, tn, tg, te, tw, tc, hp1, hsh, w2]
    · simp (implicitDefEqProofs := false) [-v_ixS, -ev_putS, pu97, pu98, fre_sh, h7, h8, tx_inj, tn, tg, te, tw, tc, hp1, hsh, w3]
    · simp (implicitDefEqProofs := false) [-v_ixS, -ev_putS, pu97, pu98, fre_sh, h7, h8, tx_inj, tn, tg, te, tw, tc, hp1, hsh, w4]
    · simp (implicitDefEqProofs := false) [-v_ixS, -ev_putS, pu97, pu98, fre_sh, h7, h8, tx_inj, tn, tg, te, tw, tc, hp1, hsh, w5]
    · cases q <;> simp (implicitDefEqProofs := false) [-v_ixS, -ev_putS, pu97, pu98, fre_sh, h7, h8, tx_inj, tn, tg, te, tw, tc, hp1, hsh, w6, f3]
end K24

namespace K24
open PySem PySem.Spec PyProof.Rows L2 PV
theorem ins_at {x : Ins} {j : Nat} {p : Pt} (h : x.2[j]? = some p) : ixD (insD x) (.int ((j : Int) + 1)) = some (false, p.d) := by
  unfold insD
  rw [v_ixT, show (j : Int) + 1 = ((j + 1 : Nat) : Int) by omega, at_nat, List.getElem?_cons_succ, List.getElem?_map, h]
  rfl
def atOk (es : List Str) (size : Int) (sh : List Nat) (ps : List Pt) (j : Nat) : Bool := ptOk es size (sh.getD j 0) (ps.getD j (.n 0))
theorem ls_loop {k : Nat} {es : List Str} {x : Ins} {size : Int} {sh : List Nat} {s3 s4 : Slot} (hs : sh.length ≤ sizeLine) (hl : x.2.length = sh.length) (hc : ∀ c, c ∈ sh → sgB c = true) (hx : InsK x) : ∀ (js : List Nat) (s6 s7 s8 : Slot), fre s6 = true → fre s7 = true → fre s8 = true → (∀ j, j ∈ js → j < sh.length) →
    ∃ t6 t7 t8 : Slot, forL (.nm 6) (lsB (k + 1)) (js.map fun i => .int (0 + (i : Nat))) [some (.sh, endsD es), some (.sh, insD x), some (.sh, .int size), s3, s4, some (.sh, .str (tx sh)), s6, s7, s8] =
      .ok (flB (js.all (atOk es size sh x.2))) [some (.sh, endsD es), some (.sh, insD x), some (.sh, .int size), s3, s4, some (.sh, .str (tx sh)), t6, t7, t8]
  | [], s6, s7, s8, _, _, _, _ => ⟨s6, s7, s8, rfl⟩
  | j :: js, s6, s7, s8, h6, h7, h8, h => by
    have hj := h j List.mem_cons_self
    have hj2 : j < x.2.length := by omega
    have e1 : sh[j]? = some sh[j] := List.getElem?_eq_getElem hj
    have e2 : x.2[j]? = some x.2[j] := List.getElem?_eq_getElem hj2
    have e3 : atOk es size sh x.2 j = ptOk es size sh[j] x.2[j] := by
      unfold atOk
      simp [List.getD, e1, e2]
    obtain ⟨t6, t7, t8, ih⟩ := ls_loop (k := k) (es := es) (x := x) (size := size) (sh := sh) (s3 := s3) (s4 := s4) hs hl hc hx js (some (.sh, .int j)) (some (.sh, x.2[j].d)) (some (.sh, .bl (isN x.2[j]))) rfl rfl rfl fun i m => h i (List.mem_cons_of_mem _ m)
    rw [List.map_cons, ev_for1, put_fre (x := s6) rfl h6, List.all_cons, Int.zero_add]
    show ∃ t6 t7 t8, (lsB (k + 1) [some (.sh, endsD es), some (.sh, insD x), some (.sh, .int size), s3, s4, some (.sh, .str (tx sh)), some (.sh, .int j), s7, s8]).bind _ = _
    rw [ls_one hs e1 (ins_at e2) (hc _ (List.getElem_mem hj)) (hx.p _ (List.getElem_mem hj2)) h7 h8, Res.bind_ok, e3]
    cases e : ptOk es size sh[j] x.2[j] with
    | true => exact ⟨t6, t7, t8, by rw [Bool.true_and]; exact ih⟩
    | false => exact ⟨_, _, _, rfl⟩
theorem all_at {es : List Str} {size : Int} {sh : List Nat} {ps : List Pt} (hl : ps.length = sh.length) : (List.range sh.length).all (atOk es size sh ps) = (sh.zip ps).all fun q => ptOk es size q.1 q.2 := by
  rw [Bool.eq_iff_iff, List.all_eq_true, List.all_eq_true]
  constructor
  · intro h q m
    obtain ⟨j, hj, rfl⟩ := List.mem_iff_getElem.mp m
    rw [List.length_zip] at hj
    have := h j (List.mem_range.mpr (by omega))
    unfold atOk at this
    rw [List.getElem_zip]
    simpa [List.getD, List.getElem?_eq_getElem (show j < sh.length by omega), List.getElem?_eq_getElem (show j < ps.length by omega)] using this
  · intro h j m
    have hj := List.mem_range.mp m
    have hm : (sh[j], ps[j]'(by omega)) ∈ sh.zip ps := by
      have hz : j < (sh.zip ps).length := by rw [List.length_zip]; omega
      have := List.getElem_mem hz
      rwa [List.getElem_zip] at this
    have := h _ hm
    unfold atOk
    simpa [List.getD, List.getElem?_eq_getElem (show j < sh.length by omega), List.getElem?_eq_getElem (show j < ps.length by omega)] using this
noncomputable def lsE (k : Nat) : M Fl := (seqM (setM 5 (dgetM 3 (binM ixD (.sl 1) (.ex (constM (.int 0)))) (dget1M 4 (binM ixD (.sl 1) (.ex (constM (.int 0)))))))
    (seqM (iteM (orM (truB (binM (isD false) (.sl 5) (.ex (constM .non)))) (truB (binM (eqS true) (.ex (unM lenD (.sl 1))) (.ex (binM addD (.ex (unM lenD (.sl 5))) (.ex (constM (.int 1)))))))) (retM (constM (.bl false))) nxM)
    (seqM (forM (rng1M (unM lenD (.sl 5))) (.nm 6) (lsB k))
    (retM (constM (.bl true))))))
theorem b12_eq (k : Nat) : b12 (sem k) = seqM lsD3 (seqM lsD4 (lsE k)) := rfl
theorem ls_E {k : Nat} {es : List Str} {x : Ins} {size : Int} (hx : InsK x) : ∃ s : S, lsE (k + 1) [some (.sh, endsD es), some (.sh, insD x), some (.sh, .int size), some (.ow, .dct (kk shA)), some (.ow, .dct (kk shB)), none, none, none, none] = .ok (.rt false (.bl (insOk es size x))) s := by
  have hg := sh_get (w := x.1)
  have i1 := ins0 (x := x)
  have i2 := insL (x := x)
  have hd1 : ∀ (s : S), isDct [some (.sh, endsD es), some (.sh, insD x), some (.sh, .int size), some (.ow, .dct (kk shA)), some (.ow, .dct (kk shB)), none, none, none, none] 3 = true ∧ isDct [some (.sh, endsD es), some (.sh, insD x), some (.sh, .int size), some (.ow, .dct (kk shA)), some (.ow, .dct (kk shB)), none, none, none, none] 4 = true := fun _ => ⟨rfl, rfl⟩
  have hkey : D.key (.str x.1) = some (.inr x.1) := rfl
  have e5 : (dgetM 3 (binM ixD (.sl 1) (.ex (constM (.int 0)))) (dget1M 4 (binM ixD (.sl 1) (.ex (constM (.int 0)))))) [some (.sh, endsD es), some (.sh, insD x), some (.sh, .int size), some (.ow, .dct (kk shA)), some (.ow, .dct (kk shB)), none, none, none, none] =
      .ok (false, (tget kd_SHAPES x.1).getD .non) [some (.sh, endsD es), some (.sh, insD x), some (.sh, .int size), some (.ow, .dct (kk shA)), some (.ow, .dct (kk shB)), none, none, none, none] := by
    rw [← hg]
    unfold dgetM dget1M
    generalize insD x = X at *
    generalize endsD es = ED at *
    generalize kk shA = A at *
    generalize kk shB = B at *
    simp (implicitDefEqProofs := false) [isDct, i1, hkey]
  have e5' : setM 5 (dgetM 3 (binM ixD (.sl 1) (.ex (constM (.int 0)))) (dget1M 4 (binM ixD (.sl 1) (.ex (constM (.int 0)))))) [some (.sh, endsD es), some (.sh, insD x), some (.sh, .int size), some (.ow, .dct (kk shA)), some (.ow, .dct (kk shB)), none, none, none, none] =
      .ok .nx [some (.sh, endsD es), some (.sh, insD x), some (.sh, .int size), some (.ow, .dct (kk shA)), some (.ow, .dct (kk shB)), some (.sh, (tget kd_SHAPES x.1).getD .non), none, none, none] := by
    rw [ev_set, e5]
    rfl
  unfold lsE
  rw [ev_seq, e5', Res.bind_ok]
  rcases @shOf_get x.1 with ⟨sh, e1, e2, hs, hl2⟩ | ⟨e1, e2⟩
  · have hl : sh.length ≤ sizeLine := by rw [sizeLine_eq]; omega
    have hi : insOk es size x = (decide (x.2.length = sh.length) && (sh.zip x.2).all fun q => ptOk es size q.1 q.2) := by
      unfold insOk
      rw [e2]
    rw [hi, e1, Option.getD_some]
    have tl := t_len (l := sh) hl
    by_cases hlen : x.2.length = sh.length
    · obtain ⟨t6, t7, t8, el⟩ := ls_loop (k := k) (es := es) (x := x) (size := size) (sh := sh) (s3 := some (.ow, .dct (kk shA))) (s4 := some (.ow, .dct (kk shB))) hl hlen hs hx (List.range sh.length) none none none rfl rfl rfl fun j m => List.mem_range.mp m
      rw [all_at hlen] at el
      have el : forL (.nm 6) (lsB (k + 1)) (intsD 0 sh.length) _ = _ := el
      have er := rng_nat hl
      have hc3 : (x.2.length : Int) = (sh.length : Int) := by omega
      have hc2 : ((x.2.length + 1 : Nat) : Int) = (sh.length : Int) + 1 := by omega
      rw [decide_eq_true hlen, Bool.true_and]
      refine ⟨[some (.sh, endsD es), some (.sh, insD x), some (.sh, .int size), some (.ow, .dct (kk shA)), some (.ow, .dct (kk shB)), some (.sh, .str (tx sh)), t6, t7, t8], ?_⟩
      · generalize insD x = X at *
        generalize endsD es = ED at *
        generalize kk shA = A at *
        generalize kk shB = B at *
        generalize tx sh = TS at *
        generalize sh.length = N at *
        generalize lsB (k + 1) = L at *
        generalize ((sh.zip x.2).all fun q => ptOk es size q.1 q.2) = R at *
        cases R <;> simp (implicitDefEqProofs := false) [i2, tl, hc2, hc3, er, el]
    · have hc3 : ¬ ((x.2.length : Int) = (sh.length : Int)) := by omega
      have hc2 : ¬ (((x.2.length + 1 : Nat) : Int) = (sh.length : Int) + 1) := by omega
      rw [decide_eq_false hlen, Bool.false_and]
      generalize insD x = X at *
      generalize endsD es = ED at *
      generalize kk shA = A at *
      generalize kk shB = B at *
      generalize tx sh = TS at *
      generalize sh.length = N at *
      exact ⟨[some (.sh, ED), some (.sh, X), some (.sh, .int size), some (.ow, .dct A), some (.ow, .dct B), some (.sh, .str TS), none, none, none], by simp (implicitDefEqProofs := false) [i2, tl, hc2, hc3]⟩
  · have hi : insOk es size x = false := by
      unfold insOk
      rw [e2]
    rw [hi, e1, Option.getD_none]
    generalize insD x = X at *
    generalize endsD es = ED at *
    generalize kk shA = A at *
    generalize kk shB = B at *
    exact ⟨[some (.sh, ED), some (.sh, X), some (.sh, .int size), some (.ow, .dct A), some (.ow, .dct B), some (.sh, .non), none, none, none], by simp (implicitDefEqProofs := false)⟩
theorem shape_ok {k : Nat} {es : List Str} {x : Ins} {size : Int} (hx : InsK x) : sem (k + 2) 12 [endsD es, insD x, .int size] = .ret false (.bl (insOk es size x)) [] := by
  obtain ⟨s, e⟩ := ls_E (k := k) (es := es) (size := size) hx
  rw [se12, b12_eq]
  refine runF_rt (s := s) ?_ rfl rfl
  rw [show initS [] 9 [endsD es, insD x, .int size] = [some (.sh, endsD es), some (.sh, insD x), some (.sh, .int size), none, none, none, none, none, none] from rfl]
  rw [ev_seq, ls_3, Res.bind_ok]
  show seqM lsD4 _ _ = _
  rw [ev_seq, ls_4, Res.bind_ok]
  exact e
end K24

namespace K24
open PySem PySem.Spec PyProof.Rows L2 PV
/-! ### the moves -/
theorem inZ_iff {i size : Int} : inZ i size = true ↔ 0 ≤ i ∧ i < size := by unfold inZ; simp
theorem ptN {es : List Str} {size : Int} {p : Pt} (h : ptOk es size 103 p = true) : ∃ g, p = .n g ∧ 0 ≤ g ∧ g < size := by
  cases p with
  | n i =>
    have : inZ i size = true := by simpa [ptOk] using h
    exact ⟨i, rfl, inZ_iff.mp this⟩
  | s x => simp [ptOk] at h
  | c l => simp [ptOk] at h
theorem ptN' {es : List Str} {size : Int} {p : Pt} (h : ptOk es size 110 p = true) : ∃ g, p = .n g := by
  cases p with
  | n i => exact ⟨i, rfl⟩
  | s x => simp [ptOk] at h
  | c l => simp [ptOk] at h
theorem ptC {es : List Str} {size : Int} {p : Pt} (h : ptOk es size 99 p = true) : ∃ l, p = .c l ∧ ∀ t, t ∈ l → 0 ≤ t.2.2 ∧ t.2.2 < size := by
  cases p with
  | n i => simp [ptOk] at h
  | s x => simp [ptOk] at h
  | c l =>
    have : chOk size l = true := by simpa [ptOk] using h
    unfold chOk at this
    rw [Bool.and_eq_true, Bool.and_eq_true] at this
    exact ⟨l, rfl, fun t m => inZ_iff.mp (List.all_eq_true.mp this.2.1 t m)⟩
theorem shOf4 : shOf "wait" = some [101, 99] ∧ shOf "jump" = some [103] ∧ shOf "zero" = some [103] ∧ shOf "round" = some [110, 103] := by decide +kernel
section
variable {es : List Str} {size : Int} {x : Ins}
theorem ok_inv (h : insOk es size x = true) {sh : List Nat} (e : shOf x.1 = some sh) : x.2.length = sh.length ∧ ∀ q, q ∈ sh.zip x.2 → ptOk es size q.1 q.2 = true := by
  unfold insOk at h
  rw [e] at h
  rw [Bool.and_eq_true, decide_eq_true_eq, List.all_eq_true] at h
  exact h
theorem vi_wait (h : insOk es size x = true) (hw : x.1 = "wait") : ∃ p l, x.2 = [p, .c l] ∧ ∀ t, t ∈ l → 0 ≤ t.2.2 ∧ t.2.2 < size := by
  obtain ⟨h1, h2⟩ := ok_inv h (sh := [101, 99]) (by rw [hw]; exact shOf4.1)
  match e : x.2, h1 with
  | [p, q], _ =>
    rw [e] at h2
    obtain ⟨l, rfl, hl⟩ := ptC (h2 (99, q) (by simp))
    exact ⟨p, l, rfl, hl⟩
theorem vi_jump (h : insOk es size x = true) (hw : x.1 = "jump") : ∃ g, x.2 = [.n g] ∧ 0 ≤ g ∧ g < size := by
  obtain ⟨h1, h2⟩ := ok_inv h (sh := [103]) (by rw [hw]; exact shOf4.2.1)
  match e : x.2, h1 with
  | [q], _ =>
    rw [e] at h2
    obtain ⟨l, rfl, hl⟩ := ptN (h2 (103, q) (by simp))
    exact ⟨l, rfl, hl⟩
theorem vi_zero (h : insOk es size x = true) (hw : x.1 = "zero") : ∃ g, x.2 = [.n g] ∧ 0 ≤ g ∧ g < size := by
  obtain ⟨h1, h2⟩ := ok_inv h (sh := [103]) (by rw [hw]; exact shOf4.2.2.1)
  match e : x.2, h1 with
  | [q], _ =>
    rw [e] at h2
    obtain ⟨l, rfl, hl⟩ := ptN (h2 (103, q) (by simp))
    exact ⟨l, rfl, hl⟩
theorem vi_round (h : insOk es size x = true) (hw : x.1 = "round") : ∃ a g, x.2 = [.n a, .n g] ∧ 0 ≤ g ∧ g < size := by
  obtain ⟨h1, h2⟩ := ok_inv h (sh := [110, 103]) (by rw [hw]; exact shOf4.2.2.2)
  match e : x.2, h1 with
  | [p, q], _ =>
    rw [e] at h2
    obtain ⟨l, rfl, hl⟩ := ptN (h2 (103, q) (by simp))
    obtain ⟨a, rfl⟩ := ptN' (h2 (110, p) (by simp))
    exact ⟨a, l, rfl, hl⟩
end
def deeds : List Str := ["store", "emit", "wait", "input", "yes", "no", "test"]
def deeds2 : List Str := ["store", "emit", "input", "yes", "no", "test"]
def mvD (q : Int × Bool) : D := .tup [.int q.1, .bl q.2]
def mvs (x : Ins) (a : Int) : List (Int × Bool) :=
  if x.1 = "stop" then [] else if x.1 = "wait" then (match x.2 with | [_, .c l] => l.map fun t => (t.2.2, true) | _ => [])
  else if x.1 = "jump" then (match x.2 with | [.n g] => [(g, false)] | _ => [])
  else if x.1 = "zero" then (match x.2 with | [.n g] => [(a + 1, false), (g, false)] | _ => [])
  else if x.1 = "round" then (match x.2 with | [.n _, .n g] => [(a + 1, false), (g, true)] | _ => [])
  else [(a + 1, memB deeds x.1)]
theorem deeds_eq {w : Str} (h : w ≠ "wait") : memB deeds2 w = memB deeds w := by
  unfold memB deeds deeds2
  rw [Bool.eq_iff_iff, decide_eq_true_iff, decide_eq_true_iff]
  simp only [List.mem_cons, List.not_mem_nil, or_false]
  constructor
  · rintro (h | h | h | h | h | h)
    · exact .inl h
    · exact .inr (.inl h)
    · exact .inr (.inr (.inr (.inl h)))
    · exact .inr (.inr (.inr (.inr (.inl h))))
    · exact .inr (.inr (.inr (.inr (.inr (.inl h)))))
    · exact .inr (.inr (.inr (.inr (.inr (.inr h)))))
  · rintro (h' | h' | h' | h' | h' | h' | h')
    · exact .inl h'
    · exact .inr (.inl h')
    · exact absurd h' h
    · exact .inr (.inr (.inl h'))
    · exact .inr (.inr (.inr (.inl h')))
    · exact .inr (.inr (.inr (.inr (.inl h'))))
    · exact .inr (.inr (.inr (.inr (.inr h'))))
theorem memZR : memB deeds "zero" = false ∧ memB deeds "round" = false := by decide +kernel
theorem put556 {a0 a1 a2 a3 a4 : Slot} {t : Str × Str × Int} : (Tg.tp [.nm 5, .nm 5, .nm 6]).put (triD t) [a0, a1, a2, a3, a4, none, none] = some [a0, a1, a2, a3, a4, some (.sh, .str t.2.1), some (.sh, .int t.2.2)] := by
  unfold triD
  rw [Tg.put]
  rfl
theorem gw_loop {a0 a1 a2 a3 a4 : Slot} : ∀ (l : List (Str × Str × Int)) (acc : List D), acc.length + l.length ≤ sizeLine →
    lcL (.tp [.nm 5, .nm 5, .nm 6]) yesM (tupM [(varM 6), (constM (.bl true))]) [5, 6] (l.map triD) acc [a0, a1, a2, a3, a4, none, none] = .ok (acc ++ l.map fun t => mvD (t.2.2, true)) [a0, a1, a2, a3, a4, none, none]
  | [], acc, _ => by simp [lcL]
  | t :: l, acc, h => by
    rw [List.length_cons] at h
    have ih := gw_loop (a0 := a0) (a1 := a1) (a2 := a2) (a3 := a3) (a4 := a4) l (acc ++ [mvD (t.2.2, true)]) (by rw [List.length_append]; simp only [List.length_cons, List.length_nil]; omega)
    have z2 : (2 : Nat) ≤ sizeLine := by decide
    have hz : acc.length < sizeLine := by omega
    rw [List.map_cons, lcL, put556]
    unfold mvD at *
    simp (implicitDefEqProofs := false) [nox, hz, z2, killAll, ih]
theorem lw_loop {a0 a1 a2 a3 : Slot} : ∀ (l : List (Str × Str × Int)) (acc : List D), acc.length + l.length ≤ sizeLine →
    lcL (.nm 4) yesM (tupM [(binM ixD (.sl 4) (.ex (constM (.int 2)))), (constM (.bl true))]) [4] (l.map triD) acc [a0, a1, a2, a3, none] = .ok (acc ++ l.map fun t => mvD (t.2.2, true)) [a0, a1, a2, a3, none]
  | [], acc, _ => by simp [lcL]
  | t :: l, acc, h => by
    rw [List.length_cons] at h
    have ih := lw_loop (a0 := a0) (a1 := a1) (a2 := a2) (a3 := a3) l (acc ++ [mvD (t.2.2, true)]) (by rw [List.length_append]; simp only [List.length_cons, List.length_nil]; omega)
    have z2 : (2 : Nat) ≤ sizeLine := by decide
    have hz : acc.length < sizeLine := by omega
    have i2 := tri2 (t := t)
    rw [List.map_cons, lcL, ev_putN]
    unfold mvD at *
    generalize triD t = T at *
    simp (implicitDefEqProofs := false) [i2, nox, hz, z2, killAll, ih]
section
variable {k : Nat} {cd : D} {a : Int} {es : List Str} {size : Int} {x : Ins}
theorem goals (hx : ixD cd (.int a) = some (false, insD x)) (hk : InsK x) (hv : insOk es size x = true) : sem (k + 1) 3 [cd, .int a] = .ret true (.lst ((mvs x a).map mvD)) [] := by
  have z0 : (0 : Nat) ≤ sizeLine := by decide
  have z1 : (1 : Nat) ≤ sizeLine := by decide
  have z2 : (2 : Nat) ≤ sizeLine := by decide
  have y1 : (1 : Nat) < sizeLine := by decide
  have i0 := ins0 (x := x)
  have eD : d_DEEDS = .tup (deeds.map D.str) := rfl
  have iD := in_tup (n := false) (x := x.1) (xs := deeds)
  rw [← eD] at iD
  rw [se3]
  by_cases h1 : x.1 = "stop"
  · have em : (mvs x a).map mvD = [] := by unfold mvs; rw [if_pos h1]; rfl
    rw [em]
    refine runF_rt (s := [some (.sh, cd), some (.sh, .int a), some (.sh, insD x), some (.sh, .str x.1), none, none, none]) ?_ rfl rfl
    rw [show initS [] 7 [cd, .int a] = [some (.sh, cd), some (.sh, .int a), none, none, none, none, none] from rfl]
    unfold b3
    generalize insD x = X at *
    generalize x.1 = w at *
    simp (implicitDefEqProofs := false) [hx, i0, eq_true h1, z0]
  by_cases h2 : x.1 = "wait"
  · obtain ⟨p, l, e2, hl⟩ := vi_wait hv h2
    have em : (mvs x a).map mvD = l.map fun t => mvD (t.2.2, true) := by
      unfold mvs
      rw [if_neg h1, if_pos h2, e2]
      show List.map mvD (l.map fun t => (t.2.2, true)) = _
      rw [List.map_map]; rfl
    rw [em]
    have i2 : ixD (insD x) (.int 2) = some (false, .tup (l.map triD)) := ins_at (j := 1) (p := .c l) (by rw [e2]; rfl)
    have hlk : (Pt.c l).ok := hk.p _ (by rw [e2]; simp)
    have el := gw_loop (a0 := some (.sh, cd)) (a1 := some (.sh, .int a)) (a2 := some (.sh, insD x)) (a3 := some (.sh, .str x.1)) (a4 := none) l [] (by have := hlk.1; rw [sizeLine_eq]; simp only [List.length_nil]; omega)
    rw [List.nil_append] at el
    refine runF_rt (s := [some (.sh, cd), some (.sh, .int a), some (.sh, insD x), some (.sh, .str x.1), none, none, none]) ?_ rfl rfl
    rw [show initS [] 7 [cd, .int a] = [some (.sh, cd), some (.sh, .int a), none, none, none, none, none] from rfl]
    unfold b3
    generalize insD x = X at *
    generalize x.1 = w at *
    generalize l.map triD = ld at *
    simp (implicitDefEqProofs := false) [hx, i0, i2, eq_false h1, eq_true h2, killAll, el]
  by_cases h3 : x.1 = "jump"
  · obtain ⟨g, e2, _⟩ := vi_jump hv h3
    have em : (mvs x a).map mvD = [.tup [.int g, .bl false]] := by
      unfold mvs
      rw [if_neg h1, if_neg h2, if_pos h3, e2]; rfl
    rw [em]
    have i1 : ixD (insD x) (.int 1) = some (false, .int g) := ins_at (j := 0) (p := .n g) (by rw [e2]; rfl)
    refine runF_rt (s := [some (.sh, cd), some (.sh, .int a), some (.sh, insD x), some (.sh, .str x.1), none, none, none]) ?_ rfl rfl
    rw [show initS [] 7 [cd, .int a] = [some (.sh, cd), some (.sh, .int a), none, none, none, none, none] from rfl]
    unfold b3
    generalize insD x = X at *
    generalize x.1 = w at *
    simp (implicitDefEqProofs := false) [hx, i0, i1, eq_false h1, eq_false h2, eq_true h3, z0, z1, z2]
  by_cases h4 : x.1 = "zero"
  · obtain ⟨g, e2, _⟩ := vi_zero hv h4
    have em : (mvs x a).map mvD = [.tup [.int (a + 1), .bl false], .tup [.int g, .bl false]] := by
      unfold mvs
      rw [if_neg h1, if_neg h2, if_neg h3, if_pos h4, e2]; rfl
    have h5 : x.1 ≠ "round" := by rw [h4]; decide
    have hd : memB deeds x.1 = false := by rw [h4]; exact memZR.1
    rw [em]
    have i1 : ixD (insD x) (.int 1) = some (false, .int g) := ins_at (j := 0) (p := .n g) (by rw [e2]; rfl)
    refine runF_rt (s := [some (.sh, cd), some (.sh, .int a), some (.sh, insD x), some (.sh, .str x.1), none, none, none]) ?_ rfl rfl
    rw [show initS [] 7 [cd, .int a] = [some (.sh, cd), some (.sh, .int a), none, none, none, none, none] from rfl]
    unfold b3
    generalize insD x = X at *
    generalize x.1 = w at *
    generalize d_DEEDS = DD at *
    simp (implicitDefEqProofs := false) [hx, i0, i1, eq_false h1, eq_false h2, eq_false h3, eq_true h4, eq_false h5, iD, hd, z0, z1, z2, y1]
  by_cases h5 : x.1 = "round"
  · obtain ⟨b, g, e2, _⟩ := vi_round hv h5
    have em : (mvs x a).map mvD = [.tup [.int (a + 1), .bl false], .tup [.int g, .bl true]] := by
      unfold mvs
      rw [if_neg h1, if_neg h2, if_neg h3, if_neg h4, if_pos h5, e2]; rfl
    have hd : memB deeds x.1 = false := by rw [h5]; exact memZR.2
    rw [em]
    have i2 : ixD (insD x) (.int 2) = some (false, .int g) := ins_at (j := 1) (p := .n g) (by rw [e2]; rfl)
    refine runF_rt (s := [some (.sh, cd), some (.sh, .int a), some (.sh, insD x), some (.sh, .str x.1), none, none, none]) ?_ rfl rfl
    rw [show initS [] 7 [cd, .int a] = [some (.sh, cd), some (.sh, .int a), none, none, none, none, none] from rfl]
    unfold b3
    generalize insD x = X at *
    generalize x.1 = w at *
    generalize d_DEEDS = DD at *
    simp (implicitDefEqProofs := false) [hx, i0, i2, eq_false h1, eq_false h2, eq_false h3, eq_false h4, eq_true h5, iD, hd, z0, z1, z2, y1]
  · have em : (mvs x a).map mvD = [.tup [.int (a + 1), .bl (memB deeds x.1)]] := by
      unfold mvs
      rw [if_neg h1, if_neg h2, if_neg h3, if_neg h4, if_neg h5]; rfl
    rw [em]
    refine runF_rt (s := [some (.sh, cd), some (.sh, .int a), some (.sh, insD x), some (.sh, .str x.1), none, none, none]) ?_ rfl rfl
    rw [show initS [] 7 [cd, .int a] = [some (.sh, cd), some (.sh, .int a), none, none, none, none, none] from rfl]
    unfold b3
    generalize insD x = X at *
    generalize memB deeds x.1 = q at *
    generalize x.1 = w at *
    generalize d_DEEDS = DD at *
    simp (implicitDefEqProofs := false) [hx, i0, eq_false h1, eq_false h2, eq_false h3, eq_false h4, eq_false h5, iD, z0, z1, z2, y1]
end
end K24

namespace K24
open PySem PySem.Spec PyProof.Rows L2 PV
section
variable {k : Nat} {cd : D} {a : Int} {es : List Str} {size : Int} {x : Ins}
theorem moves (hx : ixD cd (.int a) = some (false, insD x)) (hk : InsK x) (hv : insOk es size x = true) : sem (k + 1) 14 [cd, .int a] = .ret true (.lst ((mvs x a).map mvD)) [] := by
  have z0 : (0 : Nat) ≤ sizeLine := by decide
  have z1 : (1 : Nat) ≤ sizeLine := by decide
  have z2 : (2 : Nat) ≤ sizeLine := by decide
  have y1 : (1 : Nat) < sizeLine := by decide
  have i0 := ins0 (x := x)
  have z6 : (6 : Nat) ≤ sizeLine := by decide
  have iD : inD false (.str x.1) (.lst [.str "store", .str "emit", .str "input", .str "yes", .str "no", .str "test"]) = some (false, .bl (memB deeds2 x.1)) := in_lst (n := false) (x := x.1) (xs := deeds2)
  rw [se14]
  by_cases h1 : x.1 = "stop"
  · have em : (mvs x a).map mvD = [] := by unfold mvs; rw [if_pos h1]; rfl
    rw [em]
    refine runF_rt (s := [some (.sh, cd), some (.sh, .int a), some (.sh, insD x), none, none]) ?_ rfl rfl
    rw [show initS [] 5 [cd, .int a] = [some (.sh, cd), some (.sh, .int a), none, none, none] from rfl]
    unfold b14
    generalize insD x = X at *
    generalize x.1 = w at *
    simp (implicitDefEqProofs := false) [hx, i0, eq_true h1, z0, z6]
  by_cases h2 : x.1 = "wait"
  · obtain ⟨p, l, e2, hl⟩ := vi_wait hv h2
    have em : (mvs x a).map mvD = l.map fun t => mvD (t.2.2, true) := by
      unfold mvs
      rw [if_neg h1, if_pos h2, e2]
      show List.map mvD (l.map fun t => (t.2.2, true)) = _
      rw [List.map_map]; rfl
    rw [em]
    have i2 : ixD (insD x) (.int 2) = some (false, .tup (l.map triD)) := ins_at (j := 1) (p := .c l) (by rw [e2]; rfl)
    have h3 : x.1 ≠ "jump" := by rw [h2]; decide
    have hlk : (Pt.c l).ok := hk.p _ (by rw [e2]; simp)
    have el := lw_loop (a0 := some (.sh, cd)) (a1 := some (.sh, .int a)) (a2 := some (.sh, insD x)) (a3 := none) l [] (by have := hlk.1; rw [sizeLine_eq]; simp only [List.length_nil]; omega)
    rw [List.nil_append] at el
    refine runF_rt (s := [some (.sh, cd), some (.sh, .int a), some (.sh, insD x), none, none]) ?_ rfl rfl
    rw [show initS [] 5 [cd, .int a] = [some (.sh, cd), some (.sh, .int a), none, none, none] from rfl]
    unfold b14
    generalize insD x = X at *
    generalize x.1 = w at *
    generalize l.map triD = ld at *
    simp (implicitDefEqProofs := false) [hx, i0, i2, eq_false h1, eq_true h2, eq_false h3, killAll, el]
  by_cases h3 : x.1 = "jump"
  · obtain ⟨g, e2, _⟩ := vi_jump hv h3
    have em : (mvs x a).map mvD = [.tup [.int g, .bl false]] := by
      unfold mvs
      rw [if_neg h1, if_neg h2, if_pos h3, e2]; rfl
    rw [em]
    have i1 : ixD (insD x) (.int 1) = some (false, .int g) := ins_at (j := 0) (p := .n g) (by rw [e2]; rfl)
    refine runF_rt (s := [some (.sh, cd), some (.sh, .int a), some (.sh, insD x), none, none]) ?_ rfl rfl
    rw [show initS [] 5 [cd, .int a] = [some (.sh, cd), some (.sh, .int a), none, none, none] from rfl]
    unfold b14
    generalize insD x = X at *
    generalize x.1 = w at *
    simp (implicitDefEqProofs := false) [hx, i0, i1, eq_false h1, eq_false h2, eq_true h3, z0, z1, z2, z6]
  by_cases h4 : x.1 = "zero"
  · obtain ⟨g, e2, _⟩ := vi_zero hv h4
    have em : (mvs x a).map mvD = [.tup [.int (a + 1), .bl false], .tup [.int g, .bl false]] := by
      unfold mvs
      rw [if_neg h1, if_neg h2, if_neg h3, if_pos h4, e2]; rfl
    have h5 : x.1 ≠ "round" := by rw [h4]; decide
    have hd : memB deeds2 x.1 = false := by rw [deeds_eq h2, h4]; exact memZR.1
    rw [em]
    have i1 : ixD (insD x) (.int 1) = some (false, .int g) := ins_at (j := 0) (p := .n g) (by rw [e2]; rfl)
    refine runF_rt (s := [some (.sh, cd), some (.sh, .int a), some (.sh, insD x), none, none]) ?_ rfl rfl
    rw [show initS [] 5 [cd, .int a] = [some (.sh, cd), some (.sh, .int a), none, none, none] from rfl]
    unfold b14
    generalize insD x = X at *
    generalize x.1 = w at *
    simp (implicitDefEqProofs := false) [hx, i0, i1, eq_false h1, eq_false h2, eq_false h3, eq_true h4, eq_false h5, iD, hd, z0, z1, z2, z6, y1]
  by_cases h5 : x.1 = "round"
  · obtain ⟨b, g, e2, _⟩ := vi_round hv h5
    have em : (mvs x a).map mvD = [.tup [.int (a + 1), .bl false], .tup [.int g, .bl true]] := by
      unfold mvs
      rw [if_neg h1, if_neg h2, if_neg h3, if_neg h4, if_pos h5, e2]; rfl
    have hd : memB deeds2 x.1 = false := by rw [deeds_eq h2, h5]; exact memZR.2
    rw [em]
    have i2 : ixD (insD x) (.int 2) = some (false, .int g) := ins_at (j := 1) (p := .n g) (by rw [e2]; rfl)
    refine runF_rt (s := [some (.sh, cd), some (.sh, .int a), some (.sh, insD x), none, none]) ?_ rfl rfl
    rw [show initS [] 5 [cd, .int a] = [some (.sh, cd), some (.sh, .int a), none, none, none] from rfl]
    unfold b14
    generalize insD x = X at *
    generalize x.1 = w at *
    simp (implicitDefEqProofs := false) [hx, i0, i2, eq_false h1, eq_false h2, eq_false h3, eq_false h4, eq_true h5, iD, hd, z0, z1, z2, z6, y1]
  · have em : (mvs x a).map mvD = [.tup [.int (a + 1), .bl (memB deeds2 x.1)]] := by
      unfold mvs
      rw [if_neg h1, if_neg h2, if_neg h3, if_neg h4, if_neg h5, deeds_eq h2]; rfl
    rw [em]
    refine runF_rt (s := [some (.sh, cd), some (.sh, .int a), some (.sh, insD x), none, none]) ?_ rfl rfl
    rw [show initS [] 5 [cd, .int a] = [some (.sh, cd), some (.sh, .int a), none, none, none] from rfl]
    unfold b14
    generalize insD x = X at *
    generalize memB deeds2 x.1 = q at *
    generalize x.1 = w at *
    simp (implicitDefEqProofs := false) [hx, i0, eq_false h1, eq_false h2, eq_false h3, eq_false h4, eq_false h5, iD, z0, z1, z2, z6, y1]
end
end K24

namespace K24
open PySem PySem.Spec PyProof.Rows L2 PV
/-! ### pigeons -/
theorem nodup_le {α : Type} [DecidableEq α] : ∀ {l m : List α}, l.Nodup → (∀ x, x ∈ l → x ∈ m) → l.length ≤ m.length
  | [], m, _, _ => Nat.zero_le _
  | x :: l, m, h, s => by
    obtain ⟨h1, h2⟩ := List.nodup_cons.mp h
    have hm := s x List.mem_cons_self
    have := nodup_le (l := l) (m := m.erase x) h2 fun y hy => by
      have hne : y ≠ x := fun e => h1 (e ▸ hy)
      exact (List.mem_erase_of_ne hne).mpr (s y (List.mem_cons_of_mem _ hy))
    rw [List.length_erase_of_mem hm] at this
    have hp : 0 < m.length := List.length_pos_of_mem hm
    rw [List.length_cons]
    omega
theorem ints_le {l : List Int} {n : Nat} (h : l.Nodup) (s : ∀ x, x ∈ l → 0 ≤ x ∧ x < n) : l.length ≤ n := by
  have := nodup_le (m := (List.range n).map fun (i : Nat) => (i : Int)) h fun x hx => by
    obtain ⟨h1, h2⟩ := s x hx
    exact List.mem_map.mpr ⟨x.toNat, List.mem_range.mpr (by omega), by omega⟩
  simpa using this
/-! ### heights -/
def hget : List (Int × Int) → Int → Option Int
  | [], _ => none
  | (a, v) :: r, g => if a = g then some v else hget r g
def hK (h : List (Int × Int)) : List (Key × D) := h.map fun q => (.inl q.1, .int q.2)
theorem kget_hK {g : Int} : ∀ h : List (Int × Int), kget (hK h) (.inl g) = (hget h g).map D.int
  | [] => rfl
  | (a, v) :: r => by
    have ih := kget_hK (g := g) r
    unfold kget hK at ih ⊢
    rw [List.map_cons, hget]
    by_cases e : a = g
    · subst e; simp
    · rw [List.find?_cons_of_neg (by simpa using e), if_neg e]
      exact ih
theorem hget_any {g : Int} : ∀ h : List (Int × Int), (hK h).any (fun q => decide (q.1 = .inl g)) = (hget h g).isSome
  | [] => rfl
  | (a, v) :: r => by
    have ih := hget_any (g := g) r
    unfold hK at ih ⊢
    rw [List.map_cons, hget, List.any_cons, ih]
    by_cases e : a = g
    · subst e; simp
    · simp [e]
theorem kput_hK {g v : Int} {h : List (Int × Int)} (e : hget h g = none) : kput (hK h) (.inl g) (.int v) = hK (h ++ [(g, v)]) := by
  unfold kput
  rw [hget_any, e]
  simp [hK]
theorem hget_app {g a v : Int} : ∀ h : List (Int × Int), hget (h ++ [(a, v)]) g = (hget h g).or (if a = g then some v else none)
  | [] => rfl
  | (b, u) :: r => by
    rw [List.cons_append, hget, hget, hget_app r]
    split <;> rfl
theorem hget_mem {g : Int} : ∀ {h : List (Int × Int)}, (hget h g).isSome = true ↔ g ∈ h.map (·.1)
  | [] => by simp [hget]
  | (b, u) :: r => by
    rw [hget, List.map_cons, List.mem_cons]
    by_cases e : b = g
    · rw [if_pos e]; simp [e]
    · rw [if_neg e, hget_mem]
      exact ⟨.inr, fun q => q.elim (fun q => absurd q.symm e) id⟩
def gstep (len now : Int) : List (Int × Bool) → List (Int × Int) → List Int → Option (List (Int × Int) × List Int)
  | [], h, w => some (h, w)
  | m :: r, h, w => if len ≤ m.1 ∨ 40 < now ∨ (hget h m.1).getD now ≠ now then none else if (hget h m.1).isSome = true then gstep len now r h w else gstep len now r (h ++ [(m.1, now)]) (w ++ [m.1])
structure HI (n : Nat) (h : List (Int × Int)) (w : List Int) : Prop where
  nd : (h.map (·.1)).Nodup
  rg : ∀ g, (hget h g).isSome = true → 0 ≤ g ∧ g < n
  wl : w.length ≤ h.length
  wk : ∀ g, g ∈ w → (hget h g).isSome = true
theorem HI.len {n : Nat} {h : List (Int × Int)} {w : List Int} (i : HI n h w) : h.length ≤ n := by
  have := ints_le i.nd fun x hx => i.rg x (hget_mem.mpr hx)
  rwa [List.length_map] at this
theorem HI.add {n : Nat} {h : List (Int × Int)} {w : List Int} {g v : Int} (i : HI n h w) (h0 : 0 ≤ g) (h1 : g < n) (e : hget h g = none) : HI n (h ++ [(g, v)]) (w ++ [g]) := by
  have hng : g ∉ h.map (·.1) := fun m => by rw [← hget_mem, e] at m; cases m
  refine ⟨?_, fun b hb => ?_, by simp [i.wl], fun b hb => ?_⟩
  · rw [List.map_append, List.nodup_append]
    refine ⟨i.nd, by simp, fun a ha b hb => ?_⟩
    rw [List.map_cons, List.map_nil, List.mem_singleton] at hb
    subst hb
    rintro rfl
    exact hng ha
  · rw [hget_app] at hb
    cases q : hget h b with
    | some u => exact i.rg b (by rw [q]; rfl)
    | none =>
      rw [q] at hb
      by_cases z : g = b
      · subst z; exact ⟨h0, h1⟩
      · rw [if_neg z] at hb; cases hb
  · rw [hget_app]
    rcases List.mem_append.mp hb with hb | hb
    · obtain ⟨u, q⟩ := Option.isSome_iff_exists.mp (i.wk b hb)
      rw [q]; rfl
    · rw [List.mem_singleton.mp hb, e, if_pos rfl]; rfl
structure GR (n : Nat) (ms : List (Int × Bool)) (h : List (Int × Int)) (w : List Int) (h' : List (Int × Int)) (w' : List Int) : Prop where
  hi : HI n h' w'
  mono : ∀ g v, hget h g = some v → hget h' g = some v
  cl : ∀ m, m ∈ ms → (hget h' m.1).isSome = true
  nw : ∀ g, (hget h' g).isSome = true → (hget h g).isSome = true ∨ g ∈ w'
  ws : ∀ g, g ∈ w → g ∈ w'
  le : 2 * (n - h'.length) + w'.length ≤ 2 * (n - h.length) + w.length
theorem gstep_ok {n : Nat} {now : Int} : ∀ {ms : List (Int × Bool)} {h h' : List (Int × Int)} {w w' : List Int}, HI n h w → (∀ m, m ∈ ms → 0 ≤ m.1) → gstep n now ms h w = some (h', w') → GR n ms h w h' w'
  | [], h, h', w, w', i, _, e => by
    cases e
    exact ⟨i, fun _ _ q => q, fun _ m => (by cases m), fun g q => .inl q, fun _ q => q, Nat.le_refl _⟩
  | m :: r, h, h', w, w', i, p, e => by
    rw [gstep] at e
    split at e
    · cases e
    · rename_i hn
      have hlt : m.1 < n := by
        have : ¬ ((n : Int) ≤ m.1) := fun q => hn (.inl q)
        omega
      have p' : ∀ q, q ∈ r → 0 ≤ q.1 := fun q hq => p q (List.mem_cons_of_mem _ hq)
      split at e
      · rename_i hs
        have g := gstep_ok i p' e
        refine ⟨g.hi, g.mono, fun q hq => ?_, g.nw, g.ws, g.le⟩
        rcases List.mem_cons.mp hq with rfl | hq
        · obtain ⟨u, e2⟩ := Option.isSome_iff_exists.mp hs
          rw [g.mono _ _ e2]; rfl
        · exact g.cl q hq
      · rename_i hs
        have en : hget h m.1 = none := by
          cases q : hget h m.1 with
          | none => rfl
          | some u => rw [q] at hs; exact absurd rfl hs
        have i2 := i.add (v := now) (p m List.mem_cons_self) hlt en
        have g := gstep_ok i2 p' e
        have hz := i2.len
        rw [List.length_append] at hz
        have hm : hget (h ++ [(m.1, now)]) m.1 = some now := by rw [hget_app, en, if_pos rfl]; rfl
        refine ⟨g.hi, fun b v q => g.mono b v (by rw [hget_app, q]; rfl), fun q hq => ?_, fun b q => ?_, fun b q => g.ws b (List.mem_append_left _ q), ?_⟩
        · rcases List.mem_cons.mp hq with rfl | hq
          · rw [g.mono _ _ hm]; rfl
          · exact g.cl q hq
        · rcases g.nw b q with q | q
          · rw [hget_app] at q
            cases z : hget h b with
            | some u => exact .inl rfl
            | none =>
              rw [z] at q
              by_cases y : m.1 = b
              · subst y
                exact .inr (g.ws _ (List.mem_append_right _ (List.mem_singleton.mpr rfl)))
              · rw [if_neg y] at q; cases q
          · exact .inr q
        · have := g.le
          rw [List.length_append, List.length_append] at this
          simp only [List.length_cons, List.length_nil] at this hz
          omega
/-! ### the stack of nodes -/
def nthI (c : List Ins) (a : Int) : Ins := c.getD a.toNat ("", [])
def dI : D → Int
  | .int i => i
  | _ => 0
def tkI (w : Str) : Int := dI ((tget kd_TAKES w).getD (.int 0))
def chI (w : Str) : Int := dI ((tget kd_CHANGES w).getD (.int 0))
def kd_PUTS : List (Str × D) := [("push", .int 1), ("load", .int 1), ("add", .int 1), ("sub", .int 1), ("mul", .int 1), ("less", .int 1), ("same", .int 1)]
def puI (w : Str) : Int := dI ((tget kd_PUTS w).getD (.int 0))
theorem int_of {t : List (Str × D)} (ht : (t.all fun q => match q.2 with | .int _ => true | _ => false) = true) (w : Str) : (tget t w).getD (.int 0) = .int (dI ((tget t w).getD (.int 0))) := by
  cases e : tget t w with
  | none => rfl
  | some d =>
    have := List.all_eq_true.mp ht _ (tget_mem e)
    cases d with
    | int i => rfl
    | _ => simp at this
theorem tk_int (w : Str) : (tget kd_TAKES w).getD (.int 0) = .int (tkI w) := int_of (by decide +kernel) w
theorem ch_int (w : Str) : (tget kd_CHANGES w).getD (.int 0) = .int (chI w) := int_of (by decide +kernel) w
theorem pu_int (w : Str) : (tget kd_PUTS w).getD (.int 0) = .int (puI w) := int_of (by decide +kernel) w
theorem tget_notin {z : Str} : ∀ {t : List (Str × D)}, z ∉ t.map (·.1) → tget t z = none
  | [], _ => rfl
  | (k, d) :: r, h => by
    rw [List.map_cons, List.mem_cons, not_or] at h
    rw [tget, if_neg fun e => h.1 e.symm, tget_notin h.2]
def words10 : List Str := kd_TAKES.map (·.1) ++ (kd_CHANGES.map (·.1) ++ kd_PUTS.map (·.1))
theorem ch_pu (w : Str) : chI w = puI w - tkI w := by
  by_cases h : w ∈ words10
  · have : (words10.all fun w => decide (chI w = puI w - tkI w)) = true := by decide +kernel
    exact of_decide_eq_true (List.all_eq_true.mp this w h)
  · unfold words10 at h
    rw [List.mem_append, List.mem_append, not_or, not_or] at h
    unfold chI puI tkI
    rw [tget_notin h.1, tget_notin h.2.1, tget_notin h.2.2]
    rfl
def hstep (c : List Ins) (h : List (Int × Int)) (w : List Int) : Option (List (Int × Int) × List Int) :=
  if (hget h (w.getLastD 0)).getD 0 - tkI (nthI c (w.getLastD 0)).1 < 0 ∨ (((nthI c (w.getLastD 0)).1 = "stop" ∨ (nthI c (w.getLastD 0)).1 = "wait") ∧ (hget h (w.getLastD 0)).getD 0 ≠ 0) then none
  else gstep c.length ((hget h (w.getLastD 0)).getD 0 - tkI (nthI c (w.getLastD 0)).1 + puI (nthI c (w.getLastD 0)).1) (mvs (nthI c (w.getLastD 0)) (w.getLastD 0)) h w.dropLast
inductive HL (c : List Ins) : List (Int × Int) → List Int → Option (List (Int × Int)) → Prop
  | done {h : List (Int × Int)} : HL c h [] (some h)
  | fail {h : List (Int × Int)} {w : List Int} : w ≠ [] → hstep c h w = none → HL c h w none
  | go {h h' : List (Int × Int)} {w w' : List Int} {r : Option (List (Int × Int))} : w ≠ [] → hstep c h w = some (h', w') → HL c h' w' r → HL c h w r
/-- valid code -/
structure CodeOk (es : List Str) (c : List Ins) : Prop where
  k : ∀ x, x ∈ c → InsK x
  v : ∀ x, x ∈ c → insOk es c.length x = true
  n : c.length ≤ 1000
theorem nth_mem {c : List Ins} {a : Int} (h0 : 0 ≤ a) (h1 : a < c.length) : nthI c a ∈ c := by
  unfold nthI
  have : a.toNat < c.length := by omega
  simp [List.getD, List.getElem?_eq_getElem this]
theorem mvs_pos {es : List Str} {size : Int} {x : Ins} {a : Int} (hv : insOk es size x = true) (ha : 0 ≤ a) : ∀ m, m ∈ mvs x a → 0 ≤ m.1 := by
  intro m hm
  unfold mvs at hm
  split at hm
  · cases hm
  split at hm
  · rename_i h
    obtain ⟨p, l, e, hl⟩ := vi_wait hv h
    rw [e] at hm
    obtain ⟨t, ht, rfl⟩ := List.mem_map.mp hm
    exact (hl t ht).1
  split at hm
  · rename_i h
    obtain ⟨g, e, hg⟩ := vi_jump hv h
    rw [e] at hm
    rw [List.mem_singleton.mp hm]; exact hg.1
  split at hm
  · rename_i h
    obtain ⟨g, e, hg⟩ := vi_zero hv h
    rw [e] at hm
    simp only [List.mem_cons, List.not_mem_nil, or_false] at hm
    rcases hm with rfl | rfl
    · show 0 ≤ a + 1
      omega
    · exact hg.1
  split at hm
  · rename_i h
    obtain ⟨b, g, e, hg⟩ := vi_round hv h
    rw [e] at hm
    simp only [List.mem_cons, List.not_mem_nil, or_false] at hm
    rcases hm with rfl | rfl
    · show 0 ≤ a + 1
      omega
    · exact hg.1
  · rw [List.mem_singleton.mp hm]
    show 0 ≤ a + 1
    omega
/-- what is not waiting has its goals among the keys -/
def Cl (c : List Ins) (h : List (Int × Int)) (w : List Int) : Prop := ∀ a, (hget h a).isSome = true → a ∉ w → ∀ m, m ∈ mvs (nthI c a) a → (hget h m.1).isSome = true
theorem last_app {w : List Int} (h : w ≠ []) : w = w.dropLast ++ [w.getLastD 0] := by
  obtain ⟨ys, y, rfl⟩ : ∃ ys y, w = ys ++ [y] := ⟨w.dropLast, w.getLast h, (List.dropLast_concat_getLast h).symm⟩
  simp
theorem hstep_ok {es : List Str} {c : List Ins} {h h' : List (Int × Int)} {w w' : List Int} (C : CodeOk es c) (i : HI c.length h w) (cl : Cl c h w) (hw : w ≠ []) (e : hstep c h w = some (h', w')) :
    HI c.length h' w' ∧ Cl c h' w' ∧ 2 * (c.length - h'.length) + w'.length < 2 * (c.length - h.length) + w.length := by
  unfold hstep at e
  split at e
  · cases e
  · have hl := last_app hw
    generalize w.getLastD 0 = a at *
    have ha : (hget h a).isSome = true := i.wk a (by rw [hl]; simp)
    obtain ⟨h0, h1⟩ := i.rg a ha
    have i2 : HI c.length h w.dropLast := ⟨i.nd, i.rg, by have := i.wl; rw [List.length_dropLast]; omega, fun g hg => i.wk g (List.dropLast_subset w hg)⟩
    have g := gstep_ok i2 (mvs_pos (C.v _ (nth_mem h0 h1)) h0) e
    refine ⟨g.hi, fun b hb hnb m hm => ?_, ?_⟩
    · rcases g.nw b hb with hb | hb
      · by_cases hba : b = a
        · subst hba
          exact g.cl m hm
        · have : b ∉ w := fun q => by
            rw [hl] at q
            rcases List.mem_append.mp q with q | q
            · exact hnb (g.ws b q)
            · exact hba (List.mem_singleton.mp q)
          obtain ⟨u, q⟩ := Option.isSome_iff_exists.mp (cl b hb this m hm)
          rw [g.mono _ _ q]; rfl
      · exact absurd hb hnb
    · have := g.le
      have hp : 0 < w.length := List.length_pos_iff.mpr hw
      rw [List.length_dropLast] at this
      omega
theorem HL_ex {es : List Str} {c : List Ins} (C : CodeOk es c) : ∀ (n : Nat) (h : List (Int × Int)) (w : List Int), 2 * (c.length - h.length) + w.length = n → HI c.length h w → Cl c h w → ∃ r, HL c h w r ∧ ∀ h', r = some h' → HI c.length h' [] ∧ Cl c h' [] := by
  intro n
  induction n using Nat.strongRecOn with
  | ind n ih =>
    intro h w en i cl
    by_cases hw : w = []
    · subst hw
      exact ⟨some h, .done, fun h' e => by cases e; exact ⟨i, cl⟩⟩
    · cases e : hstep c h w with
      | none => exact ⟨none, .fail hw e, fun _ q => by cases q⟩
      | some q =>
        obtain ⟨h', w'⟩ := q
        obtain ⟨i2, cl2, lt⟩ := hstep_ok C i cl hw e
        obtain ⟨r, hr, k⟩ := ih _ (by rw [← en]; exact lt) h' w' rfl i2 cl2
        exact ⟨r, .go hw e hr, k⟩
end K24

namespace K24
open PySem PySem.Spec PyProof.Rows L2 PV
/-! ### heights_of -/
section
variable {h : List (Int × Int)} {g v now : Int}
theorem hk_in {n : Bool} : inD n (.int g) (.dct (hK h)) = some (false, .bl (if n then !(hget h g).isSome else (hget h g).isSome)) := by
  unfold inD
  simp only [D.key, Option.map_some, kget_hK, Option.isSome_map]
theorem hk_ix (e : hget h g = some v) : ixD (.dct (hK h)) (.int g) = some (false, .int v) := by
  show (D.key (.int g)).bind (fun k => (kget (hK h) k).map fun d => (false, d)) = _
  simp only [D.key, Option.bind_some, kget_hK, e, Option.map_some]
theorem hk_set (e : hget h g = none) (hz : h.length < sizeLine) : setD (.dct (hK h)) (.int g) (.int v) = some (.dct (hK (h ++ [(g, v)]))) := by
  show (D.key (.int g)).bind (fun k => if (hK h).length < sizeLine then some (D.dct (kput (hK h) k (.int v))) else none) = _
  have : (hK h).length < sizeLine := by unfold hK; rwa [List.length_map]
  simp only [D.key, Option.bind_some, if_pos this, kput_hK e]
theorem hk_get : (kget (hK h) (.inl g)).getD (.int now) = .int ((hget h g).getD now) := by
  rw [kget_hK]
  cases hget h g <;> rfl
end
theorem key_int {g : Int} : D.key (.int g) = some (.inl g) := rfl
noncomputable def hgB : M Fl := (seqM (iteM (orM (truB (binM geD (.sl 6) (.ex (unM lenD (.sl 0))))) (orM (truB (binM gtD (.sl 5) (.ex (constM d_MOST_HEIGHT)))) (truB (binM (eqS true) (.ex (dgetM 1 (varM 6) (varM 5))) (.sl 5))))) (retM (constM .non)) nxM)
    (iteM (truB (binM (inD true) (.sl 6) (.sl 1))) (seqM (setItM 1 (varM 6) (varM 5))
    (dropM (growM appD 2 (varM 6)))) nxM))
theorem box_dct {kds : List (Key × D)} : boxD (.dct kds) = true := rfl
def bad (len now : Int) (h : List (Int × Int)) (g : Int) : Prop := len ≤ g ∨ 40 < now ∨ (hget h g).getD now ≠ now
instance (len now : Int) (h : List (Int × Int)) (g : Int) : Decidable (bad len now h g) := by unfold bad; infer_instance
theorem hg_one {cd : D} {s3 s4 : Slot} {len now g : Int} {d : Bool} {h : List (Int × Int)} {w : List Int} (hl : lenD cd = some (false, .int len)) (hz : h.length < sizeLine) (hw : w.length < sizeLine) :
    hgB [some (.sh, cd), some (.ow, .dct (hK h)), some (.ow, .lst (w.map D.int)), s3, s4, some (.sh, .int now), some (.sh, .int g), some (.sh, .bl d)] =
      if bad len now h g then .ok (.rt false .non) [some (.sh, cd), some (.ow, .dct (hK h)), some (.ow, .lst (w.map D.int)), s3, s4, some (.sh, .int now), some (.sh, .int g), some (.sh, .bl d)]
      else if (hget h g).isSome = true then .ok .nx [some (.sh, cd), some (.ow, .dct (hK h)), some (.ow, .lst (w.map D.int)), s3, s4, some (.sh, .int now), some (.sh, .int g), some (.sh, .bl d)]
      else .ok .nx [some (.sh, cd), some (.ow, .dct (hK (h ++ [(g, now)]))), some (.ow, .lst ((w ++ [g]).map D.int)), s3, s4, some (.sh, .int now), some (.sh, .int g), some (.sh, .bl d)] := by
  have eM : d_MOST_HEIGHT = .int 40 := rfl
  have hin := hk_in (h := h) (g := g) (n := true)
  have hge := hk_get (h := h) (g := g) (now := now)
  have hw2 : (w.map D.int).length < sizeLine := by rwa [List.length_map]
  have happ : (w ++ [g]).map D.int = w.map D.int ++ [.int g] := by simp
  rw [happ]
  unfold hgB bad
  rw [eM]
  by_cases q1 : len ≤ g
  · generalize hK h = H at *
    generalize w.map D.int = W at *
    simp (implicitDefEqProofs := false) [hl, q1]
  by_cases q2 : 40 < now
  · generalize hK h = H at *
    generalize w.map D.int = W at *
    simp (implicitDefEqProofs := false) [hl, q1, q2]
  have q0 : hget h g = none ∨ ∃ v, hget h g = some v := by
    cases hget h g with
    | none => exact .inl rfl
    | some v => exact .inr ⟨v, rfl⟩
  rcases q0 with q3 | ⟨v, q3⟩
  rotate_left
  · rw [q3] at hge hin
    by_cases q4 : v = now
    · subst q4
      simp only [Option.getD_some, Option.isSome_some] at *
      generalize hK h = H at *
      generalize w.map D.int = W at *
      simp (implicitDefEqProofs := false) [hl, q1, q2, q3, hge, hin, dgetM, isDct, key_int]
    · simp only [Option.getD_some, Option.isSome_some] at *
      generalize hK h = H at *
      generalize w.map D.int = W at *
      simp (implicitDefEqProofs := false) [hl, q1, q2, q3, q4, hge, hin, dgetM, isDct, key_int]
  · have hset := hk_set (v := now) q3 hz
    rw [q3] at hge hin
    simp only [Option.getD_none, Option.isSome_none] at *
    generalize hK (h ++ [(g, now)]) = H2 at *
    generalize hK h = H at *
    generalize w.map D.int = W at *
    simp (implicitDefEqProofs := false) [hl, q1, q2, q3, hge, hin, dgetM, isDct, key_int, hset, hw2]
theorem put67 {a0 a1 a2 a3 a4 a5 s6 s7 : Slot} {m : Int × Bool} (h6 : fre s6 = true) (h7 : fre s7 = true) : (Tg.tp [.nm 6, .nm 7]).put (mvD m) [a0, a1, a2, a3, a4, a5, s6, s7] = some [a0, a1, a2, a3, a4, a5, some (.sh, .int m.1), some (.sh, .bl m.2)] := by
  unfold mvD
  rw [Tg.put]
  show Tg.puts [.nm 6, .nm 7] [.int m.1, .bl m.2] _ = _
  rw [Tg.puts, put_fre (x := s6) rfl h6, Option.bind_some, Tg.puts]
  show ((Tg.nm 7).put (.bl m.2) [a0, a1, a2, a3, a4, a5, some (.sh, .int m.1), s7]).bind _ = _
  rw [put_fre (x := s7) rfl h7, Option.bind_some, Tg.puts]
  rfl
theorem hg_loop {n : Nat} {cd : D} {s3 s4 : Slot} {now : Int} (hn : n ≤ 1000) (hl : lenD cd = some (false, .int n)) : ∀ (ms : List (Int × Bool)) (h : List (Int × Int)) (w : List Int) (s6 s7 : Slot), fre s6 = true → fre s7 = true → HI n h w → (∀ m, m ∈ ms → 0 ≤ m.1) →
    match gstep n now ms h w with
    | none => ∃ s, forL (.tp [.nm 6, .nm 7]) hgB (ms.map mvD) [some (.sh, cd), some (.ow, .dct (hK h)), some (.ow, .lst (w.map D.int)), s3, s4, some (.sh, .int now), s6, s7] = .ok (.rt false .non) s
    | some r => ∃ t6 t7 : Slot, fre t6 = true ∧ fre t7 = true ∧ forL (.tp [.nm 6, .nm 7]) hgB (ms.map mvD) [some (.sh, cd), some (.ow, .dct (hK h)), some (.ow, .lst (w.map D.int)), s3, s4, some (.sh, .int now), s6, s7] =
        .ok .nx [some (.sh, cd), some (.ow, .dct (hK r.1)), some (.ow, .lst (r.2.map D.int)), s3, s4, some (.sh, .int now), t6, t7]
  | [], h, w, s6, s7, h6, h7, i, p => ⟨s6, s7, h6, h7, rfl⟩
  | m :: ms, h, w, s6, s7, h6, h7, i, p => by
    have hz1 := i.len
    have hz2 := i.wl
    have hz : h.length < sizeLine := by rw [sizeLine_eq]; omega
    have hw : w.length < sizeLine := by rw [sizeLine_eq]; omega
    have p' : ∀ q, q ∈ ms → 0 ≤ q.1 := fun q hq => p q (List.mem_cons_of_mem _ hq)
    have e1 := hg_one (s3 := s3) (s4 := s4) (now := now) (g := m.1) (d := m.2) hl hz hw
    have e0 : ∀ S, forL (.tp [.nm 6, .nm 7]) hgB (mvD m :: ms.map mvD) [some (.sh, cd), some (.ow, .dct (hK h)), some (.ow, .lst (w.map D.int)), s3, s4, some (.sh, .int now), s6, s7] = S ↔
        ((hgB [some (.sh, cd), some (.ow, .dct (hK h)), some (.ow, .lst (w.map D.int)), s3, s4, some (.sh, .int now), some (.sh, .int m.1), some (.sh, .bl m.2)]).bind fun fl s2 => (match fl with
      | .bk => .ok .nx s2
      | .rt fr d => .ok (.rt fr d) s2
      | _ => forL (.tp [.nm 6, .nm 7]) hgB (ms.map mvD) s2)) = S := fun S => by
      rw [ev_for1, put67 h6 h7]
      try exact Iff.rfl
    rw [List.map_cons]
    simp only [e0]
    rw [e1]
    by_cases q1 : bad n now h m.1
    · have eg : gstep n now (m :: ms) h w = none := by
        rw [gstep]
        exact if_pos q1
      rw [eg, if_pos q1]
      exact ⟨_, rfl⟩
    · rw [if_neg q1]
      by_cases q2 : (hget h m.1).isSome = true
      · have eg : gstep n now (m :: ms) h w = gstep n now ms h w := by
          rw [gstep]
          rw [if_neg (show ¬ ((n : Int) ≤ m.1 ∨ 40 < now ∨ (hget h m.1).getD now ≠ now) from q1), if_pos q2]
        rw [eg, if_pos q2]
        exact hg_loop hn hl ms h w (some (.sh, .int m.1)) (some (.sh, .bl m.2)) rfl rfl i p'
      · have eg : gstep n now (m :: ms) h w = gstep n now ms (h ++ [(m.1, now)]) (w ++ [m.1]) := by
          rw [gstep]
          rw [if_neg (show ¬ ((n : Int) ≤ m.1 ∨ 40 < now ∨ (hget h m.1).getD now ≠ now) from q1), if_neg q2]
        have en : hget h m.1 = none := by
          cases q : hget h m.1 with
          | none => rfl
          | some u => rw [q] at q2; exact absurd rfl q2
        have hlt : m.1 < n := by
          have : ¬ ((n : Int) ≤ m.1) := fun q => q1 (.inl q)
          omega
        rw [eg, if_neg q2]
        exact hg_loop hn hl ms (h ++ [(m.1, now)]) (w ++ [m.1]) (some (.sh, .int m.1)) (some (.sh, .bl m.2)) rfl rfl (i.add (p m List.mem_cons_self) hlt en) p'
end K24

namespace K24
open PySem PySem.Spec PyProof.Rows L2 PV
@[simp] theorem ev_pop (i : Nat) (s : S) : popM i s = match s[i]? with
  | some (some (o, .lst ds)) => if o = .sh then .stuck else (match ds[ds.length - 1]? with
    | some d => .ok (false, d) (s.set i (some (o, .lst ds.dropLast)))
    | none => .stuck)
  | _ => .stuck := rfl
section
variable {a0 a1 a2 a3 a4 a5 a6 a7 x : Slot} {o : Own} {d : D}
theorem pu83 (h : fre x = true) : putS [a0, a1, a2, x, a4, a5, a6, a7] 3 o d = some [a0, a1, a2, some (o, d), a4, a5, a6, a7] := by
  match x, h with
  | none, _ => rfl
  | some (.sh, _), _ => rfl
theorem pu84 (h : fre x = true) : putS [a0, a1, a2, a3, x, a5, a6, a7] 4 o d = some [a0, a1, a2, a3, some (o, d), a5, a6, a7] := by
  match x, h with
  | none, _ => rfl
  | some (.sh, _), _ => rfl
theorem pu85 (h : fre x = true) : putS [a0, a1, a2, a3, a4, x, a6, a7] 5 o d = some [a0, a1, a2, a3, a4, some (o, d), a6, a7] := by
  match x, h with
  | none, _ => rfl
  | some (.sh, _), _ => rfl
end
theorem cd_at {c : List Ins} {a : Int} (h0 : 0 ≤ a) (h1 : a < c.length) : ixD (codeD c) (.int a) = some (false, insD (nthI c a)) := by
  have h2 : a.toNat < c.length := by omega
  obtain ⟨n, rfl⟩ := Int.eq_ofNat_of_zero_le h0
  unfold codeD nthI
  rw [v_ixT, at_nat, List.getElem?_map, List.getElem?_eq_getElem (by omega)]
  simp [List.getD, List.getElem?_eq_getElem (show n < c.length by omega)]
theorem cd_len {c : List Ins} : lenD (codeD c) = some (false, .int c.length) := by
  show some (false, D.int ((List.length (c.map insD) : Nat) : Int)) = _
  rw [List.length_map]
theorem sw_tup {w : Str} : inD false (.str w) (.tup [.str "stop", .str "wait"]) = some (false, .bl (memB ["stop", "wait"] w)) := in_tup (n := false) (xs := ["stop", "wait"])
theorem sw_lst {w : Str} : inD false (.str w) (.lst [.str "stop", .str "wait"]) = some (false, .bl (memB ["stop", "wait"] w)) := in_lst (n := false) (xs := ["stop", "wait"])
theorem sw_iff {w : Str} : memB ["stop", "wait"] w = true ↔ w = "stop" ∨ w = "wait" := by
  unfold memB
  rw [decide_eq_true_iff]
  simp only [List.mem_cons, List.not_mem_nil, or_false]
def badW (hh : Int) (wd : Str) : Prop := hh - tkI wd < 0 ∨ ((wd = "stop" ∨ wd = "wait") ∧ hh ≠ 0)
instance (hh : Int) (wd : Str) : Decidable (badW hh wd) := by unfold badW; infer_instance
theorem last_map {w : List Int} (hw : w ≠ []) : (w.map D.int)[(w.map D.int).length - 1]? = some (.int (w.getLastD 0)) := by
  have e := last_app hw
  generalize w.getLastD 0 = a at *
  rw [e]
  simp
theorem wh_pre {cd : D} {x : Ins} {a hh : Int} {h : List (Int × Int)} {w : List Int} {s3 s4 s5 s6 s7 : Slot} {K : M Fl} (hw : w ≠ []) (ha : w.getLastD 0 = a) (hx : ixD cd (.int a) = some (false, insD x)) (hg : hget h a = some hh) (h3 : fre s3 = true) (h4 : fre s4 = true) (h5 : fre s5 = true) :
    (seqM (setM 3 (popM 2))
    (seqM (setM 4 (binM ixD (.ex (binM ixD (.sl 0) (.sl 3))) (.ex (constM (.int 0)))))
    (seqM (iteM (orM (truB (binM ltD (.ex (binM ixD (.sl 1) (.sl 3))) (.ex (kgetM kd_TAKES (varM 4) (constM (.int 0)))))) (andM (truB (binM (inD false) (.sl 4) (.ex (tupM [(constM (.str "stop")), (constM (.str "wait"))])))) (truB (binM (eqS true) (.ex (binM ixD (.sl 1) (.sl 3))) (.ex (constM (.int 0))))))) (retM (constM .non)) nxM)
    (seqM (setM 5 (binM addD (.ex (binM ixD (.sl 1) (.sl 3))) (.ex (kgetM kd_CHANGES (varM 4) (constM (.int 0))))))
    K)))) [some (.sh, cd), some (.ow, .dct (hK h)), some (.ow, .lst (w.map D.int)), s3, s4, s5, s6, s7] =
      if badW hh x.1 then .ok (.rt false .non) [some (.sh, cd), some (.ow, .dct (hK h)), some (.ow, .lst (w.dropLast.map D.int)), some (.sh, .int a), some (.sh, .str x.1), s5, s6, s7]
      else K [some (.sh, cd), some (.ow, .dct (hK h)), some (.ow, .lst (w.dropLast.map D.int)), some (.sh, .int a), some (.sh, .str x.1), some (.sh, .int (hh - tkI x.1 + puI x.1)), s6, s7] := by
  have e1 := last_map hw
  rw [ha] at e1
  have e2 : (w.map D.int).dropLast = w.dropLast.map D.int := by rw [List.map_dropLast]
  have e3 := hk_ix hg
  have e4 := ins0 (x := x)
  have e5 := tk_int x.1
  have e6 := ch_int x.1
  have e7 : hh + chI x.1 = hh - tkI x.1 + puI x.1 := by rw [ch_pu]; omega
  have e8 := sw_tup (w := x.1)
  have e9 := sw_iff (w := x.1)
  have z2 : (2 : Nat) ≤ sizeLine := by decide
  have q1 : hh - tkI x.1 < 0 ↔ hh < tkI x.1 := by omega
  have e10 : badW hh x.1 ↔ hh < tkI x.1 ∨ (memB ["stop", "wait"] x.1 = true ∧ hh ≠ 0) := by
    unfold badW
    rw [q1, ← e9]
  simp only [e10]
  rw [← e7]
  generalize kd_TAKES = KT at *
  generalize kd_CHANGES = KC at *
  generalize tkI x.1 = T at *
  generalize chI x.1 = CI at *
  generalize memB ["stop", "wait"] x.1 = q at *
  generalize x.1 = wd at *
  generalize insD x = X at *
  generalize hK h = H at *
  generalize w.dropLast.map D.int = W2 at *
  generalize w.map D.int = W at *
  by_cases r1 : hh < T
  · simp (implicitDefEqProofs := false) [-ev_putS, pu83, pu84, pu85, fre_sh, h3, h4, h5, e1, e2, e3, e4, e5, hx, r1]
  · cases q
    · simp (implicitDefEqProofs := false) [-ev_putS, pu83, pu84, pu85, fre_sh, h3, h4, h5, e1, e2, e3, e4, e5, e6, e8, hx, r1, z2]
    · by_cases r2 : hh = 0
      · subst r2
        simp (implicitDefEqProofs := false) [-ev_putS, pu83, pu84, pu85, fre_sh, h3, h4, h5, e1, e2, e3, e4, e5, e6, e8, hx, r1, z2]
      · simp (implicitDefEqProofs := false) [-ev_putS, pu83, pu84, pu85, fre_sh, h3, h4, h5, e1, e2, e3, e4, e5, e6, e8, hx, r1, r2, z2]
end K24

namespace K24
open PySem PySem.Spec PyProof.Rows L2 PV
noncomputable def whB (k : Nat) : M Fl := (seqM (setM 3 (popM 2))
    (seqM (setM 4 (binM ixD (.ex (binM ixD (.sl 0) (.sl 3))) (.ex (constM (.int 0)))))
    (seqM (iteM (orM (truB (binM ltD (.ex (binM ixD (.sl 1) (.sl 3))) (.ex (kgetM kd_TAKES (varM 4) (constM (.int 0)))))) (andM (truB (binM (inD false) (.sl 4) (.ex (tupM [(constM (.str "stop")), (constM (.str "wait"))])))) (truB (binM (eqS true) (.ex (binM ixD (.sl 1) (.sl 3))) (.ex (constM (.int 0))))))) (retM (constM .non)) nxM)
    (seqM (setM 5 (binM addD (.ex (binM ixD (.sl 1) (.sl 3))) (.ex (kgetM kd_CHANGES (varM 4) (constM (.int 0))))))
    (forM (itM (callM (sem k 3) [.ex (varM 0), .ex (varM 3)])) (.tp [(.nm 6), (.nm 7)]) hgB)))))
/-- the frame of heights_of -/
def hS (cd : D) (h : List (Int × Int)) (w : List Int) (s3 s4 s5 s6 s7 : Slot) : S := [some (.sh, cd), some (.ow, .dct (hK h)), some (.ow, .lst (w.map D.int)), s3, s4, s5, s6, s7]
theorem wh_turn {k : Nat} {es : List Str} {c : List Ins} {h : List (Int × Int)} {w : List Int} {s3 s4 s5 s6 s7 : Slot} (C : CodeOk es c) (i : HI c.length h w) (hw : w ≠ []) (h3 : fre s3 = true) (h4 : fre s4 = true) (h5 : fre s5 = true) (h6 : fre s6 = true) (h7 : fre s7 = true) :
    match hstep c h w with
    | none => ∃ s, whB (k + 1) (hS (codeD c) h w s3 s4 s5 s6 s7) = .ok (.rt false .non) s
    | some r => ∃ t3 t4 t5 t6 t7 : Slot, fre t3 = true ∧ fre t4 = true ∧ fre t5 = true ∧ fre t6 = true ∧ fre t7 = true ∧ whB (k + 1) (hS (codeD c) h w s3 s4 s5 s6 s7) = .ok .nx (hS (codeD c) r.1 r.2 t3 t4 t5 t6 t7) := by
  generalize ha : w.getLastD 0 = a
  have hl := last_app hw
  rw [ha] at hl
  have hs : (hget h a).isSome = true := i.wk a (by rw [hl]; simp)
  obtain ⟨hh, hg⟩ := Option.isSome_iff_exists.mp hs
  obtain ⟨h0, h1⟩ := i.rg a hs
  have hx := cd_at h0 h1
  have hm := nth_mem h0 h1
  have hk := C.k _ hm
  have hv := C.v _ hm
  have i2 : HI c.length h w.dropLast := ⟨i.nd, i.rg, by have := i.wl; rw [List.length_dropLast]; omega, fun g hg => i.wk g (List.dropLast_subset w hg)⟩
  have e := wh_pre (K := forM (itM (callM (sem (k + 1) 3) [.ex (varM 0), .ex (varM 3)])) (.tp [(.nm 6), (.nm 7)]) hgB) (h := h) (s6 := s6) (s7 := s7) hw ha hx hg h3 h4 h5
  have es : hstep c h w = if badW hh (nthI c a).1 then none else gstep c.length (hh - tkI (nthI c a).1 + puI (nthI c a).1) (mvs (nthI c a) a) h w.dropLast := by
    unfold hstep badW
    rw [ha, hg]
    rfl
  rw [es]
  by_cases q : badW hh (nthI c a).1
  · rw [if_pos q] at e ⊢
    exact ⟨_, e⟩
  · rw [if_neg q] at e ⊢
    have ef := hg_loop (s3 := some (.sh, .int a)) (s4 := some (.sh, .str (nthI c a).1)) (now := hh - tkI (nthI c a).1 + puI (nthI c a).1) C.n (cd_len (c := c)) (mvs (nthI c a) a) h w.dropLast s6 s7 h6 h7 i2 (mvs_pos hv h0)
    have ec : (itM (callM (sem (k + 1) 3) [.ex (varM 0), .ex (varM 3)])) [some (.sh, codeD c), some (.ow, .dct (hK h)), some (.ow, .lst (w.dropLast.map D.int)), some (.sh, .int a), some (.sh, .str (nthI c a).1), some (.sh, .int (hh - tkI (nthI c a).1 + puI (nthI c a).1)), s6, s7] =
        .ok ((mvs (nthI c a) a).map mvD) [some (.sh, codeD c), some (.ow, .dct (hK h)), some (.ow, .lst (w.dropLast.map D.int)), some (.sh, .int a), some (.sh, .str (nthI c a).1), some (.sh, .int (hh - tkI (nthI c a).1 + puI (nthI c a).1)), s6, s7] := by
      have eg := goals (k := k) hx hk hv
      generalize codeD c = CD at *
      simp (implicitDefEqProofs := false) [eg]
    have e2 : whB (k + 1) (hS (codeD c) h w s3 s4 s5 s6 s7) = forL (.tp [.nm 6, .nm 7]) hgB ((mvs (nthI c a) a).map mvD) [some (.sh, codeD c), some (.ow, .dct (hK h)), some (.ow, .lst (w.dropLast.map D.int)), some (.sh, .int a), some (.sh, .str (nthI c a).1), some (.sh, .int (hh - tkI (nthI c a).1 + puI (nthI c a).1)), s6, s7] := by
      refine Eq.trans e ?_
      rw [ev_for, ec, Res.bind_ok]
    rw [e2]
    cases eg : gstep c.length (hh - tkI (nthI c a).1 + puI (nthI c a).1) (mvs (nthI c a) a) h w.dropLast with
    | none => rw [eg] at ef; exact ef
    | some r =>
      rw [eg] at ef
      obtain ⟨t6, t7, f6, f7, ef⟩ := ef
      exact ⟨_, _, _, t6, t7, rfl, rfl, rfl, f6, f7, ef⟩
theorem wh_loop {k : Nat} {es : List Str} {c : List Ins} {h : List (Int × Int)} {w : List Int} {r : Option (List (Int × Int))} (C : CodeOk es c) (H : HL c h w r) : ∀ {s3 s4 s5 s6 s7 : Slot}, HI c.length h w → Cl c h w → fre s3 = true → fre s4 = true → fre s5 = true → fre s6 = true → fre s7 = true →
    match (generalizing := false) r with
    | none => ∃ s, whileM (truM (.sl 2)) (whB (k + 1)) (hS (codeD c) h w s3 s4 s5 s6 s7) = .ok (.rt false .non) s
    | some h' => ∃ t3 t4 t5 t6 t7 : Slot, whileM (truM (.sl 2)) (whB (k + 1)) (hS (codeD c) h w s3 s4 s5 s6 s7) = .ok .nx (hS (codeD c) h' [] t3 t4 t5 t6 t7) := by
  have ht : ∀ {h : List (Int × Int)} {w : List Int} {s3 s4 s5 s6 s7 : Slot}, truM (.sl 2) (hS (codeD c) h w s3 s4 s5 s6 s7) = .ok (!w.isEmpty) (hS (codeD c) h w s3 s4 s5 s6 s7) := by
    intro h w s3 s4 s5 s6 s7
    unfold hS
    cases w <;> simp (implicitDefEqProofs := false)
  induction H with
  | done =>
    intro s3 s4 s5 s6 s7 i cl h3 h4 h5 h6 h7
    refine ⟨s3, s4, s5, s6, s7, ?_⟩
    rw [whileM_eq]
    unfold wstep
    rw [ht]
    rfl
  | fail hw e =>
    intro s3 s4 s5 s6 s7 i cl h3 h4 h5 h6 h7
    have t := wh_turn (k := k) C i hw h3 h4 h5 h6 h7
    rw [e] at t
    obtain ⟨s, t⟩ := t
    refine ⟨s, ?_⟩
    rw [whileM_eq]
    unfold wstep
    rw [ht, Res.bind_ok, List.isEmpty_eq_false_iff.mpr hw, t]
    rfl
  | go hw e H ih =>
    intro s3 s4 s5 s6 s7 i cl h3 h4 h5 h6 h7
    have t := wh_turn (k := k) C i hw h3 h4 h5 h6 h7
    rw [e] at t
    obtain ⟨t3, t4, t5, t6, t7, f3, f4, f5, f6, f7, t⟩ := t
    obtain ⟨i2, cl2, _⟩ := hstep_ok C i cl hw e
    have ih := ih (s3 := t3) (s4 := t4) (s5 := t5) (s6 := t6) (s7 := t7) i2 cl2 f3 f4 f5 f6 f7
    rw [whileM_eq]
    unfold wstep
    rw [ht, Res.bind_ok, List.isEmpty_eq_false_iff.mpr hw, t]
    exact ih
def hD : Option (List (Int × Int)) → Bool × D
  | none => (false, .non)
  | some h => (true, .dct (hK h))
theorem heights {k : Nat} {es : List Str} {c : List Ins} {r : Option (List (Int × Int))} (C : CodeOk es c) (hc : c ≠ []) (H : HL c [(0, 0)] [0] r) : sem (k + 2) 4 [codeD c] = .ret (hD r).1 (hD r).2 [] := by
  have hp : 0 < c.length := List.length_pos_iff.mpr hc
  have i : HI c.length [(0, 0)] [0] := by
    refine ⟨by simp, fun g hg => ?_, by simp, fun g hg => ?_⟩
    · have : g = 0 := by
        have := hget_mem.mp hg
        simpa using this
      omega
    · have : g = 0 := by simpa using hg
      subst this
      rfl
  have cl : Cl c [(0, 0)] [0] := fun a ha hna => by
    have : a = 0 := by
      have := hget_mem.mp ha
      simpa using this
    exact absurd (by simp [this]) hna
  have el := wh_loop (k := k) C H (s3 := none) (s4 := none) (s5 := none) (s6 := none) (s7 := none) i cl rfl rfl rfl rfl rfl
  have z1 : (1 : Nat) ≤ sizeLine := by decide
  have km : kmerge [] [((.inl 0 : Key), (D.int 0))] = hK [(0, 0)] := rfl
  rw [se4]
  have eb : b4 (sem (k + 1)) = seqM (setM 1 (dispM [((constM (.int 0)), (constM (.int 0)))])) (seqM (setM 2 (lstM [(constM (.int 0))])) (seqM (whileM (truM (.sl 2)) (whB (k + 1))) (retM (moveM 1)))) := rfl
  rw [eb]
  unfold hS at el
  generalize whileM (truM (.sl 2)) (whB (k + 1)) = W at *
  generalize codeD c = CD at *
  cases r with
  | none =>
    obtain ⟨s, el⟩ := el
    refine runF_rt (s := s) ?_ rfl rfl
    rw [show initS [] 8 [CD] = [some (.sh, CD), none, none, none, none, none, none, none] from rfl]
    generalize hK [(0, 0)] = H0 at *
    simp only [List.map_cons, List.map_nil] at el
    simp (implicitDefEqProofs := false) [km, z1, el, hD]
  | some h' =>
    obtain ⟨t3, t4, t5, t6, t7, el⟩ := el
    refine runF_rt (s := [some (.sh, CD), none, some (.ow, .lst []), t3, t4, t5, t6, t7]) ?_ rfl rfl
    rw [show initS [] 8 [CD] = [some (.sh, CD), none, none, none, none, none, none, none] from rfl]
    generalize hK [(0, 0)] = H0 at *
    simp only [List.map_cons, List.map_nil] at el
    simp (implicitDefEqProofs := false) [km, z1, el, hD]
end K24

namespace K24
open PySem PySem.Spec PyProof.Rows L2 PV
/-! ### the law's heights -/
noncomputable def lhB : M Fl := (seqM (iteM (orM (truB (binM geD (.sl 9) (.ex (unM lenD (.sl 1))))) (orM (truB (binM gtD (.sl 8) (.ex (constM (.int 40))))) (truB (binM (eqS true) (.ex (dgetM 4 (varM 9) (varM 8))) (.sl 8))))) (retM (constM (.bl false))) nxM)
    (iteM (truB (binM (inD true) (.sl 9) (.sl 4))) (seqM (setItM 4 (varM 9) (varM 8))
    (dropM (growM appD 5 (varM 9)))) nxM))
section
variable {e0 a2 a3 a6 a7 a11 a12 a13 a14 : Slot} {cd : D}
theorem lh_one {len now g : Int} {d : Bool} {h : List (Int × Int)} {w : List Int} (hl : lenD cd = some (false, .int len)) (hz : h.length < sizeLine) (hw : w.length < sizeLine) :
    lhB [e0, some (.sh, cd), a2, a3, some (.ow, .dct (hK h)), some (.ow, .lst (w.map D.int)), a6, a7, some (.sh, .int now), some (.sh, .int g), some (.sh, .bl d), a11, a12, a13, a14] =
      if bad len now h g then .ok (.rt false (.bl false)) [e0, some (.sh, cd), a2, a3, some (.ow, .dct (hK h)), some (.ow, .lst (w.map D.int)), a6, a7, some (.sh, .int now), some (.sh, .int g), some (.sh, .bl d), a11, a12, a13, a14]
      else if (hget h g).isSome = true then .ok .nx [e0, some (.sh, cd), a2, a3, some (.ow, .dct (hK h)), some (.ow, .lst (w.map D.int)), a6, a7, some (.sh, .int now), some (.sh, .int g), some (.sh, .bl d), a11, a12, a13, a14]
      else .ok .nx [e0, some (.sh, cd), a2, a3, some (.ow, .dct (hK (h ++ [(g, now)]))), some (.ow, .lst ((w ++ [g]).map D.int)), a6, a7, some (.sh, .int now), some (.sh, .int g), some (.sh, .bl d), a11, a12, a13, a14] := by
  have hin := hk_in (h := h) (g := g) (n := true)
  have hge := hk_get (h := h) (g := g) (now := now)
  have hw2 : (w.map D.int).length < sizeLine := by rwa [List.length_map]
  have happ : (w ++ [g]).map D.int = w.map D.int ++ [.int g] := by simp
  rw [happ]
  unfold lhB bad
  by_cases q1 : len ≤ g
  · generalize hK h = H at *
    generalize w.map D.int = W at *
    simp (implicitDefEqProofs := false) [hl, q1]
  by_cases q2 : 40 < now
  · generalize hK h = H at *
    generalize w.map D.int = W at *
    simp (implicitDefEqProofs := false) [hl, q1, q2]
  have q0 : hget h g = none ∨ ∃ v, hget h g = some v := by
    cases hget h g with
    | none => exact .inl rfl
    | some v => exact .inr ⟨v, rfl⟩
  rcases q0 with q3 | ⟨v, q3⟩
  rotate_left
  · rw [q3] at hge hin
    by_cases q4 : v = now
    · subst q4
      simp only [Option.getD_some, Option.isSome_some] at *
      generalize hK h = H at *
      generalize w.map D.int = W at *
      simp (implicitDefEqProofs := false) [hl, q1, q2, q3, hge, hin, dgetM, isDct, key_int]
    · simp only [Option.getD_some, Option.isSome_some] at *
      generalize hK h = H at *
      generalize w.map D.int = W at *
      simp (implicitDefEqProofs := false) [hl, q1, q2, q3, q4, hge, hin, dgetM, isDct, key_int]
  · have hset := hk_set (v := now) q3 hz
    rw [q3] at hge hin
    simp only [Option.getD_none, Option.isSome_none] at *
    generalize hK (h ++ [(g, now)]) = H2 at *
    generalize hK h = H at *
    generalize w.map D.int = W at *
    simp (implicitDefEqProofs := false) [hl, q1, q2, q3, hge, hin, dgetM, isDct, key_int, hset, hw2]
theorem put910 {a0 a1 a4 a5 a8 s9 s10 : Slot} {m : Int × Bool} (h9 : fre s9 = true) (h10 : fre s10 = true) : (Tg.tp [.nm 9, .nm 10]).put (mvD m) [a0, a1, a2, a3, a4, a5, a6, a7, a8, s9, s10, a11, a12, a13, a14] = some [a0, a1, a2, a3, a4, a5, a6, a7, a8, some (.sh, .int m.1), some (.sh, .bl m.2), a11, a12, a13, a14] := by
  unfold mvD
  rw [Tg.put]
  show Tg.puts [.nm 9, .nm 10] [.int m.1, .bl m.2] _ = _
  rw [Tg.puts, put_fre (x := s9) rfl h9, Option.bind_some, Tg.puts]
  show ((Tg.nm 10).put (.bl m.2) [a0, a1, a2, a3, a4, a5, a6, a7, a8, some (.sh, .int m.1), s10, a11, a12, a13, a14]).bind _ = _
  rw [put_fre (x := s10) rfl h10, Option.bind_some, Tg.puts]
  rfl
theorem lh_loop {n : Nat} {now : Int} (hn : n ≤ 1000) (hl : lenD cd = some (false, .int n)) : ∀ (ms : List (Int × Bool)) (h : List (Int × Int)) (w : List Int) (s9 s10 : Slot), fre s9 = true → fre s10 = true → HI n h w → (∀ m, m ∈ ms → 0 ≤ m.1) →
    match gstep n now ms h w with
    | none => ∃ s, forL (.tp [.nm 9, .nm 10]) lhB (ms.map mvD) [e0, some (.sh, cd), a2, a3, some (.ow, .dct (hK h)), some (.ow, .lst (w.map D.int)), a6, a7, some (.sh, .int now), s9, s10, a11, a12, a13, a14] = .ok (.rt false (.bl false)) s
    | some r => ∃ t9 t10 : Slot, fre t9 = true ∧ fre t10 = true ∧ forL (.tp [.nm 9, .nm 10]) lhB (ms.map mvD) [e0, some (.sh, cd), a2, a3, some (.ow, .dct (hK h)), some (.ow, .lst (w.map D.int)), a6, a7, some (.sh, .int now), s9, s10, a11, a12, a13, a14] =
        .ok .nx [e0, some (.sh, cd), a2, a3, some (.ow, .dct (hK r.1)), some (.ow, .lst (r.2.map D.int)), a6, a7, some (.sh, .int now), t9, t10, a11, a12, a13, a14]
  | [], h, w, s9, s10, h9, h10, i, p => ⟨s9, s10, h9, h10, rfl⟩
  | m :: ms, h, w, s9, s10, h9, h10, i, p => by
    have hz1 := i.len
    have hz2 := i.wl
    have hz : h.length < sizeLine := by rw [sizeLine_eq]; omega
    have hw : w.length < sizeLine := by rw [sizeLine_eq]; omega
    have p' : ∀ q, q ∈ ms → 0 ≤ q.1 := fun q hq => p q (List.mem_cons_of_mem _ hq)
    have e1 := lh_one (e0 := e0) (a2 := a2) (a3 := a3) (a6 := a6) (a7 := a7) (a11 := a11) (a12 := a12) (a13 := a13) (a14 := a14) (now := now) (g := m.1) (d := m.2) hl hz hw
    have ee : ∀ S, forL (.tp [.nm 9, .nm 10]) lhB (mvD m :: ms.map mvD) [e0, some (.sh, cd), a2, a3, some (.ow, .dct (hK h)), some (.ow, .lst (w.map D.int)), a6, a7, some (.sh, .int now), s9, s10, a11, a12, a13, a14] = S ↔
        ((lhB [e0, some (.sh, cd), a2, a3, some (.ow, .dct (hK h)), some (.ow, .lst (w.map D.int)), a6, a7, some (.sh, .int now), some (.sh, .int m.1), some (.sh, .bl m.2), a11, a12, a13, a14]).bind fun fl s2 => (match fl with
      | .bk => .ok .nx s2
      | .rt fr d => .ok (.rt fr d) s2
      | _ => forL (.tp [.nm 9, .nm 10]) lhB (ms.map mvD) s2)) = S := fun S => by
      rw [ev_for1, put910 h9 h10]
      try exact Iff.rfl
    rw [List.map_cons]
    simp only [ee]
    rw [e1]
    by_cases q1 : bad n now h m.1
    · have eg : gstep n now (m :: ms) h w = none := by
        rw [gstep]
        exact if_pos q1
      rw [eg, if_pos q1]
      exact ⟨_, rfl⟩
    · rw [if_neg q1]
      by_cases q2 : (hget h m.1).isSome = true
      · have eg : gstep n now (m :: ms) h w = gstep n now ms h w := by
          rw [gstep]
          rw [if_neg (show ¬ ((n : Int) ≤ m.1 ∨ 40 < now ∨ (hget h m.1).getD now ≠ now) from q1), if_pos q2]
        rw [eg, if_pos q2]
        exact lh_loop hn hl ms h w (some (.sh, .int m.1)) (some (.sh, .bl m.2)) rfl rfl i p'
      · have eg : gstep n now (m :: ms) h w = gstep n now ms (h ++ [(m.1, now)]) (w ++ [m.1]) := by
          rw [gstep]
          rw [if_neg (show ¬ ((n : Int) ≤ m.1 ∨ 40 < now ∨ (hget h m.1).getD now ≠ now) from q1), if_neg q2]
        have en : hget h m.1 = none := by
          cases q : hget h m.1 with
          | none => rfl
          | some u => rw [q] at q2; exact absurd rfl q2
        have hlt : m.1 < n := by
          have : ¬ ((n : Int) ≤ m.1) := fun q => q1 (.inl q)
          omega
        rw [eg, if_neg q2]
        exact lh_loop hn hl ms (h ++ [(m.1, now)]) (w ++ [m.1]) (some (.sh, .int m.1)) (some (.sh, .bl m.2)) rfl rfl (i.add (p m List.mem_cons_self) hlt en) p'
end
section
variable {a0 a1 a2 a3 a4 a5 a6 a7 a8 a9 a10 a11 a12 a13 a14 x : Slot} {o : Own} {d : D}
theorem pl6 (h : fre x = true) : putS [a0, a1, a2, a3, a4, a5, x, a7, a8, a9, a10, a11, a12, a13, a14] 6 o d = some [a0, a1, a2, a3, a4, a5, some (o, d), a7, a8, a9, a10, a11, a12, a13, a14] := by
  match x, h with
  | none, _ => rfl
  | some (.sh, _), _ => rfl
theorem pl7 (h : fre x = true) : putS [a0, a1, a2, a3, a4, a5, a6, x, a8, a9, a10, a11, a12, a13, a14] 7 o d = some [a0, a1, a2, a3, a4, a5, a6, some (o, d), a8, a9, a10, a11, a12, a13, a14] := by
  match x, h with
  | none, _ => rfl
  | some (.sh, _), _ => rfl
theorem pl8 (h : fre x = true) : putS [a0, a1, a2, a3, a4, a5, a6, a7, x, a9, a10, a11, a12, a13, a14] 8 o d = some [a0, a1, a2, a3, a4, a5, a6, a7, some (o, d), a9, a10, a11, a12, a13, a14] := by
  match x, h with
  | none, _ => rfl
  | some (.sh, _), _ => rfl
end
def kT : List (Key × D) := kk kd_TAKES
def kP : List (Key × D) := kk kd_PUTS
theorem kT_get (w : Str) : (kget kT (.inr w)).getD (.int 0) = .int (tkI w) := by unfold kT; rw [kget_kk]; exact tk_int w
theorem kP_get (w : Str) : (kget kP (.inr w)).getD (.int 0) = .int (puI w) := by unfold kP; rw [kget_kk]; exact pu_int w
theorem key_str {x : Str} : D.key (.str x) = some (.inr x) := rfl
theorem lw_pre {e0 : Slot} {cd : D} {x : Ins} {a hh : Int} {h : List (Int × Int)} {w : List Int} {s6 s7 s8 s9 s10 a11 a12 a13 a14 : Slot} {K : M Fl} (hw : w ≠ []) (ha : w.getLastD 0 = a) (hx : ixD cd (.int a) = some (false, insD x)) (hg : hget h a = some hh) (h6 : fre s6 = true) (h7 : fre s7 = true) (h8 : fre s8 = true) :
    (seqM (setM 6 (popM 5))
    (seqM (setM 7 (binM ixD (.ex (binM ixD (.sl 1) (.sl 6))) (.ex (constM (.int 0)))))
    (seqM (setM 8 (binM subD (.ex (binM ixD (.sl 4) (.sl 6))) (.ex (dgetM 2 (varM 7) (constM (.int 0))))))
    (seqM (iteM (orM (truB (binM ltD (.sl 8) (.ex (constM (.int 0))))) (andM (truB (binM (inD false) (.sl 7) (.ex (lstM [(constM (.str "stop")), (constM (.str "wait"))])))) (truB (binM (eqS true) (.ex (binM ixD (.sl 4) (.sl 6))) (.ex (constM (.int 0))))))) (retM (constM (.bl false))) nxM)
    (seqM (setM 8 (binM addD (.sl 8) (.ex (dgetM 3 (varM 7) (constM (.int 0))))))
    K))))) [e0, some (.sh, cd), some (.ow, .dct kT), some (.ow, .dct kP), some (.ow, .dct (hK h)), some (.ow, .lst (w.map D.int)), s6, s7, s8, s9, s10, a11, a12, a13, a14] =
      if badW hh x.1 then .ok (.rt false (.bl false)) [e0, some (.sh, cd), some (.ow, .dct kT), some (.ow, .dct kP), some (.ow, .dct (hK h)), some (.ow, .lst (w.dropLast.map D.int)), some (.sh, .int a), some (.sh, .str x.1), some (.sh, .int (hh - tkI x.1)), s9, s10, a11, a12, a13, a14]
      else K [e0, some (.sh, cd), some (.ow, .dct kT), some (.ow, .dct kP), some (.ow, .dct (hK h)), some (.ow, .lst (w.dropLast.map D.int)), some (.sh, .int a), some (.sh, .str x.1), some (.sh, .int (hh - tkI x.1 + puI x.1)), s9, s10, a11, a12, a13, a14] := by
  have e1 := last_map hw
  rw [ha] at e1
  have e2 : (w.map D.int).dropLast = w.dropLast.map D.int := by rw [List.map_dropLast]
  have e3 := hk_ix hg
  have e4 := ins0 (x := x)
  have e5 := kT_get x.1
  have e6 := kP_get x.1
  have e8 := sw_lst (w := x.1)
  have e9 := sw_iff (w := x.1)
  have z2 : (2 : Nat) ≤ sizeLine := by decide
  have e10 : badW hh x.1 ↔ hh - tkI x.1 < 0 ∨ (memB ["stop", "wait"] x.1 = true ∧ hh ≠ 0) := by
    unfold badW
    rw [← e9]
  have ek := key_str (x := x.1)
  simp only [e10]
  generalize hT : hh - tkI x.1 = T at *
  have hT2 : ∀ y, D.int (hh - tkI x.1) = y ↔ D.int T = y := fun y => by rw [hT]
  generalize tkI x.1 = TK at *
  generalize puI x.1 = PU at *
  generalize memB ["stop", "wait"] x.1 = q at *
  generalize x.1 = wd at *
  generalize insD x = X at *
  generalize hK h = H at *
  generalize kT = KT at *
  generalize kP = KP at *
  generalize w.dropLast.map D.int = W2 at *
  generalize w.map D.int = W at *
  by_cases r1 : T < 0
  · simp (implicitDefEqProofs := false) [-ev_putS, pl6, pl7, pl8, fre_sh, h6, h7, h8, e1, e2, e3, e4, e5, hx, dgetM, isDct, ek, hT, r1]
  · cases q
    · simp (implicitDefEqProofs := false) [-ev_putS, pl6, pl7, pl8, fre_sh, h6, h7, h8, e1, e2, e3, e4, e5, e6, e8, hx, dgetM, isDct, ek, hT, r1, z2]
    · by_cases r2 : hh = 0
      · subst r2
        simp (implicitDefEqProofs := false) [-ev_putS, pl6, pl7, pl8, fre_sh, h6, h7, h8, e1, e2, e3, e4, e5, e6, e8, hx, dgetM, isDct, ek, hT, r1, z2]
      · simp (implicitDefEqProofs := false) [-ev_putS, pl6, pl7, pl8, fre_sh, h6, h7, h8, e1, e2, e3, e4, e5, e6, e8, hx, dgetM, isDct, ek, hT, r1, r2, z2]
end K24

namespace K24
open PySem PySem.Spec PyProof.Rows L2 PV
noncomputable def lwB (k : Nat) : M Fl := (seqM (setM 6 (popM 5))
    (seqM (setM 7 (binM ixD (.ex (binM ixD (.sl 1) (.sl 6))) (.ex (constM (.int 0)))))
    (seqM (setM 8 (binM subD (.ex (binM ixD (.sl 4) (.sl 6))) (.ex (dgetM 2 (varM 7) (constM (.int 0))))))
    (seqM (iteM (orM (truB (binM ltD (.sl 8) (.ex (constM (.int 0))))) (andM (truB (binM (inD false) (.sl 7) (.ex (lstM [(constM (.str "stop")), (constM (.str "wait"))])))) (truB (binM (eqS true) (.ex (binM ixD (.sl 4) (.sl 6))) (.ex (constM (.int 0))))))) (retM (constM (.bl false))) nxM)
    (seqM (setM 8 (binM addD (.sl 8) (.ex (dgetM 3 (varM 7) (constM (.int 0))))))
    (forM (itM (callM (sem k 14) [.ex (varM 1), .ex (varM 6)])) (.tp [(.nm 9), (.nm 10)]) lhB))))))
/-- the frame of _law_sound -/
def lS (e0 : Slot) (cd : D) (h : List (Int × Int)) (w : List Int) (s6 s7 s8 s9 s10 : Slot) : S := [e0, some (.sh, cd), some (.ow, .dct kT), some (.ow, .dct kP), some (.ow, .dct (hK h)), some (.ow, .lst (w.map D.int)), s6, s7, s8, s9, s10, none, none, none, none]
theorem lw_turn {k : Nat} {es : List Str} {c : List Ins} {h : List (Int × Int)} {w : List Int} {e0 s6 s7 s8 s9 s10 : Slot} (C : CodeOk es c) (i : HI c.length h w) (hw : w ≠ []) (h6 : fre s6 = true) (h7 : fre s7 = true) (h8 : fre s8 = true) (h9 : fre s9 = true) (h10 : fre s10 = true) :
    match hstep c h w with
    | none => ∃ s, lwB (k + 1) (lS e0 (codeD c) h w s6 s7 s8 s9 s10) = .ok (.rt false (.bl false)) s
    | some r => ∃ t6 t7 t8 t9 t10 : Slot, fre t6 = true ∧ fre t7 = true ∧ fre t8 = true ∧ fre t9 = true ∧ fre t10 = true ∧ lwB (k + 1) (lS e0 (codeD c) h w s6 s7 s8 s9 s10) = .ok .nx (lS e0 (codeD c) r.1 r.2 t6 t7 t8 t9 t10) := by
  generalize ha : w.getLastD 0 = a
  have hl := last_app hw
  rw [ha] at hl
  have hs : (hget h a).isSome = true := i.wk a (by rw [hl]; simp)
  obtain ⟨hh, hg⟩ := Option.isSome_iff_exists.mp hs
  obtain ⟨h0, h1⟩ := i.rg a hs
  have hx := cd_at h0 h1
  have hm := nth_mem h0 h1
  have hk := C.k _ hm
  have hv := C.v _ hm
  have i2 : HI c.length h w.dropLast := ⟨i.nd, i.rg, by have := i.wl; rw [List.length_dropLast]; omega, fun g hg => i.wk g (List.dropLast_subset w hg)⟩
  have e := lw_pre (e0 := e0) (a11 := none) (a12 := none) (a13 := none) (a14 := none) (K := forM (itM (callM (sem (k + 1) 14) [.ex (varM 1), .ex (varM 6)])) (.tp [(.nm 9), (.nm 10)]) lhB) (h := h) (s9 := s9) (s10 := s10) hw ha hx hg h6 h7 h8
  have es : hstep c h w = if badW hh (nthI c a).1 then none else gstep c.length (hh - tkI (nthI c a).1 + puI (nthI c a).1) (mvs (nthI c a) a) h w.dropLast := by
    unfold hstep badW
    rw [ha, hg]
    rfl
  rw [es]
  by_cases q : badW hh (nthI c a).1
  · rw [if_pos q] at e ⊢
    exact ⟨_, e⟩
  · rw [if_neg q] at e ⊢
    have ef := lh_loop (e0 := e0) (a2 := some (.ow, .dct kT)) (a3 := some (.ow, .dct kP)) (a11 := none) (a12 := none) (a13 := none) (a14 := none) (a6 := some (.sh, .int a)) (a7 := some (.sh, .str (nthI c a).1)) (now := hh - tkI (nthI c a).1 + puI (nthI c a).1) C.n (cd_len (c := c)) (mvs (nthI c a) a) h w.dropLast s9 s10 h9 h10 i2 (mvs_pos hv h0)
    have ec : (itM (callM (sem (k + 1) 14) [.ex (varM 1), .ex (varM 6)])) [e0, some (.sh, codeD c), some (.ow, .dct kT), some (.ow, .dct kP), some (.ow, .dct (hK h)), some (.ow, .lst (w.dropLast.map D.int)), some (.sh, .int a), some (.sh, .str (nthI c a).1), some (.sh, .int (hh - tkI (nthI c a).1 + puI (nthI c a).1)), s9, s10, none, none, none, none] =
        .ok ((mvs (nthI c a) a).map mvD) [e0, some (.sh, codeD c), some (.ow, .dct kT), some (.ow, .dct kP), some (.ow, .dct (hK h)), some (.ow, .lst (w.dropLast.map D.int)), some (.sh, .int a), some (.sh, .str (nthI c a).1), some (.sh, .int (hh - tkI (nthI c a).1 + puI (nthI c a).1)), s9, s10, none, none, none, none] := by
      have eg := moves (k := k) hx hk hv
      generalize codeD c = CD at *
      simp (implicitDefEqProofs := false) [eg]
    have e2 : lwB (k + 1) (lS e0 (codeD c) h w s6 s7 s8 s9 s10) = forL (.tp [.nm 9, .nm 10]) lhB ((mvs (nthI c a) a).map mvD) [e0, some (.sh, codeD c), some (.ow, .dct kT), some (.ow, .dct kP), some (.ow, .dct (hK h)), some (.ow, .lst (w.dropLast.map D.int)), some (.sh, .int a), some (.sh, .str (nthI c a).1), some (.sh, .int (hh - tkI (nthI c a).1 + puI (nthI c a).1)), s9, s10, none, none, none, none] := by
      refine Eq.trans e ?_
      rw [ev_for, ec, Res.bind_ok]
    rw [e2]
    cases eg : gstep c.length (hh - tkI (nthI c a).1 + puI (nthI c a).1) (mvs (nthI c a) a) h w.dropLast with
    | none => rw [eg] at ef; exact ef
    | some r =>
      rw [eg] at ef
      obtain ⟨t6, t7, f6, f7, ef⟩ := ef
      exact ⟨_, _, _, t6, t7, rfl, rfl, rfl, f6, f7, ef⟩
theorem sh_ints {w : List Int} : shD 1 (.lst (w.map D.int)) := sh_lst fun d m => by
  obtain ⟨x, m', rfl⟩ := List.mem_map.mp m
  exact sh_int
theorem lwh_loop {k : Nat} {es : List Str} {c : List Ins} {h : List (Int × Int)} {w : List Int} {r : Option (List (Int × Int))} (C : CodeOk es c) (H : HL c h w r) : ∀ {e0 s6 s7 s8 s9 s10 : Slot}, HI c.length h w → Cl c h w → fre s6 = true → fre s7 = true → fre s8 = true → fre s9 = true → fre s10 = true →
    match (generalizing := false) r with
    | none => ∃ s, whileM (truB (binM (eqS true) (.sl 5) (.ex (lstM [])))) (lwB (k + 1)) (lS e0 (codeD c) h w s6 s7 s8 s9 s10) = .ok (.rt false (.bl false)) s
    | some h' => ∃ t6 t7 t8 t9 t10 : Slot, fre t9 = true ∧ fre t10 = true ∧ whileM (truB (binM (eqS true) (.sl 5) (.ex (lstM [])))) (lwB (k + 1)) (lS e0 (codeD c) h w s6 s7 s8 s9 s10) = .ok .nx (lS e0 (codeD c) h' [] t6 t7 t8 t9 t10) := by
  have ht : ∀ {h : List (Int × Int)} {w : List Int} {e0 s6 s7 s8 s9 s10 : Slot}, truB (binM (eqS true) (.sl 5) (.ex (lstM []))) (lS e0 (codeD c) h w s6 s7 s8 s9 s10) = .ok (!w.isEmpty) (lS e0 (codeD c) h w s6 s7 s8 s9 s10) := by
    intro h w e0 s6 s7 s8 s9 s10
    have en := eq_nilL (g := true) (sh_ints (w := w)) (by decide)
    rw [List.isEmpty_map] at en
    have z0 : (0 : Nat) ≤ sizeLine := by decide
    unfold lS
    generalize w.map D.int = W at *
    simp (implicitDefEqProofs := false) [en, z0]
  induction H with
  | done =>
    intro e0 s6 s7 s8 s9 s10 i cl h6 h7 h8 h9 h10
    refine ⟨s6, s7, s8, s9, s10, h9, h10, ?_⟩
    rw [whileM_eq]
    unfold wstep
    rw [ht]
    rfl
  | fail hw e =>
    intro e0 s6 s7 s8 s9 s10 i cl h6 h7 h8 h9 h10
    have t := lw_turn (k := k) (e0 := e0) C i hw h6 h7 h8 h9 h10
    rw [e] at t
    obtain ⟨s, t⟩ := t
    refine ⟨s, ?_⟩
    rw [whileM_eq]
    unfold wstep
    rw [ht, Res.bind_ok, List.isEmpty_eq_false_iff.mpr hw, t]
    rfl
  | go hw e H ih =>
    intro e0 s6 s7 s8 s9 s10 i cl h6 h7 h8 h9 h10
    have t := lw_turn (k := k) (e0 := e0) C i hw h6 h7 h8 h9 h10
    rw [e] at t
    obtain ⟨t6, t7, t8, t9, t10, f6, f7, f8, f9, f10, t⟩ := t
    obtain ⟨i2, cl2, _⟩ := hstep_ok C i cl hw e
    have ih := ih (e0 := e0) (s6 := t6) (s7 := t7) (s8 := t8) (s9 := t9) (s10 := t10) i2 cl2 f6 f7 f8 f9 f10
    rw [whileM_eq]
    unfold wstep
    rw [ht, Res.bind_ok, List.isEmpty_eq_false_iff.mpr hw, t]
    exact ih
end K24

namespace K24
open PySem PySem.Spec PyProof.Rows L2 PV
/-! ### quiet circles -/
def qg (c : List Ins) (a : Int) : List Int := ((mvs (nthI c a) a).filter fun m => !m.2).map (·.1)
theorem mem_qg {c : List Ins} {a g : Int} : g ∈ qg c a ↔ (g, false) ∈ mvs (nthI c a) a := by
  unfold qg
  constructor
  · intro h
    obtain ⟨m, h1, rfl⟩ := List.mem_map.mp h
    obtain ⟨h2, h3⟩ := List.mem_filter.mp h1
    have : m = (m.1, false) := by
      obtain ⟨x, y⟩ := m
      simp at h3
      rw [h3]
    rw [← this]; exact h2
  · intro h
    exact List.mem_map.mpr ⟨(g, false), List.mem_filter.mpr ⟨h, rfl⟩, rfl⟩
inductive Rc (c : List Ins) : Int → Int → Prop
  | one {a b : Int} : b ∈ qg c a → Rc c a b
  | tail {a b d : Int} : Rc c a b → d ∈ qg c b → Rc c a d
theorem Rc.head {c : List Ins} {a b : Int} (h : Rc c a b) : ∃ g, g ∈ qg c a ∧ (g = b ∨ Rc c g b) := by
  induction h with
  | one h => exact ⟨_, h, .inl rfl⟩
  | tail h e ih =>
    obtain ⟨g, h1, h2⟩ := ih
    refine ⟨g, h1, .inr ?_⟩
    rcases h2 with rfl | h2
    · exact .one e
    · exact .tail h2 e
theorem Rc.trans {c : List Ins} {a b d : Int} (h : Rc c a b) (h' : Rc c b d) : Rc c a d := by
  induction h' with
  | one e => exact .tail h e
  | tail _ e ih => exact .tail ih e
def rdyB (c : List Ins) (L : List Int) (a : Int) : Bool := !((qg c a).any fun g => decide (g ∈ L))
def ready (c : List Ins) (L : List Int) : List Int := L.filter (rdyB c L)
def qstep (c : List Ins) (L : List Int) : List Int := L.filter fun a => !rdyB c L a
inductive QL (c : List Ins) : List Int → Bool → Prop
  | done : QL c [] false
  | circ {L : List Int} : L ≠ [] → ready c L = [] → QL c L true
  | go {L : List Int} {b : Bool} : L ≠ [] → ready c L ≠ [] → QL c (qstep c L) b → QL c L b
theorem split_len {α : Type} (p : α → Bool) : ∀ l : List α, (l.filter p).length + (l.filter fun a => !p a).length = l.length
  | [] => rfl
  | x :: l => by
    have ih := split_len p l
    cases h : p x <;> simp [h] <;> omega
theorem QL_ex (c : List Ins) : ∀ (n : Nat) (L : List Int), L.length = n → ∃ b, QL c L b := by
  intro n
  induction n using Nat.strongRecOn with
  | ind n ih =>
    intro L e
    by_cases h : L = []
    · subst h; exact ⟨false, .done⟩
    · by_cases h2 : ready c L = []
      · exact ⟨true, .circ h h2⟩
      · have := split_len (rdyB c L) L
        have hp : 0 < (L.filter (rdyB c L)).length := List.length_pos_iff.mpr h2
        obtain ⟨b, hb⟩ := ih (qstep c L).length (by unfold qstep; omega) (qstep c L) rfl
        exact ⟨b, .go h h2 hb⟩
theorem walk {c : List Ins} {L : List Int} (hL : L ≠ []) (hs : ∀ a, a ∈ L → ∃ g, g ∈ qg c a ∧ g ∈ L) (no : ∀ a, a ∈ L → ¬ Rc c a a) : ∀ n : Nat, ∃ (x : Int) (l : List Int), l.length = n ∧ (x :: l).Nodup ∧ (∀ y, y ∈ x :: l → y ∈ L) ∧ ∀ y, y ∈ l → Rc c y x
  | 0 => by
    obtain ⟨x, l, rfl⟩ := List.exists_cons_of_ne_nil hL
    exact ⟨x, [], rfl, by simp, by simp, by simp⟩
  | n + 1 => by
    obtain ⟨x, l, h1, h2, h3, h4⟩ := walk hL hs no n
    have hx := h3 x List.mem_cons_self
    obtain ⟨z, hz1, hz2⟩ := hs x hx
    have hR : ∀ y, y ∈ x :: l → Rc c y z := fun y hy => by
      rcases List.mem_cons.mp hy with rfl | hy
      · exact .one hz1
      · exact .tail (h4 y hy) hz1
    have hzn : z ∉ x :: l := fun m => no z hz2 (hR z m)
    refine ⟨z, x :: l, by simp [h1], List.nodup_cons.mpr ⟨hzn, h2⟩, fun y hy => ?_, hR⟩
    rcases List.mem_cons.mp hy with rfl | hy
    · exact hz2
    · exact h3 y hy
theorem cycle {c : List Ins} {L : List Int} (hL : L ≠ []) (hs : ∀ a, a ∈ L → ∃ g, g ∈ qg c a ∧ g ∈ L) : ∃ a, a ∈ L ∧ Rc c a a := by
  refine Classical.byContradiction fun hn => ?_
  obtain ⟨x, l, h1, h2, h3, _⟩ := walk hL hs (fun a ha q => hn ⟨a, ha, q⟩) L.length
  have := nodup_le h2 h3
  rw [List.length_cons, h1] at this
  omega
theorem QL_true {c : List Ins} {L : List Int} {b : Bool} (h : QL c L b) : b = true → ∃ a, a ∈ L ∧ Rc c a a := by
  induction h with
  | done => intro e; cases e
  | @circ L hL hr =>
    intro _
    refine cycle hL fun a ha => ?_
    have : rdyB c L a = false := by
      cases q : rdyB c L a with
      | false => rfl
      | true =>
        have : a ∈ ready c L := List.mem_filter.mpr ⟨ha, q⟩
        rw [hr] at this; cases this
    unfold rdyB at this
    rw [Bool.not_eq_false', List.any_eq_true] at this
    obtain ⟨g, h1, h2⟩ := this
    exact ⟨g, h1, of_decide_eq_true h2⟩
  | go hL hr _ ih =>
    intro e
    obtain ⟨a, h1, h2⟩ := ih e
    exact ⟨a, (List.mem_filter.mp h1).1, h2⟩
theorem QL_false {c : List Ins} {L : List Int} {b : Bool} (h : QL c L b) : b = false → ∀ Z : Int → Prop, (∀ a, Z a → a ∈ L) → (∀ a, Z a → ∃ g, g ∈ qg c a ∧ Z g) → ∀ a, ¬ Z a := by
  induction h with
  | done => intro _ Z h1 _ a hz; exact absurd (h1 a hz) (by simp)
  | circ hL hr => intro e; cases e
  | @go L b hL hr _ ih =>
    intro e Z h1 h2
    refine ih e Z (fun a hz => List.mem_filter.mpr ⟨h1 a hz, ?_⟩) h2
    obtain ⟨g, g1, g2⟩ := h2 a hz
    unfold rdyB
    rw [Bool.not_not, List.any_eq_true]
    exact ⟨g, g1, decide_eq_true (h1 g g2)⟩
theorem QL_iff {c : List Ins} {L : List Int} {b : Bool} (h : QL c L b) (cl : ∀ a, a ∈ L → ∀ g, g ∈ qg c a → g ∈ L) : b = true ↔ ∃ a, a ∈ L ∧ Rc c a a := by
  constructor
  · exact QL_true h
  · rintro ⟨a, ha, hr⟩
    cases b with
    | true => rfl
    | false =>
      refine absurd (show a ∈ L ∧ Rc c a a ∧ Rc c a a from ⟨ha, hr, hr⟩) (QL_false h rfl (fun b => b ∈ L ∧ Rc c a b ∧ Rc c b a) (fun b q => q.1) (fun b q => ?_) a)
      obtain ⟨q1, q2, q3⟩ := q
      obtain ⟨g, g1, g2⟩ := q3.head
      refine ⟨g, g1, cl b q1 g g1, .tail q2 g1, ?_⟩
      rcases g2 with rfl | g2
      · exact hr
      · exact g2
/-! ### the law's search -/
def bgo (st : Int) : List (Int × Bool) → List Int → Option (List Int)
  | [], R => some R
  | m :: r, R => if m.2 = false ∧ m.1 = st then none else if m.2 = false ∧ m.1 ∉ R then bgo st r (R ++ [m.1]) else bgo st r R
inductive BL (c : List Ins) (st : Int) : Nat → List Int → Bool → Prop
  | done {k : Nat} {R : List Int} : R.length ≤ k → BL c st k R false
  | found {k : Nat} {R : List Int} : k < R.length → bgo st (mvs (nthI c (R.getD k 0)) (R.getD k 0)) R = none → BL c st k R true
  | go {k : Nat} {R R' : List Int} {b : Bool} : k < R.length → bgo st (mvs (nthI c (R.getD k 0)) (R.getD k 0)) R = some R' → BL c st (k + 1) R' b → BL c st k R b
structure BI (L : List Int) (R : List Int) : Prop where
  nd : R.Nodup
  sub : ∀ x, x ∈ R → x ∈ L
theorem bgo_none {st : Int} : ∀ {ms : List (Int × Bool)} {R : List Int}, bgo st ms R = none → (st, false) ∈ ms
  | [], R, h => by cases h
  | m :: r, R, h => by
    rw [bgo] at h
    split at h
    · rename_i q
      obtain ⟨x, y⟩ := m
      obtain ⟨q1, q2⟩ := q
      simp only at q1 q2
      rw [q1, q2]
      exact List.mem_cons_self
    · split at h
      · exact List.mem_cons_of_mem _ (bgo_none h)
      · exact List.mem_cons_of_mem _ (bgo_none h)
theorem bgo_some {st : Int} {L : List Int} : ∀ {ms : List (Int × Bool)} {R R' : List Int}, bgo st ms R = some R' → BI L R → (∀ g, (g, false) ∈ ms → g ∈ L) →
    BI L R' ∧ (∃ T, R' = R ++ T ∧ ∀ g, g ∈ T → (g, false) ∈ ms) ∧ ∀ g, (g, false) ∈ ms → g ∈ R' ∧ g ≠ st
  | [], R, R', h, i, _ => by
    cases h
    exact ⟨i, ⟨[], by simp, by simp⟩, by simp⟩
  | m :: r, R, R', h, i, hl => by
    rw [bgo] at h
    split at h
    · cases h
    · rename_i q
      have hl' : ∀ g, (g, false) ∈ r → g ∈ L := fun g hg => hl g (List.mem_cons_of_mem _ hg)
      split at h
      · rename_i q2
        have hm : (m.1, false) ∈ m :: r := by
          have : m = (m.1, false) := by
            obtain ⟨x, y⟩ := m
            have := q2.1
            simp only at this
            rw [this]
          rw [← this]
          exact List.mem_cons_self
        have i2 : BI L (R ++ [m.1]) := by
          refine ⟨?_, fun x hx => ?_⟩
          · rw [List.nodup_append]
            refine ⟨i.nd, by simp, fun a ha b hb => ?_⟩
            rw [List.mem_singleton.mp hb]
            rintro rfl
            exact q2.2 ha
          · rcases List.mem_append.mp hx with hx | hx
            · exact i.sub x hx
            · rw [List.mem_singleton.mp hx]
              exact hl _ hm
        obtain ⟨i3, ⟨T, e, hT⟩, h3⟩ := bgo_some h i2 hl'
        refine ⟨i3, ⟨m.1 :: T, by rw [e]; simp, fun g hg => ?_⟩, fun g hg => ?_⟩
        · rcases List.mem_cons.mp hg with rfl | hg
          · exact hm
          · exact List.mem_cons_of_mem _ (hT g hg)
        · rcases List.mem_cons.mp hg with e2 | hg
          · subst e2
            refine ⟨by rw [e]; simp, fun z => q ⟨rfl, z⟩⟩
          · exact h3 g hg
      · rename_i q2
        obtain ⟨i3, ⟨T, e, hT⟩, h3⟩ := bgo_some h i hl'
        refine ⟨i3, ⟨T, e, fun g hg => List.mem_cons_of_mem _ (hT g hg)⟩, fun g hg => ?_⟩
        rcases List.mem_cons.mp hg with e2 | hg
        · subst e2
          refine ⟨?_, fun z => q ⟨rfl, z⟩⟩
          rw [e]
          refine List.mem_append_left _ (Classical.byContradiction fun z => q2 ⟨rfl, z⟩)
        · exact h3 g hg
theorem BL_ex {c : List Ins} {st : Int} {L : List Int} (cl : ∀ a, a ∈ L → ∀ g, g ∈ qg c a → g ∈ L) : ∀ (n k : Nat) (R : List Int), L.length - k = n → BI L R → st ∈ R → (∀ x, x ∈ R → x = st ∨ Rc c st x) → (∀ j, j < k → j < R.length → ∀ g, g ∈ qg c (R.getD j 0) → g ∈ R ∧ g ≠ st) →
    ∃ b, BL c st k R b ∧ (b = true ↔ Rc c st st) := by
  intro n
  induction n using Nat.strongRecOn with
  | ind n ih =>
    intro k R en i hst hr hp
    by_cases hk : k < R.length
    · have hle := nodup_le i.nd i.sub
      have hx : R.getD k 0 ∈ R := by
        simp [List.getD, List.getElem?_eq_getElem hk]
      have hL := i.sub _ hx
      have hms : ∀ g, (g, false) ∈ mvs (nthI c (R.getD k 0)) (R.getD k 0) → g ∈ L := fun g hg => cl _ hL g (mem_qg.mpr hg)
      cases e : bgo st (mvs (nthI c (R.getD k 0)) (R.getD k 0)) R with
      | none =>
        refine ⟨true, .found hk e, fun _ => ?_, fun _ => rfl⟩
        have hq := mem_qg.mpr (bgo_none e)
        rcases hr _ hx with h | h
        · rw [h] at hq; exact .one hq
        · exact .tail h hq
      | some R' =>
        obtain ⟨i2, ⟨T, e2, hT⟩, h3⟩ := bgo_some e i hms
        have hg : ∀ j, j < R.length → R'.getD j 0 = R.getD j 0 := fun j hj => by
          rw [e2]
          simp [List.getD, List.getElem?_append_left hj]
        obtain ⟨b, hb, hb2⟩ := ih (L.length - (k + 1)) (by omega) (k + 1) R' rfl i2 (by rw [e2]; exact List.mem_append_left _ hst) (fun x hx' => by
          rw [e2] at hx'
          rcases List.mem_append.mp hx' with h | h
          · exact hr x h
          · have hq := mem_qg.mpr (hT x h)
            rcases hr _ hx with h' | h'
            · rw [h'] at hq; exact .inr (.one hq)
            · exact .inr (.tail h' hq)) (fun j hj hj2 g hgq => by
          by_cases hjk : j = k
          · subst hjk
            rw [hg j hk] at hgq
            exact h3 g (mem_qg.mp hgq)
          · have hjk2 : j < k := by omega
            rw [hg j (by omega)] at hgq
            have := hp j hjk2 (by omega) g hgq
            exact ⟨by rw [e2]; exact List.mem_append_left _ this.1, this.2⟩)
        exact ⟨b, .go hk e hb, hb2⟩
    · refine ⟨false, .done (by omega), Iff.intro (fun e => absurd e Bool.false_ne_true) fun h => ?_⟩
      have key : ∀ b, Rc c st b → b ∈ R ∧ b ≠ st := by
        have stp : ∀ x g, x ∈ R → g ∈ qg c x → g ∈ R ∧ g ≠ st := fun x g hx hg => by
          obtain ⟨j, hj, rfl⟩ := List.mem_iff_getElem.mp hx
          refine hp j (by omega) hj g ?_
          simpa [List.getD, List.getElem?_eq_getElem hj] using hg
        intro b hb
        induction hb with
        | one e => exact stp _ _ hst e
        | tail _ e ih2 => exact stp _ _ ih2.1 e
      exact absurd rfl (key st h).2
end K24

namespace K24
open PySem PySem.Spec PyProof.Rows L2 PV
/-! ### has_quiet_circle -/
def lK (c : List Ins) (L : List Int) : List (Key × D) := L.map fun a => (.inl a, .lst ((qg c a).map D.int))
theorem lK_get {c : List Ins} {g : Int} : ∀ L : List Int, kget (lK c L) (.inl g) = if g ∈ L then some (.lst ((qg c g).map D.int)) else none
  | [] => by simp [kget, lK]
  | a :: r => by
    have ih := lK_get (c := c) (g := g) r
    unfold kget lK at ih ⊢
    rw [List.map_cons]
    by_cases e : a = g
    · subst e; simp
    · rw [List.find?_cons_of_neg (by simpa using e), ih]
      have : g ∈ a :: r ↔ g ∈ r := by
        rw [List.mem_cons]
        exact ⟨fun q => q.elim (fun q => absurd q.symm e) id, .inr⟩
      simp only [this]
theorem lK_any {c : List Ins} {g : Int} {L : List Int} (h : g ∉ L) : (lK c L).any (fun q => decide (q.1 = .inl g)) = false := by
  rw [List.any_eq_false]
  intro q hq
  obtain ⟨a, ha, rfl⟩ := List.mem_map.mp hq
  simp only [decide_eq_true_eq]
  intro e
  exact h (Sum.inl.inj e ▸ ha)
theorem lK_put {c : List Ins} {g : Int} {L : List Int} (h : g ∉ L) : kput (lK c L) (.inl g) (.lst ((qg c g).map D.int)) = lK c (L ++ [g]) := by
  unfold kput
  rw [lK_any h]
  simp [lK]
theorem lK_drop {c : List Ins} {g : Int} : ∀ L : List Int, (lK c L).filter (fun q => decide (q.1 ≠ .inl g)) = lK c (L.filter fun a => decide (a ≠ g))
  | [] => rfl
  | a :: r => by
    have ih := lK_drop (c := c) (g := g) r
    unfold lK at ih ⊢
    rw [List.map_cons]
    by_cases e : a = g
    · subst e; simpa using ih
    · simpa [e] using ih
theorem put56 {a0 a1 a2 a3 a4 : Slot} {m : Int × Bool} : (Tg.tp [.nm 5, .nm 6]).put (mvD m) [a0, a1, a2, a3, a4, none, none] = some [a0, a1, a2, a3, a4, some (.sh, .int m.1), some (.sh, .bl m.2)] := by
  unfold mvD
  rw [Tg.put]
  rfl
theorem qin_loop {a0 a1 a2 a3 a4 : Slot} : ∀ (ms : List (Int × Bool)) (acc : List D), acc.length + ms.length ≤ sizeLine →
    lcL (.tp [.nm 5, .nm 6]) (notM (truM (.sl 6))) (varM 5) [5, 6] (ms.map mvD) acc [a0, a1, a2, a3, a4, none, none] = .ok (acc ++ ((ms.filter fun m => !m.2).map (·.1)).map D.int) [a0, a1, a2, a3, a4, none, none]
  | [], acc, _ => by simp [lcL]
  | m :: ms, acc, h => by
    rw [List.length_cons] at h
    have hz : acc.length < sizeLine := by omega
    rw [List.map_cons, lcL, put56]
    obtain ⟨g, d⟩ := m
    cases d with
    | true =>
      have ih := qin_loop (a0 := a0) (a1 := a1) (a2 := a2) (a3 := a3) (a4 := a4) ms acc (by omega)
      simp (implicitDefEqProofs := false) [nox, killAll] at ih ⊢
      exact ih
    | false =>
      have ih := qin_loop (a0 := a0) (a1 := a1) (a2 := a2) (a3 := a3) (a4 := a4) ms (acc ++ [.int g]) (by rw [List.length_append]; simp only [List.length_cons, List.length_nil]; omega)
      simp (implicitDefEqProofs := false) [nox, killAll, hz] at ih ⊢
      exact ih
theorem mvs_len {x : Ins} {a : Int} (hk : InsK x) : (mvs x a).length ≤ 63 := by
  unfold mvs
  split
  · simp
  split
  · split
    · rename_i p l e
      rw [List.length_map]
      have := (hk.p (.c l) (by rw [e]; simp)).1
      omega
    · simp
  split
  · split <;> simp
  split
  · split <;> simp
  split
  · split <;> simp
  · simp
noncomputable def qiM (k : Nat) : M (Bool × D) := (compM (itM (callM (sem k 3) [.ex (varM 0), .ex (varM 4)])) (.tp [(.nm 5), (.nm 6)]) (notM (truM (.sl 6))) (varM 5) [5, 6])
theorem qi_ok {k : Nat} {es : List Str} {c : List Ins} {a : Int} {s1 s2 s3 : Slot} (C : CodeOk es c) (h0 : 0 ≤ a) (h1 : a < c.length) :
    qiM (k + 1) [some (.sh, codeD c), s1, s2, s3, some (.sh, .int a), none, none] = .ok (true, .lst ((qg c a).map D.int)) [some (.sh, codeD c), s1, s2, s3, some (.sh, .int a), none, none] := by
  have hm := nth_mem h0 h1
  have eg := goals (k := k) (cd_at h0 h1) (C.k _ hm) (C.v _ hm)
  have el := qin_loop (a0 := some (.sh, codeD c)) (a1 := s1) (a2 := s2) (a3 := s3) (a4 := some (.sh, .int a)) (mvs (nthI c a) a) [] (by have := mvs_len (a := a) (C.k _ hm); rw [sizeLine_eq]; simp only [List.length_nil]; omega)
  rw [List.nil_append] at el
  have ek : killAll [some (.sh, codeD c), s1, s2, s3, some (.sh, .int a), none, none] [5, 6] = [some (.sh, codeD c), s1, s2, s3, some (.sh, .int a), none, none] := rfl
  unfold qiM qg
  generalize (mvs (nthI c a) a).map mvD = ms at *
  generalize (((mvs (nthI c a) a).filter fun m => !m.2).map (·.1)).map D.int = r at *
  generalize codeD c = CD at *
  simp (implicitDefEqProofs := false) [eg, ek, el]
theorem qd_loop {k : Nat} {es : List Str} {c : List Ins} {s1 s2 s3 : Slot} (C : CodeOk es c) : ∀ (L A : List Int), (A ++ L).Nodup → (∀ a, a ∈ L → 0 ≤ a ∧ a < c.length) → A.length + L.length ≤ sizeLine →
    dcL (.nm 4) yesM (varM 4) (qiM (k + 1)) [4] (L.map D.int) (lK c A) [some (.sh, codeD c), s1, s2, s3, none, none, none] = .ok (lK c (A ++ L)) [some (.sh, codeD c), s1, s2, s3, none, none, none]
  | [], A, _, _, _ => by simp [dcL]
  | a :: L, A, hn, hr, hz => by
    rw [List.length_cons] at hz
    have ih := qd_loop (k := k) (s1 := s1) (s2 := s2) (s3 := s3) C L (A ++ [a]) (by simpa using hn) (fun b hb => hr b (List.mem_cons_of_mem _ hb)) (by rw [List.length_append]; simp only [List.length_cons, List.length_nil]; omega)
    obtain ⟨h0, h1⟩ := hr a List.mem_cons_self
    have eq := qi_ok (k := k) (s1 := s1) (s2 := s2) (s3 := s3) C h0 h1
    have hna : a ∉ A := fun m => by
      rw [List.nodup_append] at hn
      exact hn.2.2 a m a List.mem_cons_self rfl
    have ep := lK_put (c := c) hna
    have el : (lK c A).length < sizeLine := by unfold lK; rw [List.length_map]; omega
    rw [show A ++ a :: L = A ++ [a] ++ L by simp, ← ih]
    rw [List.map_cons, dcL, ev_putN]
    generalize lK c (A ++ [a]) = B at *
    generalize lK c A = LA at *
    generalize codeD c = CD at *
    generalize qiM (k + 1) = Q at *
    simp (implicitDefEqProofs := false) [nox, eq, key_int, el, ep, killAll]
end K24

namespace K24
open PySem PySem.Spec PyProof.Rows L2 PV
theorem any_loop {c : List Ins} {L : List Int} {a0 a1 a3 a4 a6 : Slot} : ∀ (gs : List Int) (acc : List D), acc.length + gs.length ≤ sizeLine →
    lcL (.nm 5) yesM (binM (inD false) (.sl 5) (.sl 2)) [5] (gs.map D.int) acc [a0, a1, some (.io, .dcl (lK c L)), a3, a4, none, a6] = .ok (acc ++ gs.map fun g => D.bl (decide (g ∈ L))) [a0, a1, some (.io, .dcl (lK c L)), a3, a4, none, a6]
  | [], acc, _ => by simp [lcL]
  | g :: gs, acc, h => by
    rw [List.length_cons] at h
    have hz : acc.length < sizeLine := by omega
    have ih := any_loop (c := c) (L := L) (a0 := a0) (a1 := a1) (a3 := a3) (a4 := a4) (a6 := a6) gs (acc ++ [.bl (decide (g ∈ L))]) (by rw [List.length_append]; simp only [List.length_cons, List.length_nil]; omega)
    have ei : inD false (.int g) (.dcl (lK c L)) = some (false, .bl (decide (g ∈ L))) := by
      unfold inD
      simp only [D.key, Option.map_some, lK_get]
      by_cases q : g ∈ L <;> simp [q]
    rw [show acc ++ (g :: gs).map (fun g => D.bl (decide (g ∈ L))) = acc ++ [D.bl (decide (g ∈ L))] ++ gs.map fun g => D.bl (decide (g ∈ L)) by simp, ← ih]
    rw [List.map_cons, lcL, ev_putN]
    generalize lK c L = LK at *
    generalize decide (g ∈ L) = q at *
    simp (implicitDefEqProofs := false) [nox, ei, hz, killAll]
theorem bls_map {α : Type} {f : α → Bool} : ∀ l : List α, bls (l.map fun x => D.bl (f x)) = some (l.map f)
  | [] => rfl
  | x :: l => by simp [bls, bls_map l]
theorem any_map {c : List Ins} {L : List Int} {a : Int} : anyD (.lst ((qg c a).map fun g => D.bl (decide (g ∈ L)))) = some (false, .bl (!rdyB c L a)) := by
  show (bls _).map _ = _
  rw [bls_map]
  unfold rdyB
  rw [Bool.not_not, Option.map_some, List.any_map]
  rfl
theorem qg_len {es : List Str} {c : List Ins} {a : Int} (C : CodeOk es c) (h0 : 0 ≤ a) (h1 : a < c.length) : (qg c a).length ≤ 63 := by
  unfold qg
  rw [List.length_map]
  exact Nat.le_trans (List.length_filter_le _ _) (mvs_len (C.k _ (nth_mem h0 h1)))
theorem ready_loop {es : List Str} {c : List Ins} {L : List Int} {a0 a1 a3 : Slot} (C : CodeOk es c) : ∀ (as : List Int) (acc : List D), (∀ a, a ∈ as → a ∈ L ∧ 0 ≤ a ∧ a < c.length) → acc.length + as.length ≤ sizeLine →
    lcL (.nm 4) (notM (truM (.ex (unM anyD (.ex (compM (itM (binM ixD (.sl 2) (.sl 4))) (.nm 5) yesM (binM (inD false) (.sl 5) (.sl 2)) [5])))))) (varM 4) [4] (as.map D.int) acc [a0, a1, some (.io, .dcl (lK c L)), a3, none, none, none] =
      .ok (acc ++ (as.filter (rdyB c L)).map D.int) [a0, a1, some (.io, .dcl (lK c L)), a3, none, none, none]
  | [], acc, _, _ => by simp [lcL]
  | a :: as, acc, hr, h => by
    rw [List.length_cons] at h
    have hz : acc.length < sizeLine := by omega
    obtain ⟨hL, h0, h1⟩ := hr a List.mem_cons_self
    have ex : ixD (.dcl (lK c L)) (.int a) = some (false, .lst ((qg c a).map D.int)) := by
      show (D.key (.int a)).bind (fun k => (kget (lK c L) k).map fun d => (false, d)) = _
      simp only [D.key, Option.bind_some, lK_get, if_pos hL, Option.map_some]
    have el := any_loop (c := c) (L := L) (a0 := a0) (a1 := a1) (a3 := a3) (a4 := some (.sh, .int a)) (a6 := none) (qg c a) [] (by have := qg_len C h0 h1; rw [sizeLine_eq]; simp only [List.length_nil]; omega)
    rw [List.nil_append] at el
    have ea := any_map (c := c) (L := L) (a := a)
    have ek : killAll [a0, a1, some (.io, .dcl (lK c L)), a3, some (.sh, .int a), none, none] [5] = [a0, a1, some (.io, .dcl (lK c L)), a3, some (.sh, .int a), none, none] := rfl
    rw [List.map_cons, lcL, ev_putN]
    cases q : rdyB c L a with
    | true =>
      have ih := ready_loop (a0 := a0) (a1 := a1) (a3 := a3) C as (acc ++ [.int a]) (fun b hb => hr b (List.mem_cons_of_mem _ hb)) (by rw [List.length_append]; simp only [List.length_cons, List.length_nil]; omega)
      rw [q] at ea
      rw [List.filter_cons_of_pos q]
      generalize lK c L = LK at *
      generalize ((qg c a).map fun g => D.bl (decide (g ∈ L))) = bs at *
      generalize (qg c a).map D.int = gs at *
      rw [show acc ++ List.map D.int (a :: List.filter (rdyB c L) as) = acc ++ [D.int a] ++ List.map D.int (List.filter (rdyB c L) as) by simp, ← ih]
      simp (implicitDefEqProofs := false) [nox, ex, ek, el, ea, hz, killAll]
    | false =>
      have ih := ready_loop (a0 := a0) (a1 := a1) (a3 := a3) C as acc (fun b hb => hr b (List.mem_cons_of_mem _ hb)) (by omega)
      rw [q] at ea
      rw [List.filter_cons_of_neg (by rw [q]; exact Bool.false_ne_true), ← ih]
      generalize lK c L = LK at *
      generalize ((qg c a).map fun g => D.bl (decide (g ∈ L))) = bs at *
      generalize (qg c a).map D.int = gs at *
      simp (implicitDefEqProofs := false) [nox, ex, ek, el, ea, killAll]
def pops (L : List Int) (as : List Int) : List Int := L.filter fun x => decide (x ∉ as)
theorem pops_cons {L as : List Int} {a : Int} : pops (L.filter fun x => decide (x ≠ a)) as = pops L (a :: as) := by
  unfold pops
  rw [List.filter_filter]
  congr 1
  funext x
  simp only [List.mem_cons, not_or, ne_eq, Bool.decide_and]
  rw [Bool.and_comm]
theorem pop_loop {c : List Ins} {a0 a1 a3 : Slot} : ∀ (as L : List Int) (s4 : Slot), fre s4 = true → as.Nodup → (∀ a, a ∈ as → a ∈ L) → ∃ t4 : Slot, fre t4 = true ∧
    forL (.nm 4) (dropM (dpopM 2 (varM 4))) (as.map D.int) [a0, a1, some (.ow, .dct (lK c L)), a3, s4, none, none] = .ok .nx [a0, a1, some (.ow, .dct (lK c (pops L as))), a3, t4, none, none]
  | [], L, s4, h4, _, _ => ⟨s4, h4, by
    have : pops L [] = L := by unfold pops; simp
    rw [this]; rfl⟩
  | a :: as, L, s4, h4, hn, hs => by
    obtain ⟨n1, n2⟩ := List.nodup_cons.mp hn
    obtain ⟨t4, f4, ih⟩ := pop_loop (c := c) (a0 := a0) (a1 := a1) (a3 := a3) as (L.filter fun x => decide (x ≠ a)) (some (.sh, .int a)) rfl n2 fun b hb => List.mem_filter.mpr ⟨hs b (List.mem_cons_of_mem _ hb), decide_eq_true fun e => n1 (e ▸ hb)⟩
    refine ⟨t4, f4, ?_⟩
    rw [← pops_cons, ← ih]
    have eg : kget (lK c L) (.inl a) = some (.lst ((qg c a).map D.int)) := by rw [lK_get, if_pos (hs a List.mem_cons_self)]
    have ed := lK_drop (c := c) (g := a) L
    rw [List.map_cons, ev_for1, put_fre (x := s4) rfl h4]
    generalize lK c (L.filter fun x => decide (x ≠ a)) = L2 at *
    generalize lK c L = L1 at *
    generalize (qg c a).map D.int = gs at *
    show (dropM (dpopM 2 (varM 4)) [a0, a1, some (.ow, .dct L1), a3, some (.sh, .int a), none, none]).bind _ = _
    have e1 : dropM (dpopM 2 (varM 4)) [a0, a1, some (.ow, .dct L1), a3, some (.sh, .int a), none, none] = .ok .nx [a0, a1, some (.ow, .dct L2), a3, some (.sh, .int a), none, none] := by
      rw [← ed]
      simp (implicitDefEqProofs := false) [isDct, key_int, eg]
    rw [e1]
    rfl
theorem pops_ready {c : List Ins} {L : List Int} : pops L (ready c L) = qstep c L := by
  unfold pops qstep ready
  apply List.filter_congr
  intro x hx
  cases q : rdyB c L x with
  | true =>
    have : x ∈ L.filter (rdyB c L) := List.mem_filter.mpr ⟨hx, q⟩
    simp [this]
  | false =>
    have : x ∉ L.filter (rdyB c L) := fun m => by
      have := (List.mem_filter.mp m).2
      rw [q] at this; cases this
    simp
    exact .inr q
noncomputable def qwB : M Fl := (seqM (lockM 2 (setM 3 (compM (keysM 2) (.nm 4) (notM (truM (.ex (unM anyD (.ex (compM (itM (binM ixD (.sl 2) (.sl 4))) (.nm 5) yesM (binM (inD false) (.sl 5) (.sl 2)) [5])))))) (varM 4) [4])))
    (seqM (iteM (notM (truM (.sl 3))) (retM (constM (.bl true))) nxM)
    (forM (itM (varM 3)) (.nm 4) (dropM (dpopM 2 (varM 4))))))
def nio : Slot → Bool
  | some (.io, _) => false
  | _ => true
theorem pu73 {a0 a1 a2 a4 a5 a6 x : Slot} {o : Own} {d : D} (h : nio x = true) : putS [a0, a1, a2, x, a4, a5, a6] 3 o d = some [a0, a1, a2, some (o, d), a4, a5, a6] := by
  match x, h with
  | none, _ => rfl
  | some (.sh, _), _ => rfl
  | some (.ow, _), _ => rfl
/-- the frame of has_quiet_circle -/
def qS (c : List Ins) (re : D) (L : List Int) (s3 s4 : Slot) : S := [some (.sh, codeD c), some (.io, re), some (.ow, .dct (lK c L)), s3, s4, none, none]
theorem qw_turn {es : List Str} {c : List Ins} {re : D} {L : List Int} {s3 s4 : Slot} (C : CodeOk es c) (hn : L.Nodup) (hr : ∀ a, a ∈ L → 0 ≤ a ∧ a < c.length) (h3 : nio s3 = true) (h4 : fre s4 = true) :
    if ready c L = [] then ∃ t3 t4 : Slot, qwB (qS c re L s3 s4) = .ok (.rt false (.bl true)) (qS c re L t3 t4)
    else ∃ t3 t4 : Slot, nio t3 = true ∧ fre t4 = true ∧ qwB (qS c re L s3 s4) = .ok .nx (qS c re (qstep c L) t3 t4) := by
  have hlen : L.length ≤ c.length := ints_le hn hr
  have hlen2 := C.n
  have el := ready_loop (a0 := some (.sh, codeD c)) (a1 := some (.io, re)) (a3 := s3) (L := L) C L [] (fun a ha => ⟨ha, hr a ha⟩) (by rw [sizeLine_eq]; simp only [List.length_nil]; omega)
  rw [List.nil_append] at el
  have ek : (lK c L).map (fun q => keyD q.1) = L.map D.int := by
    unfold lK
    rw [List.map_map]
    rfl
  have ekl : killAll [some (.sh, codeD c), some (.io, re), some (.io, .dcl (lK c L)), s3, s4, none, none] [4] = [some (.sh, codeD c), some (.io, re), some (.io, .dcl (lK c L)), s3, none, none, none] := rfl
  have e1 : lockM 2 (setM 3 (compM (keysM 2) (.nm 4) (notM (truM (.ex (unM anyD (.ex (compM (itM (binM ixD (.sl 2) (.sl 4))) (.nm 5) yesM (binM (inD false) (.sl 5) (.sl 2)) [5])))))) (varM 4) [4])) (qS c re L s3 s4) =
      .ok .nx [some (.sh, codeD c), some (.io, re), some (.ow, .dct (lK c L)), some (.ow, .lst ((ready c L).map D.int)), none, none, none] := by
    unfold qS ready
    generalize (L.filter (rdyB c L)).map D.int = R at *
    generalize L.map D.int = LI at *
    generalize lK c L = LK at *
    generalize codeD c = CD at *
    have hne : ¬ (Own.ow = Own.sh) := by decide
    simp (implicitDefEqProofs := false) [-ev_putS, pu73, h3, ek, ekl, el]
  unfold qwB
  rw [ev_seq, e1, Res.bind_ok]
  have hrn : (ready c L).Nodup := hn.sublist List.filter_sublist
  have hrs : ∀ a, a ∈ ready c L → a ∈ L := fun a ha => (List.mem_filter.mp ha).1
  by_cases hq : ready c L = []
  · rw [if_pos hq, hq]
    refine ⟨some (.ow, .lst []), none, ?_⟩
    unfold qS
    generalize lK c L = LK at *
    generalize codeD c = CD at *
    simp (implicitDefEqProofs := false)
  · rw [if_neg hq]
    obtain ⟨t4, f4, ep⟩ := pop_loop (c := c) (a0 := some (.sh, codeD c)) (a1 := some (.io, re)) (a3 := some (.sh, .lst ((ready c L).map D.int))) (ready c L) L none rfl hrn hrs
    rw [pops_ready] at ep
    refine ⟨some (.sh, .lst ((ready c L).map D.int)), t4, rfl, f4, ?_⟩
    have hem : ((ready c L).map D.int).isEmpty = false := by
      rw [List.isEmpty_map]
      exact List.isEmpty_eq_false_iff.mpr hq
    unfold qS
    generalize (ready c L).map D.int = R at *
    generalize lK c (qstep c L) = L2 at *
    generalize lK c L = LK at *
    generalize codeD c = CD at *
    simp (implicitDefEqProofs := false) [hem, ep]
theorem qw_loop {es : List Str} {c : List Ins} {re : D} {L : List Int} {b : Bool} (C : CodeOk es c) (H : QL c L b) : ∀ {s3 s4 : Slot}, L.Nodup → (∀ a, a ∈ L → 0 ≤ a ∧ a < c.length) → nio s3 = true → fre s4 = true →
    ∃ (L' : List Int) (t3 t4 : Slot), whileM (truM (.sl 2)) qwB (qS c re L s3 s4) = .ok (if b then .rt false (.bl true) else .nx) (qS c re L' t3 t4) := by
  have ht : ∀ {L : List Int} {s3 s4 : Slot}, truM (.sl 2) (qS c re L s3 s4) = .ok (!L.isEmpty) (qS c re L s3 s4) := by
    intro L s3 s4
    have : (lK c L).isEmpty = L.isEmpty := by unfold lK; rw [List.isEmpty_map]
    have et : truD (.dct (lK c L)) = some (!L.isEmpty) := by
      show some (!(lK c L).isEmpty) = _
      rw [this]
    unfold qS
    generalize lK c L = LK at *
    simp (implicitDefEqProofs := false) [et]
  induction H with
  | done =>
    intro s3 s4 hn hr h3 h4
    refine ⟨[], s3, s4, ?_⟩
    rw [whileM_eq]
    unfold wstep
    rw [ht]
    rfl
  | @circ L0 hL hq =>
    intro s3 s4 hn hr h3 h4
    have t := qw_turn (re := re) C hn hr h3 h4
    rw [if_pos hq] at t
    obtain ⟨t3, t4, t⟩ := t
    refine ⟨L0, t3, t4, ?_⟩
    rw [whileM_eq]
    unfold wstep
    rw [ht, Res.bind_ok, List.isEmpty_eq_false_iff.mpr hL, t]
    rfl
  | go hL hq H ih =>
    intro s3 s4 hn hr h3 h4
    have t := qw_turn (re := re) C hn hr h3 h4
    rw [if_neg hq] at t
    obtain ⟨t3, t4, f3, f4, t⟩ := t
    obtain ⟨L', u3, u4, ih⟩ := ih (s3 := t3) (s4 := t4) (hn.sublist List.filter_sublist) (fun a ha => hr a (List.mem_filter.mp ha).1) f3 f4
    refine ⟨L', u3, u4, ?_⟩
    rw [whileM_eq]
    unfold wstep
    rw [ht, Res.bind_ok, List.isEmpty_eq_false_iff.mpr hL, t]
    exact ih
end K24

namespace K24
open PySem PySem.Spec PyProof.Rows L2 PV
def keys (h : List (Int × Int)) : List Int := h.map (·.1)
theorem hK_keys {h : List (Int × Int)} : (hK h).map (fun q => keyD q.1) = (keys h).map D.int := by
  unfold hK keys
  rw [List.map_map, List.map_map]
  rfl
theorem HI.keys_rg {n : Nat} {h : List (Int × Int)} {w : List Int} (i : HI n h w) : ∀ a, a ∈ keys h → 0 ≤ a ∧ a < n := fun a ha => i.rg a (hget_mem.mpr ha)
theorem Cl.keys {c : List Ins} {h : List (Int × Int)} (cl : Cl c h []) : ∀ a, a ∈ keys h → ∀ g, g ∈ qg c a → g ∈ K24.keys h := fun a ha g hg =>
  hget_mem.mp (cl a (hget_mem.mpr ha) (by simp) (g, false) (mem_qg.mp hg))
theorem quiet {k : Nat} {es : List Str} {c : List Ins} {h : List (Int × Int)} {b : Bool} (C : CodeOk es c) (i : HI c.length h []) (H : QL c (keys h) b) : sem (k + 2) 5 [codeD c, .dct (hK h)] = .ret false (.bl b) [.dct (hK h)] := by
  have hnd : (keys h).Nodup := i.nd
  have hlen := i.len
  have hC := C.n
  have hkl : (keys h).length = h.length := by unfold keys; rw [List.length_map]
  have ed := qd_loop (k := k) (s1 := some (.io, .dcl (hK h))) (s2 := none) (s3 := none) C (keys h) [] (by simpa using hnd) i.keys_rg (by rw [sizeLine_eq]; simp only [List.length_nil]; omega)
  rw [List.nil_append, show lK c [] = [] from rfl] at ed
  obtain ⟨L', t3, t4, el⟩ := qw_loop (re := .dct (hK h)) C H (s3 := none) (s4 := none) hnd i.keys_rg rfl rfl
  have ek := hK_keys (h := h)
  have e1 : lockM 1 (setM 2 (dcM (keysM 1) (.nm 4) yesM (varM 4) (qiM (k + 1)) [4])) [some (.sh, codeD c), some (.io, .dct (hK h)), none, none, none, none, none] = .ok .nx (qS c (.dct (hK h)) (keys h) none none) := by
    have ekl : killAll [some (.sh, codeD c), some (.io, .dcl (hK h)), none, none, none, none, none] [4] = [some (.sh, codeD c), some (.io, .dcl (hK h)), none, none, none, none, none] := rfl
    unfold qS
    generalize (keys h).map D.int = KI at *
    generalize lK c (keys h) = LK at *
    generalize hK h = H at *
    generalize codeD c = CD at *
    generalize qiM (k + 1) = QI at *
    simp (implicitDefEqProofs := false) [ek, ekl, ed]
  have eb : b5 (sem (k + 1)) = seqM (lockM 1 (setM 2 (dcM (keysM 1) (.nm 4) yesM (varM 4) (qiM (k + 1)) [4]))) (seqM (whileM (truM (.sl 2)) qwB) (retM (constM (.bl false)))) := rfl
  rw [se5]
  refine runF_rt (s := qS c (.dct (hK h)) L' t3 t4) ?_ rfl rfl
  rw [show initS [1] 7 [codeD c, .dct (hK h)] = [some (.sh, codeD c), some (.io, .dct (hK h)), none, none, none, none, none] from rfl]
  rw [eb, ev_seq, e1, Res.bind_ok]
  show seqM _ _ _ = _
  rw [ev_seq, el, Res.bind_ok]
  cases b <;> rfl
/-! ### is_sound -/
theorem form_loop {k : Nat} {es : List Str} {n : Int} {cd : D} {s2 : Slot} (hl : lenD cd = some (false, .int n)) : ∀ (c : List Ins) (acc : List D), (∀ x, x ∈ c → InsK x) → acc.length + c.length ≤ sizeLine →
    lcL (.nm 3) yesM (callM (sem (k + 3) 2) [.ex (varM 0), .ex (varM 3), .ex (unM lenD (.sl 1))]) [3] (c.map insD) acc [some (.sh, endsD es), some (.sh, cd), s2, none] = .ok (acc ++ c.map fun x => D.bl (insOk es n x)) [some (.sh, endsD es), some (.sh, cd), s2, none]
  | [], acc, _, _ => by simp [lcL]
  | x :: c, acc, hk, h => by
    rw [List.length_cons] at h
    have hz : acc.length < sizeLine := by omega
    have ih := form_loop (k := k) (es := es) (n := n) (s2 := s2) hl c (acc ++ [.bl (insOk es n x)]) (fun y hy => hk y (List.mem_cons_of_mem _ hy)) (by rw [List.length_append]; simp only [List.length_cons, List.length_nil]; omega)
    have ef := has_form (k := k) (es := es) (size := n) (hk x List.mem_cons_self)
    rw [show acc ++ (x :: c).map (fun x => D.bl (insOk es n x)) = acc ++ [D.bl (insOk es n x)] ++ c.map fun x => D.bl (insOk es n x) by simp, ← ih]
    rw [List.map_cons, lcL, ev_putN]
    generalize endsD es = ED at *
    generalize insD x = X at *
    simp (implicitDefEqProofs := false) [nox, hl, ef, hz, killAll]
theorem sound_false {k : Nat} {es : List Str} {c : List Ins} (hk : ∀ x, x ∈ c → InsK x) (hn : c.length ≤ 1000) (hf : c = [] ∨ (c.all fun x => insOk es c.length x) = false) : sem (k + 4) 6 [endsD es, codeD c] = .ret false (.bl false) [] := by
  rw [se6]
  by_cases hc : c = []
  · subst hc
    refine runF_rt (s := [some (.sh, endsD es), some (.sh, .tup []), none, none]) ?_ rfl rfl
    rw [show initS [] 4 [endsD es, codeD []] = [some (.sh, endsD es), some (.sh, .tup []), none, none] from rfl]
    unfold b6
    simp (implicitDefEqProofs := false)
  · have hf : (c.all fun x => insOk es c.length x) = false := hf.elim (fun e => absurd e hc) id
    have el := form_loop (k := k) (es := es) (s2 := none) (cd_len (c := c)) c [] hk (by rw [sizeLine_eq]; simp only [List.length_nil]; omega)
    rw [List.nil_append] at el
    have ea : allD (.lst (c.map fun x => D.bl (insOk es c.length x))) = some (false, .bl false) := by
      show (bls _).map _ = _
      rw [bls_map, Option.map_some, List.all_map]
      show some (false, D.bl (c.all fun x => insOk es c.length x)) = _
      rw [hf]
    have et : truD (codeD c) = some true := by
      show some (!(c.map insD).isEmpty) = _
      rw [List.isEmpty_map, List.isEmpty_eq_false_iff.mpr hc]; rfl
    have ei : itM (varM 1) [some (.sh, endsD es), some (.sh, codeD c), none, none] = .ok (c.map insD) [some (.sh, endsD es), some (.sh, codeD c), none, none] := by
      unfold codeD
      simp (implicitDefEqProofs := false)
    refine runF_rt (s := [some (.sh, endsD es), some (.sh, codeD c), none, none]) ?_ rfl rfl
    rw [show initS [] 4 [endsD es, codeD c] = [some (.sh, endsD es), some (.sh, codeD c), none, none] from rfl]
    unfold b6
    generalize endsD es = ED at *
    generalize codeD c = CD at *
    simp (implicitDefEqProofs := false) [-ev_itM, et, ei, killAll, el, ea]
theorem sound_of {k : Nat} {es : List Str} {c : List Ins} (C : CodeOk es c) (hc : c ≠ []) {r : Option (List (Int × Int))} (H : HL c [(0, 0)] [0] r) (hi : ∀ h', r = some h' → HI c.length h' []) {b : Bool} (hb : ∀ h', r = some h' → QL c (keys h') b) :
    sem (k + 4) 6 [endsD es, codeD c] = .ret false (.bl (match r with | none => false | some _ => !b)) [] := by
  rw [se6]
  have hn := C.n
  have el := form_loop (k := k) (es := es) (s2 := none) (cd_len (c := c)) c [] C.k (by rw [sizeLine_eq]; simp only [List.length_nil]; omega)
  rw [List.nil_append] at el
  have ea : allD (.lst (c.map fun x => D.bl (insOk es c.length x))) = some (false, .bl true) := by
    show (bls _).map _ = _
    rw [bls_map, Option.map_some, List.all_map]
    show some (false, D.bl (c.all fun x => insOk es c.length x)) = _
    rw [List.all_eq_true.mpr C.v]
  have et : truD (codeD c) = some true := by
    show some (!(c.map insD).isEmpty) = _
    rw [List.isEmpty_map, List.isEmpty_eq_false_iff.mpr hc]; rfl
  have ei : itM (varM 1) [some (.sh, endsD es), some (.sh, codeD c), none, none] = .ok (c.map insD) [some (.sh, endsD es), some (.sh, codeD c), none, none] := by
    unfold codeD
    simp (implicitDefEqProofs := false)
  have eh := heights (k := k + 1) C hc H
  cases r with
  | none =>
    refine runF_rt (s := [some (.sh, endsD es), some (.sh, codeD c), some (.sh, .non), none]) ?_ rfl rfl
    rw [show initS [] 4 [endsD es, codeD c] = [some (.sh, endsD es), some (.sh, codeD c), none, none] from rfl]
    unfold b6
    simp only [hD] at eh
    generalize endsD es = ED at *
    generalize codeD c = CD at *
    simp (implicitDefEqProofs := false) [-ev_itM, et, ei, killAll, el, ea, eh]
  | some h =>
    have eq := quiet (k := k + 1) C (hi h rfl) (hb h rfl)
    refine runF_rt (s := [some (.sh, endsD es), some (.sh, codeD c), some (.ow, .dct (hK h)), none]) ?_ rfl rfl
    rw [show initS [] 4 [endsD es, codeD c] = [some (.sh, endsD es), some (.sh, codeD c), none, none] from rfl]
    unfold b6
    simp only [hD] at eh
    generalize hK h = H0 at *
    generalize endsD es = ED at *
    generalize codeD c = CD at *
    simp (implicitDefEqProofs := false) [-ev_itM, et, ei, killAll, el, ea, eh, eq]
end K24

namespace K24
open PySem PySem.Spec PyProof.Rows L2 PV
/-! ### the law's search for a circle -/
theorem flts_ints : ∀ xs : List Int, flts (xs.map D.int) = some (xs.map V.int)
  | [] => rfl
  | x :: xs => by simp [flts, D.flt, flts_ints xs]
theorem inV_ints {x : Int} : ∀ xs : List Int, inV (.int x) (xs.map V.int) = decide (x ∈ xs)
  | [] => by simp [inV]
  | y :: xs => by
    have ih := inV_ints (x := x) xs
    unfold inV at ih ⊢
    rw [List.map_cons, List.any_cons, ih]
    have : eqV (.int y) (.int x) = decide (x = y) := by
      show decide (y = x) = _
      rw [Bool.eq_iff_iff, decide_eq_true_iff, decide_eq_true_iff]
      exact eq_comm
    rw [this, Bool.eq_iff_iff]
    simp
theorem in_ints {n : Bool} {x : Int} {xs : List Int} : inD n (.int x) (.lst (xs.map D.int)) = some (false, .bl (if n then !decide (x ∈ xs) else decide (x ∈ xs))) := by
  unfold inD
  simp only [flts_ints]
  simp [D.flt, inV_ints]
noncomputable def bgB : M Fl := (seqM (iteM (andM (notM (truM (.sl 10))) (truB (binM (eqS false) (.sl 9) (.sl 11)))) (retM (constM (.bl false))) nxM)
    (iteM (andM (notM (truM (.sl 10))) (truB (binM (inD true) (.sl 9) (.sl 12)))) (dropM (growM appD 12 (varM 9))) nxM))
section
variable {a0 a1 a2 a3 a4 a5 a6 a7 a8 a13 a14 : Slot} {st : Int}
theorem bg_one {g : Int} {d : Bool} {R : List Int} (hz : R.length < sizeLine) :
    bgB [a0, a1, a2, a3, a4, a5, a6, a7, a8, some (.sh, .int g), some (.sh, .bl d), some (.sh, .int st), some (.ow, .lst (R.map D.int)), a13, a14] =
      if d = false ∧ g = st then .ok (.rt false (.bl false)) [a0, a1, a2, a3, a4, a5, a6, a7, a8, some (.sh, .int g), some (.sh, .bl d), some (.sh, .int st), some (.ow, .lst (R.map D.int)), a13, a14]
      else if d = false ∧ g ∉ R then .ok .nx [a0, a1, a2, a3, a4, a5, a6, a7, a8, some (.sh, .int g), some (.sh, .bl d), some (.sh, .int st), some (.ow, .lst ((R ++ [g]).map D.int)), a13, a14]
      else .ok .nx [a0, a1, a2, a3, a4, a5, a6, a7, a8, some (.sh, .int g), some (.sh, .bl d), some (.sh, .int st), some (.ow, .lst (R.map D.int)), a13, a14] := by
  have hin := in_ints (n := true) (x := g) (xs := R)
  have hz2 : (R.map D.int).length < sizeLine := by rwa [List.length_map]
  have happ : (R ++ [g]).map D.int = R.map D.int ++ [.int g] := by simp
  rw [happ]
  unfold bgB
  cases d with
  | true => simp (implicitDefEqProofs := false)
  | false =>
    by_cases q1 : g = st
    · subst q1
      simp (implicitDefEqProofs := false)
    · by_cases q2 : g ∈ R
      · rw [decide_eq_true q2] at hin
        generalize R.map D.int = RI at *
        simp (implicitDefEqProofs := false) [q1, q2, hin]
      · rw [decide_eq_false q2] at hin
        generalize R.map D.int = RI at *
        simp (implicitDefEqProofs := false) [q1, q2, hin, hz2]
theorem bg_loop {L : List Int} (hL : L.length < sizeLine) : ∀ (ms : List (Int × Bool)) (R : List Int) (s9 s10 : Slot), fre s9 = true → fre s10 = true → BI L R → (∀ g, (g, false) ∈ ms → g ∈ L) →
    match bgo st ms R with
    | none => ∃ t9 t10 t12 : Slot, forL (.tp [.nm 9, .nm 10]) bgB (ms.map mvD) [a0, a1, a2, a3, a4, a5, a6, a7, a8, s9, s10, some (.sh, .int st), some (.ow, .lst (R.map D.int)), a13, a14] =
        .ok (.rt false (.bl false)) [a0, a1, a2, a3, a4, a5, a6, a7, a8, t9, t10, some (.sh, .int st), t12, a13, a14]
    | some R' => ∃ t9 t10 : Slot, fre t9 = true ∧ fre t10 = true ∧ forL (.tp [.nm 9, .nm 10]) bgB (ms.map mvD) [a0, a1, a2, a3, a4, a5, a6, a7, a8, s9, s10, some (.sh, .int st), some (.ow, .lst (R.map D.int)), a13, a14] =
        .ok .nx [a0, a1, a2, a3, a4, a5, a6, a7, a8, t9, t10, some (.sh, .int st), some (.ow, .lst (R'.map D.int)), a13, a14]
  | [], R, s9, s10, h9, h10, i, p => ⟨s9, s10, h9, h10, rfl⟩
  | m :: ms, R, s9, s10, h9, h10, i, p => by
    have hz := nodup_le i.nd i.sub
    have p' : ∀ g, (g, false) ∈ ms → g ∈ L := fun g hg => p g (List.mem_cons_of_mem _ hg)
    have e1 := bg_one (a0 := a0) (a1 := a1) (a2 := a2) (a3 := a3) (a4 := a4) (a5 := a5) (a6 := a6) (a7 := a7) (a8 := a8) (a13 := a13) (a14 := a14) (st := st) (g := m.1) (d := m.2) (R := R) (by omega)
    have ee : ∀ S, forL (.tp [.nm 9, .nm 10]) bgB (mvD m :: ms.map mvD) [a0, a1, a2, a3, a4, a5, a6, a7, a8, s9, s10, some (.sh, .int st), some (.ow, .lst (R.map D.int)), a13, a14] = S ↔
        ((bgB [a0, a1, a2, a3, a4, a5, a6, a7, a8, some (.sh, .int m.1), some (.sh, .bl m.2), some (.sh, .int st), some (.ow, .lst (R.map D.int)), a13, a14]).bind fun fl s2 => (match fl with
      | .bk => .ok .nx s2
      | .rt fr d => .ok (.rt fr d) s2
      | _ => forL (.tp [.nm 9, .nm 10]) bgB (ms.map mvD) s2)) = S := fun S => by
      rw [ev_for1, put910 h9 h10]
      try exact Iff.rfl
    rw [List.map_cons]
    simp only [ee]
    rw [e1]
    by_cases q1 : m.2 = false ∧ m.1 = st
    · have eg : bgo st (m :: ms) R = none := by rw [bgo, if_pos q1]
      rw [eg, if_pos q1]
      exact ⟨_, _, _, rfl⟩
    · rw [if_neg q1]
      by_cases q2 : m.2 = false ∧ m.1 ∉ R
      · have eg : bgo st (m :: ms) R = bgo st ms (R ++ [m.1]) := by rw [bgo, if_neg q1, if_pos q2]
        have hm : (m.1, false) ∈ m :: ms := by
          have : m = (m.1, false) := by
            obtain ⟨x, y⟩ := m
            have := q2.1
            simp only at this
            rw [this]
          rw [← this]
          exact List.mem_cons_self
        have i2 : BI L (R ++ [m.1]) := by
          refine ⟨?_, fun x hx => ?_⟩
          · rw [List.nodup_append]
            refine ⟨i.nd, by simp, fun a ha b hb => ?_⟩
            rw [List.mem_singleton.mp hb]
            rintro rfl
            exact q2.2 ha
          · rcases List.mem_append.mp hx with hx | hx
            · exact i.sub x hx
            · rw [List.mem_singleton.mp hx]
              exact p _ hm
        rw [eg, if_pos q2]
        exact bg_loop hL ms (R ++ [m.1]) (some (.sh, .int m.1)) (some (.sh, .bl m.2)) rfl rfl i2 p'
      · have eg : bgo st (m :: ms) R = bgo st ms R := by rw [bgo, if_neg q1, if_neg q2]
        rw [eg, if_neg q2]
        exact bg_loop hL ms R (some (.sh, .int m.1)) (some (.sh, .bl m.2)) rfl rfl i p'
end
noncomputable def bwB (k : Nat) : M Fl := (seqM (forM (itM (callM (sem k 14) [.ex (varM 1), .ex (binM ixD (.sl 12) (.sl 13))])) (.tp [(.nm 9), (.nm 10)]) bgB)
    (setM 13 (binM addD (.sl 13) (.ex (constM (.int 1))))))
noncomputable def bwC : M Bool := (truB (binM ltD (.sl 13) (.ex (unM lenD (.sl 12)))))
section
variable {a0 a2 a3 a4 a5 a6 a7 a8 a14 : Slot} {st : Int}
theorem bw_c {a1 a9 a10 a11 : Slot} {R : List Int} {j : Nat} : bwC [a0, a1, a2, a3, a4, a5, a6, a7, a8, a9, a10, a11, some (.ow, .lst (R.map D.int)), some (.sh, .int j), a14] = .ok (decide (j < R.length)) [a0, a1, a2, a3, a4, a5, a6, a7, a8, a9, a10, a11, some (.ow, .lst (R.map D.int)), some (.sh, .int j), a14] := by
  have e : decide ((j : Int) < (R.length : Int)) = decide (j < R.length) := by
    rw [Bool.eq_iff_iff, decide_eq_true_iff, decide_eq_true_iff]
    omega
  have el : lenD (.lst (R.map D.int)) = some (false, .int R.length) := by
    show some (false, D.int ((List.length (R.map D.int) : Nat) : Int)) = _
    rw [List.length_map]
  have eo : ltD (.int (j : Int)) (.int (R.length : Int)) = some (false, .bl (decide (j < R.length))) := by
    show some (false, D.bl (decide ((j : Int) < (R.length : Int)))) = _
    rw [e]
  unfold bwC
  generalize decide (j < R.length) = q at *
  generalize (R.length : Int) = N at *
  generalize R.map D.int = RI at *
  simp (implicitDefEqProofs := false) [-v_ordI, el, eo]
theorem bw_loop {k : Nat} {es : List Str} {c : List Ins} {L : List Int} (C : CodeOk es c) (hL : L.length < sizeLine) (hr : ∀ a, a ∈ L → 0 ≤ a ∧ a < c.length) (cl : ∀ a, a ∈ L → ∀ g, g ∈ qg c a → g ∈ L) {j : Nat} {R : List Int} {b : Bool} (H : BL c st j R b) :
    ∀ {s9 s10 : Slot}, fre s9 = true → fre s10 = true → BI L R →
    ∃ t9 t10 t12 t13 : Slot, (b = false → fre t9 = true ∧ fre t10 = true ∧ nio t12 = true ∧ nio t13 = true) ∧ whileM bwC (bwB (k + 1)) [a0, some (.sh, codeD c), a2, a3, a4, a5, a6, a7, a8, s9, s10, some (.sh, .int st), some (.ow, .lst (R.map D.int)), some (.sh, .int j), a14] =
      .ok (if b then .rt false (.bl false) else .nx) [a0, some (.sh, codeD c), a2, a3, a4, a5, a6, a7, a8, t9, t10, some (.sh, .int st), t12, t13, a14] := by
  have call : ∀ {R : List Int} {j : Nat} {s9 s10 : Slot}, BI L R → j < R.length → itM (callM (sem (k + 1) 14) [.ex (varM 1), .ex (binM ixD (.sl 12) (.sl 13))]) [a0, some (.sh, codeD c), a2, a3, a4, a5, a6, a7, a8, s9, s10, some (.sh, .int st), some (.ow, .lst (R.map D.int)), some (.sh, .int j), a14] =
      .ok ((mvs (nthI c (R.getD j 0)) (R.getD j 0)).map mvD) [a0, some (.sh, codeD c), a2, a3, a4, a5, a6, a7, a8, s9, s10, some (.sh, .int st), some (.ow, .lst (R.map D.int)), some (.sh, .int j), a14] := by
    intro R j s9 s10 i hj
    have hx : R.getD j 0 ∈ R := by simp [List.getD, List.getElem?_eq_getElem hj]
    obtain ⟨h0, h1⟩ := hr _ (i.sub _ hx)
    have hm := nth_mem h0 h1
    have eg := moves (k := k) (cd_at h0 h1) (C.k _ hm) (C.v _ hm)
    have ei : ixD (.lst (R.map D.int)) (.int j) = some (false, .int (R.getD j 0)) := by
      rw [v_ixL, at_nat, List.getElem?_map, List.getElem?_eq_getElem hj]
      simp [List.getD, List.getElem?_eq_getElem hj]
    generalize R.getD j 0 = a at *
    generalize R.map D.int = RI at *
    generalize codeD c = CD at *
    simp (implicitDefEqProofs := false) [-v_ixL, ei, eg]
  induction H with
  | @done j R hk =>
    intro s9 s10 h9 h10 i
    refine ⟨s9, s10, some (.ow, .lst (R.map D.int)), some (.sh, .int j), fun _ => ⟨h9, h10, rfl, rfl⟩, ?_⟩
    rw [whileM_eq]
    unfold wstep
    rw [bw_c, Res.bind_ok, decide_eq_false (by omega)]
    rfl
  | @found j R hk e =>
    intro s9 s10 h9 h10 i
    have hx : R.getD j 0 ∈ R := by simp [List.getD, List.getElem?_eq_getElem hk]
    have ef := bg_loop (a0 := a0) (a1 := some (.sh, codeD c)) (a2 := a2) (a3 := a3) (a4 := a4) (a5 := a5) (a6 := a6) (a7 := a7) (a8 := a8) (a13 := some (.sh, .int j)) (a14 := a14) (st := st) hL (mvs (nthI c (R.getD j 0)) (R.getD j 0)) R s9 s10 h9 h10 i (fun g hg => cl _ (i.sub _ hx) g (mem_qg.mpr hg))
    rw [e] at ef
    obtain ⟨t9, t10, t12, ef⟩ := ef
    refine ⟨t9, t10, t12, some (.sh, .int j), fun z => absurd z.symm Bool.false_ne_true, ?_⟩
    rw [whileM_eq]
    unfold wstep
    rw [bw_c, Res.bind_ok, decide_eq_true hk]
    unfold bwB
    rw [if_pos rfl, ev_seq, ev_for, call i hk, Res.bind_ok, ef]
    rfl
  | @go j R R' b hk e H ih =>
    intro s9 s10 h9 h10 i
    have hx : R.getD j 0 ∈ R := by simp [List.getD, List.getElem?_eq_getElem hk]
    have hms : ∀ g, (g, false) ∈ mvs (nthI c (R.getD j 0)) (R.getD j 0) → g ∈ L := fun g hg => cl _ (i.sub _ hx) g (mem_qg.mpr hg)
    have ef := bg_loop (a0 := a0) (a1 := some (.sh, codeD c)) (a2 := a2) (a3 := a3) (a4 := a4) (a5 := a5) (a6 := a6) (a7 := a7) (a8 := a8) (a13 := some (.sh, .int j)) (a14 := a14) (st := st) hL (mvs (nthI c (R.getD j 0)) (R.getD j 0)) R s9 s10 h9 h10 i hms
    rw [e] at ef
    obtain ⟨t9, t10, f9, f10, ef⟩ := ef
    obtain ⟨u9, u10, u12, u13, hu, ih⟩ := ih (s9 := t9) (s10 := t10) f9 f10 (bgo_some e i hms).1
    refine ⟨u9, u10, u12, u13, hu, ?_⟩
    rw [whileM_eq]
    unfold wstep
    rw [bw_c, Res.bind_ok, decide_eq_true hk, if_pos rfl]
    have e2 : bwB (k + 1) [a0, some (.sh, codeD c), a2, a3, a4, a5, a6, a7, a8, s9, s10, some (.sh, .int st), some (.ow, .lst (R.map D.int)), some (.sh, .int j), a14] = .ok .nx [a0, some (.sh, codeD c), a2, a3, a4, a5, a6, a7, a8, t9, t10, some (.sh, .int st), some (.ow, .lst (R'.map D.int)), some (.sh, .int ((j + 1 : Nat) : Int)), a14] := by
      unfold bwB
      rw [ev_seq, ev_for, call i hk, Res.bind_ok, ef]
      generalize R'.map D.int = RI at *
      simp (implicitDefEqProofs := false)
    rw [e2]
    exact ih
end
end K24

namespace K24
open PySem PySem.Spec PyProof.Rows L2 PV
noncomputable def stB (k : Nat) : M Fl := (seqM (setM 12 (lstM [(varM 11)]))
    (seqM (setM 13 (constM (.int 0)))
    (whileM bwC (bwB k))))
section
variable {a0 a1 a2 a3 a4 a5 a6 a7 a8 a9 a10 a11 a12 a13 a14 x : Slot} {o : Own} {d : D}
theorem pl12 (h : nio x = true) : putS [a0, a1, a2, a3, a4, a5, a6, a7, a8, a9, a10, a11, x, a13, a14] 12 o d = some [a0, a1, a2, a3, a4, a5, a6, a7, a8, a9, a10, a11, some (o, d), a13, a14] := by
  match x, h with
  | none, _ => rfl
  | some (.sh, _), _ => rfl
  | some (.ow, _), _ => rfl
theorem pl13 (h : nio x = true) : putS [a0, a1, a2, a3, a4, a5, a6, a7, a8, a9, a10, a11, a12, x, a14] 13 o d = some [a0, a1, a2, a3, a4, a5, a6, a7, a8, a9, a10, a11, a12, some (o, d), a14] := by
  match x, h with
  | none, _ => rfl
  | some (.sh, _), _ => rfl
  | some (.ow, _), _ => rfl
theorem st_loop {k : Nat} {es : List Str} {c : List Ins} {L : List Int} (C : CodeOk es c) (hL : L.length < sizeLine) (hr : ∀ a, a ∈ L → 0 ≤ a ∧ a < c.length) (cl : ∀ a, a ∈ L → ∀ g, g ∈ qg c a → g ∈ L) : ∀ (as : List Int) (s9 s10 s11 s12 s13 : Slot), (∀ a, a ∈ as → a ∈ L) → fre s9 = true → fre s10 = true → fre s11 = true → nio s12 = true → nio s13 = true →
    ∃ t9 t10 t11 t12 t13 : Slot, forL (.nm 11) (stB (k + 1)) (as.map D.int) [a0, some (.sh, codeD c), a2, a3, a4, a5, a6, a7, a8, s9, s10, s11, s12, s13, a14] =
      .ok (if as.any (fun a => gd (Rc c a a)) = true then .rt false (.bl false) else .nx) [a0, some (.sh, codeD c), a2, a3, a4, a5, a6, a7, a8, t9, t10, t11, t12, t13, a14]
  | [], s9, s10, s11, s12, s13, _, _, _, _, _, _ => ⟨s9, s10, s11, s12, s13, rfl⟩
  | a :: as, s9, s10, s11, s12, s13, hs, h9, h10, h11, h12, h13 => by
    have haL := hs a List.mem_cons_self
    have i : BI L [a] := ⟨by simp, fun x hx => by rw [List.mem_singleton.mp hx]; exact haL⟩
    obtain ⟨b, H, hb⟩ := BL_ex (st := a) cl (L.length - 0) 0 [a] rfl i (by simp) (fun x hx => .inl (List.mem_singleton.mp hx)) (fun j hj => absurd hj (by omega))
    obtain ⟨t9, t10, t12, t13, hf, el⟩ := bw_loop (k := k) (a0 := a0) (a2 := a2) (a3 := a3) (a4 := a4) (a5 := a5) (a6 := a6) (a7 := a7) (a8 := a8) (a14 := a14) C hL hr cl H (s9 := s9) (s10 := s10) h9 h10 i
    have hgd : gd (Rc c a a) = b := by
      cases b with
      | true => exact gd_yes (hb.mp rfl)
      | false =>
        cases q : gd (Rc c a a) with
        | false => rfl
        | true => exact absurd (hb.mpr (gd_iff.mp q)) Bool.false_ne_true
    have z1 : (1 : Nat) ≤ sizeLine := by decide
    have e1 : stB (k + 1) [a0, some (.sh, codeD c), a2, a3, a4, a5, a6, a7, a8, s9, s10, some (.sh, .int a), s12, s13, a14] =
        .ok (if b then .rt false (.bl false) else .nx) [a0, some (.sh, codeD c), a2, a3, a4, a5, a6, a7, a8, t9, t10, some (.sh, .int a), t12, t13, a14] := by
      unfold stB
      have el : whileM bwC (bwB (k + 1)) [a0, some (.sh, codeD c), a2, a3, a4, a5, a6, a7, a8, s9, s10, some (.sh, .int a), some (.ow, .lst [.int a]), some (.sh, .int 0), a14] = _ := el
      generalize whileM bwC (bwB (k + 1)) = W at *
      generalize codeD c = CD at *
      simp (implicitDefEqProofs := false) [-ev_putS, pl12, pl13, h12, h13, z1, el]
    rw [List.map_cons, ev_for1, put_fre (x := s11) rfl h11, List.any_cons, hgd]
    show ∃ t9 t10 t11 t12 t13 : Slot, (stB (k + 1) [a0, some (.sh, codeD c), a2, a3, a4, a5, a6, a7, a8, s9, s10, some (.sh, .int a), s12, s13, a14]).bind _ = _
    rw [e1, Res.bind_ok]
    cases b with
    | true => exact ⟨t9, t10, _, t12, t13, rfl⟩
    | false =>
      obtain ⟨f9, f10, f12, f13⟩ := hf rfl
      rw [Bool.false_or]
      exact st_loop C hL hr cl as t9 t10 (some (.sh, .int a)) t12 t13 (fun x hx => hs x (List.mem_cons_of_mem _ hx)) f9 f10 rfl f12 f13
theorem lform_loop {k : Nat} {es : List Str} {n : Int} {cd : D} (hl : lenD cd = some (false, .int n)) : ∀ (c : List Ins) (acc : List D), (∀ x, x ∈ c → InsK x) → acc.length + c.length ≤ sizeLine →
    lcL (.nm 14) (notM (truM (.ex (callM (sem (k + 2) 12) [.ex (varM 0), .ex (varM 14), .ex (unM lenD (.sl 1))])))) (varM 14) [14] (c.map insD) acc [some (.sh, endsD es), some (.sh, cd), a2, a3, a4, a5, a6, a7, a8, a9, a10, a11, a12, a13, none] =
      .ok (acc ++ (c.filter fun x => !insOk es n x).map insD) [some (.sh, endsD es), some (.sh, cd), a2, a3, a4, a5, a6, a7, a8, a9, a10, a11, a12, a13, none]
  | [], acc, _, _ => by simp [lcL]
  | x :: c, acc, hk, h => by
    rw [List.length_cons] at h
    have hz : acc.length < sizeLine := by omega
    have ef := shape_ok (k := k) (es := es) (size := n) (hk x List.mem_cons_self)
    have hk' : ∀ y, y ∈ c → InsK y := fun y hy => hk y (List.mem_cons_of_mem _ hy)
    rw [List.map_cons, lcL, ev_putN]
    cases q : insOk es n x with
    | true =>
      have ih := lform_loop (k := k) (es := es) (n := n) hl c acc hk' (by omega)
      rw [q] at ef
      rw [List.filter_cons_of_neg (by simp [q]), ← ih]
      generalize endsD es = ED at *
      generalize insD x = X at *
      simp (implicitDefEqProofs := false) [nox, hl, ef, killAll]
    | false =>
      have ih := lform_loop (k := k) (es := es) (n := n) hl c (acc ++ [insD x]) hk' (by rw [List.length_append]; simp only [List.length_cons, List.length_nil]; omega)
      rw [q] at ef
      rw [List.filter_cons_of_pos (by simp [q]), show acc ++ List.map insD (x :: List.filter (fun x => !insOk es n x) c) = acc ++ [insD x] ++ List.map insD (List.filter (fun x => !insOk es n x) c) by simp, ← ih]
      generalize endsD es = ED at *
      generalize insD x = X at *
      simp (implicitDefEqProofs := false) [nox, hl, ef, hz, killAll]
end
noncomputable def sndA (k : Nat) : M Fl := (iteM (orM (truB (binM (eqS false) (.sl 1) (.ex (tupM [])))) (truB (binM (eqS true) (.ex (compM (itM (varM 1)) (.nm 14) (notM (truM (.ex (callM (sem k 12) [.ex (varM 0), .ex (varM 14), .ex (unM lenD (.sl 1))])))) (varM 14) [14])) (.ex (lstM []))))) (retM (constM (.bl false))) nxM)
noncomputable def snd2 : M Fl := (setM 2 (dispM [((constM (.str "store")), (constM (.int 1))), ((constM (.str "add")), (constM (.int 2))), ((constM (.str "sub")), (constM (.int 2))), ((constM (.str "mul")), (constM (.int 2))), ((constM (.str "less")), (constM (.int 2))), ((constM (.str "same")), (constM (.int 2))), ((constM (.str "zero")), (constM (.int 1))), ((constM (.str "emit")), (constM (.int 1)))]))
noncomputable def snd3 : M Fl := (setM 3 (dispM [((constM (.str "push")), (constM (.int 1))), ((constM (.str "load")), (constM (.int 1))), ((constM (.str "add")), (constM (.int 1))), ((constM (.str "sub")), (constM (.int 1))), ((constM (.str "mul")), (constM (.int 1))), ((constM (.str "less")), (constM (.int 1))), ((constM (.str "same")), (constM (.int 1)))]))
noncomputable def sndW (k : Nat) : M Fl := whileM (truB (binM (eqS true) (.sl 5) (.ex (lstM [])))) (lwB k)
noncomputable def sndL (k : Nat) : M Fl := (lockM 4 (forM (keysM 4) (.nm 11) (stB k)))
theorem b15_eq (k : Nat) : b15 (sem k) = seqM (sndA k) (seqM snd2 (seqM snd3 (seqM (setM 4 (dispM [((constM (.int 0)), (constM (.int 0)))])) (seqM (setM 5 (lstM [(constM (.int 0))])) (seqM (sndW k) (seqM (sndL k) (retM (constM (.bl true))))))))) := rfl
theorem kmT : kmerge [] [((.inr "store" : Key), (D.int 1)), (.inr "add", .int 2), (.inr "sub", .int 2), (.inr "mul", .int 2), (.inr "less", .int 2), (.inr "same", .int 2), (.inr "zero", .int 1), (.inr "emit", .int 1)] = kT := by kernel_rfl
theorem kmP : kmerge [] [((.inr "push" : Key), (D.int 1)), (.inr "load", .int 1), (.inr "add", .int 1), (.inr "sub", .int 1), (.inr "mul", .int 1), (.inr "less", .int 1), (.inr "same", .int 1)] = kP := by kernel_rfl
section
variable {a0 a1 a2 a3 a4 a5 a6 a7 a8 a9 a10 a11 a12 a13 a14 : Slot}
theorem snd_2 : snd2 [a0, a1, none, a3, a4, a5, a6, a7, a8, a9, a10, a11, a12, a13, a14] = .ok .nx [a0, a1, some (.ow, .dct kT), a3, a4, a5, a6, a7, a8, a9, a10, a11, a12, a13, a14] := by
  unfold snd2
  simp (implicitDefEqProofs := false) [kmT]
theorem snd_3 : snd3 [a0, a1, a2, none, a4, a5, a6, a7, a8, a9, a10, a11, a12, a13, a14] = .ok .nx [a0, a1, a2, some (.ow, .dct kP), a4, a5, a6, a7, a8, a9, a10, a11, a12, a13, a14] := by
  unfold snd3
  simp (implicitDefEqProofs := false) [kmP]
theorem snd_4 : setM 4 (dispM [((constM (.int 0)), (constM (.int 0)))]) [a0, a1, a2, a3, none, a5, a6, a7, a8, a9, a10, a11, a12, a13, a14] = .ok .nx [a0, a1, a2, a3, some (.ow, .dct (hK [(0, 0)])), a5, a6, a7, a8, a9, a10, a11, a12, a13, a14] := by
  have km : kmerge [] [((.inl 0 : Key), (D.int 0))] = hK [(0, 0)] := rfl
  simp (implicitDefEqProofs := false) [km]
theorem snd_5 : setM 5 (lstM [(constM (.int 0))]) [a0, a1, a2, a3, a4, none, a6, a7, a8, a9, a10, a11, a12, a13, a14] = .ok .nx [a0, a1, a2, a3, a4, some (.ow, .lst [.int 0]), a6, a7, a8, a9, a10, a11, a12, a13, a14] := by
  have z1 : (1 : Nat) ≤ sizeLine := by decide
  simp (implicitDefEqProofs := false) [z1]
end
def sF (es : List Str) (c : List Ins) : S := [some (.sh, endsD es), some (.sh, codeD c), none, none, none, none, none, none, none, none, none, none, none, none, none]
theorem snd_a {k : Nat} {es : List Str} {c : List Ins} (hk : ∀ x, x ∈ c → InsK x) (hn : c.length ≤ 1000) : sndA (k + 2) (sF es c) = .ok (flB (!c.isEmpty && c.all fun x => insOk es c.length x)) (sF es c) := by
  have z0 : (0 : Nat) ≤ sizeLine := by decide
  have e1 := eq_nilT (g := false) (sh_tup (n := 3) (sh_insl hk)) (by decide)
  rw [List.isEmpty_map] at e1
  have el := lform_loop (k := k) (es := es) (a2 := none) (a3 := none) (a4 := none) (a5 := none) (a6 := none) (a7 := none) (a8 := none) (a9 := none) (a10 := none) (a11 := none) (a12 := none) (a13 := none) (cd_len (c := c)) c [] hk (by rw [sizeLine_eq]; simp only [List.length_nil]; omega)
  rw [List.nil_append] at el
  have hk2 : ∀ x, x ∈ (c.filter fun x => !insOk es c.length x) → InsK x := fun x hx => hk x (List.mem_filter.mp hx).1
  have e2 := eq_nilL (g := true) (sh_lst (n := 3) (sh_insl hk2)) (by decide)
  rw [List.isEmpty_map] at e2
  have e3 : (c.filter fun x => !insOk es c.length x).isEmpty = c.all fun x => insOk es c.length x := by
    rw [Bool.eq_iff_iff, List.isEmpty_iff, List.filter_eq_nil_iff, List.all_eq_true]
    simp
  rw [e3] at e2
  have ei : itM (varM 1) (sF es c) = .ok (c.map insD) (sF es c) := by
    unfold sF codeD
    simp (implicitDefEqProofs := false)
  unfold sndA sF at *
  have hcd : codeD c = .tup (c.map insD) := rfl
  rw [← hcd] at e1
  generalize (c.filter fun x => !insOk es c.length x).map insD = fl at *
  generalize (c.all fun x => insOk es c.length x) = q at *
  generalize c.isEmpty = q2 at *
  generalize c.map insD = ds at *
  generalize codeD c = CD at *
  generalize endsD es = ED at *
  cases q2 <;> cases q <;> simp (implicitDefEqProofs := false) [-ev_itM, e1, e2, z0, ei, killAll, el]
end K24

namespace K24
open PySem PySem.Spec PyProof.Rows L2 PV
theorem snd_L {k : Nat} {es : List Str} {c : List Ins} {h : List (Int × Int)} {e0 s6 s7 s8 s9 s10 : Slot} (C : CodeOk es c) (i : HI c.length h []) (cl : Cl c h []) (h9 : fre s9 = true) (h10 : fre s10 = true) :
    ∃ s, sndL (k + 1) (lS e0 (codeD c) h [] s6 s7 s8 s9 s10) = .ok (if (keys h).any (fun a => gd (Rc c a a)) = true then .rt false (.bl false) else .nx) s := by
  have hC := C.n
  have hlen := i.len
  have hkl : (keys h).length = h.length := by unfold keys; rw [List.length_map]
  obtain ⟨t9, t10, t11, t12, t13, el⟩ := st_loop (k := k) (a0 := e0) (a2 := some (.ow, .dct kT)) (a3 := some (.ow, .dct kP)) (a4 := some (.io, .dcl (hK h))) (a5 := some (.ow, .lst [])) (a6 := s6) (a7 := s7) (a8 := s8) (a14 := none) (L := keys h) C (by rw [sizeLine_eq]; omega) i.keys_rg cl.keys (keys h) s9 s10 none none none (fun a ha => ha) h9 h10 rfl rfl rfl
  have ek := hK_keys (h := h)
  refine ⟨[e0, some (.sh, codeD c), some (.ow, .dct kT), some (.ow, .dct kP), some (.ow, .dct (hK h)), some (.ow, .lst []), s6, s7, s8, t9, t10, t11, t12, t13, none], ?_⟩
  unfold sndL lS
  generalize ((keys h).any fun a => gd (Rc c a a)) = q at *
  generalize (keys h).map D.int = KI at *
  generalize hK h = H at *
  generalize codeD c = CD at *
  generalize stB (k + 1) = SB at *
  generalize kT = KT at *
  generalize kP = KP at *
  cases q <;> simp (implicitDefEqProofs := false) [ek, el]
theorem lsound_false {k : Nat} {es : List Str} {c : List Ins} (hk : ∀ x, x ∈ c → InsK x) (hn : c.length ≤ 1000) (hf : (!c.isEmpty && c.all fun x => insOk es c.length x) = false) : sem (k + 3) 15 [endsD es, codeD c] = .ret false (.bl false) [] := by
  rw [se15, b15_eq]
  refine runF_rt (s := sF es c) ?_ rfl rfl
  rw [show initS [] 15 [endsD es, codeD c] = sF es c from rfl]
  rw [ev_seq, snd_a hk hn, hf, Res.bind_ok]
  rfl
theorem lsound_of {k : Nat} {es : List Str} {c : List Ins} (C : CodeOk es c) (hc : c ≠ []) {r : Option (List (Int × Int))} (H : HL c [(0, 0)] [0] r) (hi : ∀ h', r = some h' → HI c.length h' [] ∧ Cl c h' []) :
    sem (k + 3) 15 [endsD es, codeD c] = .ret false (.bl (match (generalizing := false) r with | none => false | some h => !(keys h).any fun a => gd (Rc c a a))) [] := by
  have hp : 0 < c.length := List.length_pos_iff.mpr hc
  have i : HI c.length [(0, 0)] [0] := by
    refine ⟨by simp, fun g hg => ?_, by simp, fun g hg => ?_⟩
    · have : g = 0 := by
        have := hget_mem.mp hg
        simpa using this
      omega
    · have : g = 0 := by simpa using hg
      subst this
      rfl
  have cl : Cl c [(0, 0)] [0] := fun a ha hna => by
    have : a = 0 := by
      have := hget_mem.mp ha
      simpa using this
    exact absurd (by simp [this]) hna
  have el := lwh_loop (k := k + 1) C H (e0 := some (.sh, endsD es)) (s6 := none) (s7 := none) (s8 := none) (s9 := none) (s10 := none) i cl rfl rfl rfl rfl rfl
  have hf : (!c.isEmpty && c.all fun x => insOk es c.length x) = true := by
    rw [List.isEmpty_eq_false_iff.mpr hc, List.all_eq_true.mpr C.v]; rfl
  have eA : ∀ K : M Fl, seqM (sndA (k + 2)) (seqM snd2 (seqM snd3 (seqM (setM 4 (dispM [((constM (.int 0)), (constM (.int 0)))])) (seqM (setM 5 (lstM [(constM (.int 0))])) K)))) (sF es c) = K (lS (some (.sh, endsD es)) (codeD c) [(0, 0)] [0] none none none none none) := by
    intro K
    rw [ev_seq, snd_a C.k C.n, hf, Res.bind_ok]
    show seqM _ _ _ = _
    unfold sF
    rw [ev_seq, snd_2, Res.bind_ok]
    show seqM _ _ _ = _
    rw [ev_seq, snd_3, Res.bind_ok]
    show seqM _ _ _ = _
    rw [ev_seq, snd_4, Res.bind_ok]
    show seqM _ _ _ = _
    rw [ev_seq, snd_5, Res.bind_ok]
    rfl
  rw [se15, b15_eq]
  cases r with
  | none =>
    obtain ⟨s, el⟩ := el
    refine runF_rt (s := s) ?_ rfl rfl
    rw [show initS [] 15 [endsD es, codeD c] = sF es c from rfl, eA]
    have el : sndW (k + 2) _ = _ := el
    rw [ev_seq, el, Res.bind_ok]
  | some h =>
    obtain ⟨t6, t7, t8, t9, t10, f9, f10, el⟩ := el
    obtain ⟨i2, cl2⟩ := hi h rfl
    obtain ⟨s, eL⟩ := snd_L (k := k + 1) (e0 := some (.sh, endsD es)) (s6 := t6) (s7 := t7) (s8 := t8) (s9 := t9) (s10 := t10) C i2 cl2 f9 f10
    refine runF_rt (s := s) ?_ rfl rfl
    rw [show initS [] 15 [endsD es, codeD c] = sF es c from rfl, eA]
    have el : sndW (k + 2) _ = _ := el
    rw [ev_seq, el, Res.bind_ok]
    show seqM _ _ _ = _
    rw [ev_seq, eL, Res.bind_ok]
    show _ = Res.ok (Fl.rt false (D.bl (!(keys h).any fun a => gd (Rc c a a)))) s
    generalize ((keys h).any fun a => gd (Rc c a a)) = q
    cases q <;> rfl
theorem both {k : Nat} {es : List Str} {c : List Ins} (hk : ∀ x, x ∈ c → InsK x) (hn : c.length ≤ 1000) :
    ∃ B : Bool, sem (k + 4) 6 [endsD es, codeD c] = .ret false (.bl B) [] ∧ sem (k + 4) 15 [endsD es, codeD c] = .ret false (.bl B) [] := by
  by_cases hc : c = []
  · exact ⟨false, sound_false hk hn (.inl hc), lsound_false (k := k + 1) hk hn (by rw [hc]; rfl)⟩
  by_cases hv : (c.all fun x => insOk es c.length x) = true
  · have C : CodeOk es c := ⟨hk, fun x hx => List.all_eq_true.mp hv x hx, hn⟩
    have hp : 0 < c.length := List.length_pos_iff.mpr hc
    have i : HI c.length [(0, 0)] [0] := by
      refine ⟨by simp, fun g hg => ?_, by simp, fun g hg => ?_⟩
      · have : g = 0 := by
          have := hget_mem.mp hg
          simpa using this
        omega
      · have : g = 0 := by simpa using hg
        subst this
        rfl
    have cl : Cl c [(0, 0)] [0] := fun a ha hna => by
      have : a = 0 := by
        have := hget_mem.mp ha
        simpa using this
      exact absurd (by simp [this]) hna
    obtain ⟨r, H, hi⟩ := HL_ex C _ [(0, 0)] [0] rfl i cl
    have e2 := lsound_of (k := k + 1) C hc H hi
    cases r with
    | none =>
      exact ⟨false, sound_of (k := k) (b := false) C hc H (fun h' e => (by cases e)) (fun h' e => (by cases e)), e2⟩
    | some h =>
      obtain ⟨i2, cl2⟩ := hi h rfl
      obtain ⟨b, hb⟩ := QL_ex c _ (keys h) rfl
      have e1 := sound_of (k := k) (b := b) C hc H (fun h' e => (hi h' e).1) (fun h' e => by cases e; exact hb)
      refine ⟨!b, e1, ?_⟩
      rw [e2]
      have : ((keys h).any fun a => gd (Rc c a a)) = b := by
        have hq := QL_iff hb cl2.keys
        rw [Bool.eq_iff_iff, hq, List.any_eq_true]
        constructor
        · rintro ⟨a, h1, h2⟩
          exact ⟨a, h1, gd_iff.mp h2⟩
        · rintro ⟨a, h1, h2⟩
          exact ⟨a, h1, gd_yes h2⟩
      show FRes.ret false (D.bl (!(keys h).any fun a => gd (Rc c a a))) [] = _
      rw [this]
  · have hv' : (c.all fun x => insOk es c.length x) = false := by simpa using hv
    exact ⟨false, sound_false hk hn (.inr hv'), lsound_false (k := k + 1) hk hn (by rw [hv']; simp)⟩
end K24

namespace K24
open PySem PySem.Spec PyProof.Rows L2 PV
/-! ### the draws -/
theorem take {k : Nat} {d : D} {m : Int} (h : Tape d) (h3 : 0 < m) (h4 : m < 1073741824) : ∃ (r : Int) (d' : D), 0 ≤ r ∧ r < m ∧ Tape d' ∧ sem (k + 1) 8 [d, .int m] = .ret false (.int r) [d'] := take_run h h3 h4
theorem pick {α : Type} {f : α → D} {xs : List α} {r : Int} (h0 : 0 ≤ r) (h1 : r < xs.length) : ∃ x, x ∈ xs ∧ ixD (.lst (xs.map f)) (.int r) = some (false, f x) := by
  obtain ⟨n, rfl⟩ := Int.eq_ofNat_of_zero_le h0
  have hn : n < xs.length := by omega
  refine ⟨xs[n], List.getElem_mem hn, ?_⟩
  rw [v_ixL, at_nat, List.getElem?_map, List.getElem?_eq_getElem hn]; rfl
theorem div_ok {r q : Int} (h1 : 0 < q) (h2 : q < 1073741824) : divD (.int r) (.int q) = some (false, .int (r / q)) := by
  show (if gd (0 < q ∧ q < 1073741824) then some (false, D.int (r / q)) else none) = _
  rw [g_div h1 h2]; rfl
def namesL : List Str := ["n", "m"]
def numsL : List Int := [0, 5, 4294967295, 4294967296, -1]
def endsL : List Str := ["a", "b", "zz"]
def wordsL : List Str := ["yes", "no", "maybe"]
def chsL (g t : Int) : List (List (Str × Str × Int)) :=
  [[("go", "n", g), ("no", "n", t)], [("go", "n", g)], [("go", "n", g), ("no", "n", t)], [("no", "n", t), ("go", "n", g)], [], [("go", "n", g), ("no", "n", t), ("no", "n", t)]]
def menuF (nm : Str) (nb g : Int) (e : Str) (l : List (Str × Str × Int)) (w : Str) : List Ins :=
  [("push", [.n nb]), ("load", [.s nm]), ("store", [.s nm]), ("add", []), ("less", []), ("jump", [.n g]), ("zero", [.n g]),
   ("emit", [.s e, .s "go"]), ("wait", [.s e, .c l]), ("input", [.s nm]), ("round", [.n 3, .n g]), ("yes", [.n 3]), ("no", [.n 3]),
   ("test", [.s w]), ("stop", []), ("push", [.n 1]), ("store", [.s nm]), ("stop", []), ("fly", []), ("push", [])]
theorem okL : (["push", "load", "store", "add", "less", "jump", "zero", "emit", "wait", "input", "round", "yes", "no", "test", "stop", "fly", "sub", "go", "n", "m", "a", "b", "zz", "maybe"] : List Str).all okS = true := by decide +kernel
theorem okW {w : Str} (h : w ∈ (["push", "load", "store", "add", "less", "jump", "zero", "emit", "wait", "input", "round", "yes", "no", "test", "stop", "fly", "sub", "go", "n", "m", "a", "b", "zz", "maybe"] : List Str)) : okS w = true := List.all_eq_true.mp okL w h
theorem k_ins {w : Str} {ps : List Pt} (h : okS w = true) (hp : ∀ p, p ∈ ps → p.ok) (hl : ps.length ≤ 63) : InsK (w, ps) := ⟨h, hp, hl⟩
theorem ok_chs {g t : Int} : ∀ l, l ∈ chsL g t → (Pt.c l).ok := by
  intro l hl
  have h1 : okS "go" = true := okW (by simp)
  have h2 : okS "no" = true := okW (by simp)
  have h3 : okS "n" = true := okW (by simp)
  unfold chsL at hl
  simp only [List.mem_cons, List.not_mem_nil, or_false] at hl
  rcases hl with rfl | rfl | rfl | rfl | rfl | rfl <;> refine ⟨by simp, fun t ht => ?_⟩ <;> simp only [List.mem_cons, List.not_mem_nil, or_false] at ht
  · rcases ht with rfl | rfl <;> simp [h1, h2, h3]
  · subst ht; simp [h1, h3]
  · rcases ht with rfl | rfl <;> simp [h1, h2, h3]
  · rcases ht with rfl | rfl <;> simp [h1, h2, h3]
  · rcases ht with rfl | rfl | rfl <;> simp [h1, h2, h3]
theorem ok_menu {nm : Str} {nb g : Int} {e : Str} {l : List (Str × Str × Int)} {w : Str} (hn : okS nm = true) (he : okS e = true) (hl : (Pt.c l).ok) (hw : okS w = true) : ∀ x, x ∈ menuF nm nb g e l w → InsK x := by
  have hgo : okS "go" = true := okW (by simp)
  intro x hx
  unfold menuF at hx
  simp only [List.mem_cons, List.not_mem_nil, or_false] at hx
  rcases hx with rfl | rfl | rfl | rfl | rfl | rfl | rfl | rfl | rfl | rfl | rfl | rfl | rfl | rfl | rfl | rfl | rfl | rfl | rfl | rfl <;>
    refine k_ins (okW (by simp)) (fun p hp => ?_) (by simp) <;> simp only [List.mem_cons, List.not_mem_nil, or_false] at hp
  · subst hp; trivial
  · subst hp; exact hn
  · subst hp; exact hn
  · subst hp; trivial
  · subst hp; trivial
  · rcases hp with rfl | rfl
    · exact he
    · exact hgo
  · rcases hp with rfl | rfl
    · exact he
    · exact hl
  · subst hp; exact hn
  · rcases hp with rfl | rfl <;> trivial
  · subst hp; trivial
  · subst hp; trivial
  · subst hp; exact hw
  · subst hp; trivial
  · subst hp; exact hn
section
variable {k : Nat} {d : D} {m : Int} {a1 a2 a3 a4 a5 a6 a7 a8 a9 : Slot}
theorem in_2 (h : Tape d) (h0 : 0 < m) (h1 : m < 1000) : ∃ (g : Int) (d' : D), Tape d' ∧ setM 2 (binM subD (.ex (callM (sem (k + 1) 8) [.sl 0, .ex (binM addD (.sl 1) (.ex (constM (.int 1))))])) (.ex (iteM (truB (binM (eqS false) (.ex (callM (sem (k + 1) 8) [.sl 0, .ex (constM (.int 12))])) (.ex (constM (.int 0))))) (constM (.int 1)) (constM (.int 0))))) [some (.io, d), some (.sh, .int m), none, a3, a4, a5, a6, a7, a8, a9] =
    .ok .nx [some (.io, d'), some (.sh, .int m), some (.sh, .int g), a3, a4, a5, a6, a7, a8, a9] := by
  obtain ⟨r1, d1, _, _, t1, e1⟩ := take (k := k) (m := m + 1) h (by omega) (by omega)
  obtain ⟨r2, d2, _, _, t2, e2⟩ := take (k := k) (m := 12) t1 (by decide) (by decide)
  have u := tape_ul h
  have u1 := tape_ul t1
  by_cases q : r2 = 0
  · subst q
    exact ⟨r1 - 1, d2, t2, by simp (implicitDefEqProofs := false) [e1, e2, u, u1]⟩
  · exact ⟨r1 - 0, d2, t2, by simp (implicitDefEqProofs := false) [e1, e2, u, u1, q]⟩
theorem in_3 (h : Tape d) : ∃ (nm : Str) (d' : D), nm ∈ namesL ∧ Tape d' ∧ setM 3 (binM ixD (.ex (lstM [(constM (.str "n")), (constM (.str "m"))])) (.ex (callM (sem (k + 1) 8) [.sl 0, .ex (constM (.int 2))]))) [some (.io, d), a1, a2, none, a4, a5, a6, a7, a8, a9] =
    .ok .nx [some (.io, d'), a1, a2, some (.sh, .str nm), a4, a5, a6, a7, a8, a9] := by
  obtain ⟨r1, d1, x1, y1, t1, e1⟩ := take (k := k) (m := 2) h (by decide) (by decide)
  have u := tape_ul h
  obtain ⟨nm, hn, p1⟩ := pick (f := D.str) (xs := namesL) x1 y1
  have p1 : ixD (.lst [.str "n", .str "m"]) (.int r1) = some (false, .str nm) := p1
  have z2 : (2 : Nat) ≤ sizeLine := by decide
  exact ⟨nm, d1, hn, t1, by simp (implicitDefEqProofs := false) [-v_ixL, e1, u, p1, z2]⟩
theorem in_4 (h : Tape d) : ∃ (nb : Int) (d' : D), Tape d' ∧ setM 4 (binM ixD (.ex (lstM [(constM (.int 0)), (constM (.int 5)), (constM (.int 4294967295)), (constM (.int 4294967296)), (binM subD (.ex (constM (.int 0))) (.ex (constM (.int 1))))])) (.ex (binM divD (.ex (callM (sem (k + 1) 8) [.sl 0, .ex (constM (.int 22))])) (.ex (constM (.int 9)))))) [some (.io, d), a1, a2, a3, none, a5, a6, a7, a8, a9] =
    .ok .nx [some (.io, d'), a1, a2, a3, some (.sh, .int nb), a5, a6, a7, a8, a9] := by
  obtain ⟨r1, d1, x1, y1, t1, e1⟩ := take (k := k) (m := 22) h (by decide) (by decide)
  have u := tape_ul h
  have ed := div_ok (r := r1) (q := 9) (by decide) (by decide)
  obtain ⟨nb, hn, p1⟩ := pick (f := D.int) (xs := numsL) (r := r1 / 9) (by omega) (by show r1 / 9 < 5; omega)
  have p1 : ixD (.lst [.int 0, .int 5, .int 4294967295, .int 4294967296, .int (-1)]) (.int (r1 / 9)) = some (false, .int nb) := p1
  have z5 : (5 : Nat) ≤ sizeLine := by decide
  have es : subD (.int 0) (.int 1) = some (false, .int (-1)) := rfl
  generalize (4294967295 : Int) = Z1 at *
  generalize (4294967296 : Int) = Z2 at *
  exact ⟨nb, d1, t1, by simp (implicitDefEqProofs := false) [-v_ixL, -v_int, e1, u, p1, z5, ed, es]⟩
theorem in_5 (h : Tape d) : ∃ (e : Str) (d' : D), e ∈ endsL ∧ Tape d' ∧ setM 5 (binM ixD (.ex (lstM [(constM (.str "a")), (constM (.str "b")), (constM (.str "zz"))])) (.ex (binM divD (.ex (callM (sem (k + 1) 8) [.sl 0, .ex (constM (.int 13))])) (.ex (constM (.int 6)))))) [some (.io, d), a1, a2, a3, a4, none, a6, a7, a8, a9] =
    .ok .nx [some (.io, d'), a1, a2, a3, a4, some (.sh, .str e), a6, a7, a8, a9] := by
  obtain ⟨r1, d1, x1, y1, t1, e1⟩ := take (k := k) (m := 13) h (by decide) (by decide)
  have u := tape_ul h
  have ed := div_ok (r := r1) (q := 6) (by decide) (by decide)
  obtain ⟨nb, hn, p1⟩ := pick (f := D.str) (xs := endsL) (r := r1 / 6) (by omega) (by show r1 / 6 < 3; omega)
  have p1 : ixD (.lst [.str "a", .str "b", .str "zz"]) (.int (r1 / 6)) = some (false, .str nb) := p1
  have z3 : (3 : Nat) ≤ sizeLine := by decide
  exact ⟨nb, d1, hn, t1, by simp (implicitDefEqProofs := false) [-v_ixL, -v_int, e1, u, p1, z3, ed]⟩
theorem in_8 (h : Tape d) : ∃ (e : Str) (d' : D), e ∈ wordsL ∧ Tape d' ∧ setM 8 (binM ixD (.ex (lstM [(constM (.str "yes")), (constM (.str "no")), (constM (.str "maybe"))])) (.ex (binM divD (.ex (callM (sem (k + 1) 8) [.sl 0, .ex (constM (.int 13))])) (.ex (constM (.int 6)))))) [some (.io, d), a1, a2, a3, a4, a5, a6, a7, none, a9] =
    .ok .nx [some (.io, d'), a1, a2, a3, a4, a5, a6, a7, some (.sh, .str e), a9] := by
  obtain ⟨r1, d1, x1, y1, t1, e1⟩ := take (k := k) (m := 13) h (by decide) (by decide)
  have u := tape_ul h
  have ed := div_ok (r := r1) (q := 6) (by decide) (by decide)
  obtain ⟨nb, hn, p1⟩ := pick (f := D.str) (xs := wordsL) (r := r1 / 6) (by omega) (by show r1 / 6 < 3; omega)
  have p1 : ixD (.lst [.str "yes", .str "no", .str "maybe"]) (.int (r1 / 6)) = some (false, .str nb) := p1
  have z3 : (3 : Nat) ≤ sizeLine := by decide
  exact ⟨nb, d1, hn, t1, by simp (implicitDefEqProofs := false) [-v_ixL, -v_int, e1, u, p1, z3, ed]⟩
theorem in_6 {g : Int} (h : Tape d) (h0 : 0 < m) (h1 : m < 1000) : ∃ (t : Int) (d' : D), Tape d' ∧ setM 6 (tupM [(tupM [(constM (.str "go")), (constM (.str "n")), (varM 2)]), (tupM [(constM (.str "no")), (constM (.str "n")), (callM (sem (k + 1) 8) [.sl 0, .ex (varM 1)])])]) [some (.io, d), some (.sh, .int m), some (.sh, .int g), a3, a4, a5, none, a7, a8, a9] =
    .ok .nx [some (.io, d'), some (.sh, .int m), some (.sh, .int g), a3, a4, a5, some (.sh, .tup [triD ("go", "n", g), triD ("no", "n", t)]), a7, a8, a9] := by
  obtain ⟨r1, d1, x1, y1, t1, e1⟩ := take (k := k) (m := m) h h0 (by omega)
  have u := tape_ul h
  have z2 : (2 : Nat) ≤ sizeLine := by decide
  have z3 : (3 : Nat) ≤ sizeLine := by decide
  exact ⟨r1, d1, t1, by unfold triD; simp (implicitDefEqProofs := false) [e1, u, z2, z3]⟩
theorem in_7 {g t : Int} (h : Tape d) : ∃ (l : List (Str × Str × Int)) (d' : D), l ∈ chsL g t ∧ Tape d' ∧ setM 7 (binM ixD (.ex (lstM [(varM 6), (sliceM (.sl 6) none (some (.ex (constM (.int 1))))), (varM 6), (unM revT (.sl 6)), (tupM []), (binM addD (.sl 6) (.ex (sliceM (.sl 6) (some (.ex (constM (.int 1)))) none)))])) (.ex (binM divD (.ex (callM (sem (k + 1) 8) [.sl 0, .ex (constM (.int 15))])) (.ex (constM (.int 3)))))) [some (.io, d), a1, a2, a3, a4, a5, some (.sh, .tup [triD ("go", "n", g), triD ("no", "n", t)]), none, a8, a9] =
    .ok .nx [some (.io, d'), a1, a2, a3, a4, a5, some (.sh, .tup [triD ("go", "n", g), triD ("no", "n", t)]), some (.sh, .tup (l.map triD)), a8, a9] := by
  obtain ⟨r1, d1, x1, y1, t1, e1⟩ := take (k := k) (m := 15) h (by decide) (by decide)
  have u := tape_ul h
  have ed := div_ok (r := r1) (q := 3) (by decide) (by decide)
  obtain ⟨l, hn, p1⟩ := pick (f := fun l : List (Str × Str × Int) => D.tup (l.map triD)) (xs := chsL g t) (r := r1 / 3) (by omega) (by show r1 / 3 < 6; omega)
  unfold chsL at p1
  simp only [List.map_cons, List.map_nil] at p1
  generalize triD ("go", "n", g) = A at *
  generalize triD ("no", "n", t) = B at *
  have s1 : sliceD none (some 1) (.tup [A, B]) = some (false, .tup [A]) := rfl
  have s2 : sliceD (some 1) none (.tup [A, B]) = some (false, .tup [B]) := rfl
  have z0 : (0 : Nat) ≤ sizeLine := by decide
  have z3 : (3 : Nat) ≤ sizeLine := by decide
  have z6 : (6 : Nat) ≤ sizeLine := by decide
  generalize hLD : D.tup (l.map triD) = LD at p1
  exact ⟨l, d1, hn, t1, by simp (implicitDefEqProofs := false) [-v_ixL, -v_int, e1, u, p1, z0, z3, z6, ed, s1, s2, hLD]⟩
end
end K24

namespace K24
open PySem PySem.Spec PyProof.Rows L2 PV
noncomputable def inM (k : Nat) : M Fl := (seqM (setM 9 (lstM [(tupM [(constM (.str "push")), (varM 4)]), (tupM [(constM (.str "load")), (varM 3)]), (tupM [(constM (.str "store")), (varM 3)]), (tupM [(constM (.str "add"))]), (tupM [(constM (.str "less"))]), (tupM [(constM (.str "jump")), (varM 2)]), (tupM [(constM (.str "zero")), (varM 2)])]))
    (seqM (setM 9 (binM addD (.sl 9) (.ex (lstM [(tupM [(constM (.str "emit")), (varM 5), (constM (.str "go"))]), (tupM [(constM (.str "wait")), (varM 5), (varM 7)]), (tupM [(constM (.str "input")), (varM 3)]), (tupM [(constM (.str "round")), (constM (.int 3)), (varM 2)]), (tupM [(constM (.str "yes")), (constM (.int 3))]), (tupM [(constM (.str "no")), (constM (.int 3))])]))))
    (seqM (setM 9 (binM addD (.sl 9) (.ex (lstM [(tupM [(constM (.str "test")), (varM 8)]), (tupM [(constM (.str "stop"))]), (tupM [(constM (.str "push")), (constM (.int 1))]), (tupM [(constM (.str "store")), (varM 3)]), (tupM [(constM (.str "stop"))]), (tupM [(constM (.str "fly"))]), (tupM [(constM (.str "push"))])]))))
    (retM (binM ixD (.sl 9) (.ex (callM (sem k 8) [.sl 0, .ex (constM (.int 20))])))))))
section
variable {k : Nat} {d : D} {m : Int} {a1 a6 : Slot}
theorem in_m {g nb : Int} {nm e w : Str} {l : List (Str × Str × Int)} (h : Tape d) : ∃ (x : Ins) (d' : D) (s : S), x ∈ menuF nm nb g e l w ∧ Tape d' ∧ inM (k + 1) [some (.io, d), a1, some (.sh, .int g), some (.sh, .str nm), some (.sh, .int nb), some (.sh, .str e), a6, some (.sh, .tup (l.map triD)), some (.sh, .str w), none] =
    .ok (.rt false (insD x)) (some (.io, d') :: s) := by
  obtain ⟨r2, d2, x2, y2, t2, e2⟩ := take (k := k) (m := 20) h (by decide) (by decide)
  have u := tape_ul h
  obtain ⟨x, hx, p2⟩ := pick (f := insD) (xs := menuF nm nb g e l w) (r := r2) x2 (by show r2 < ((20 : Nat) : Int); exact y2)
  have z1 : (1 : Nat) ≤ sizeLine := by decide
  have z2 : (2 : Nat) ≤ sizeLine := by decide
  have z3 : (3 : Nat) ≤ sizeLine := by decide
  have z6 : (6 : Nat) ≤ sizeLine := by decide
  have z7 : (7 : Nat) ≤ sizeLine := by decide
  have z13 : (13 : Nat) ≤ sizeLine := by decide
  have z20 : (20 : Nat) ≤ sizeLine := by decide
  have em : (menuF nm nb g e l w).map insD = [.tup [.str "push", .int nb], .tup [.str "load", .str nm], .tup [.str "store", .str nm], .tup [.str "add"], .tup [.str "less"], .tup [.str "jump", .int g], .tup [.str "zero", .int g],
     .tup [.str "emit", .str e, .str "go"], .tup [.str "wait", .str e, .tup (l.map triD)], .tup [.str "input", .str nm], .tup [.str "round", .int 3, .int g], .tup [.str "yes", .int 3], .tup [.str "no", .int 3],
     .tup [.str "test", .str w], .tup [.str "stop"], .tup [.str "push", .int 1], .tup [.str "store", .str nm], .tup [.str "stop"], .tup [.str "fly"], .tup [.str "push"]] := rfl
  rw [em] at p2
  refine ⟨x, d2, [a1, some (.sh, .int g), some (.sh, .str nm), some (.sh, .int nb), some (.sh, .str e), a6, some (.sh, .tup (l.map triD)), some (.sh, .str w), some (.ow, .lst ((menuF nm nb g e l w).map insD))], hx, t2, ?_⟩
  rw [em]
  generalize insD x = X at *
  generalize D.tup (l.map triD) = C at *
  unfold inM
  simp (implicitDefEqProofs := false) [-v_ixL, e2, u, p2, z1, z2, z3, z6, z7, z13, z20]
theorem instr (h : Tape d) (h0 : 0 < m) (h1 : m < 1000) : ∃ (x : Ins) (d' : D), InsK x ∧ Tape d' ∧ sem (k + 2) 16 [d, .int m] = .ret false (insD x) [d'] := by
  obtain ⟨g, d1, t1, e1⟩ := in_2 (k := k) (a3 := none) (a4 := none) (a5 := none) (a6 := none) (a7 := none) (a8 := none) (a9 := none) h h0 h1
  obtain ⟨nm, d2, hn, t2, e2⟩ := in_3 (k := k) (a1 := some (.sh, .int m)) (a2 := some (.sh, .int g)) (a4 := none) (a5 := none) (a6 := none) (a7 := none) (a8 := none) (a9 := none) t1
  obtain ⟨nb, d3, t3, e3⟩ := in_4 (k := k) (a1 := some (.sh, .int m)) (a2 := some (.sh, .int g)) (a3 := some (.sh, .str nm)) (a5 := none) (a6 := none) (a7 := none) (a8 := none) (a9 := none) t2
  obtain ⟨e, d4, he, t4, e4⟩ := in_5 (k := k) (a1 := some (.sh, .int m)) (a2 := some (.sh, .int g)) (a3 := some (.sh, .str nm)) (a4 := some (.sh, .int nb)) (a6 := none) (a7 := none) (a8 := none) (a9 := none) t3
  obtain ⟨t, d5, t5, e5⟩ := in_6 (k := k) (g := g) (a3 := some (.sh, .str nm)) (a4 := some (.sh, .int nb)) (a5 := some (.sh, .str e)) (a7 := none) (a8 := none) (a9 := none) t4 h0 h1
  obtain ⟨l, d6, hl, t6, e6⟩ := in_7 (k := k) (g := g) (t := t) (a1 := some (.sh, .int m)) (a2 := some (.sh, .int g)) (a3 := some (.sh, .str nm)) (a4 := some (.sh, .int nb)) (a5 := some (.sh, .str e)) (a8 := none) (a9 := none) t5
  obtain ⟨w, d7, hw, t7, e7⟩ := in_8 (k := k) (a1 := some (.sh, .int m)) (a2 := some (.sh, .int g)) (a3 := some (.sh, .str nm)) (a4 := some (.sh, .int nb)) (a5 := some (.sh, .str e)) (a6 := some (.sh, .tup [triD ("go", "n", g), triD ("no", "n", t)])) (a7 := some (.sh, .tup (l.map triD))) (a9 := none) t6
  obtain ⟨x, d8, s, hx, t8, e8⟩ := in_m (k := k) (g := g) (nb := nb) (nm := nm) (e := e) (w := w) (l := l) (a1 := some (.sh, .int m)) (a6 := some (.sh, .tup [triD ("go", "n", g), triD ("no", "n", t)])) t7
  have on : okS nm = true := okW (by unfold namesL at hn; simp at hn; rcases hn with rfl | rfl <;> simp)
  have oe : okS e = true := okW (by unfold endsL at he; simp at he; rcases he with rfl | rfl | rfl <;> simp)
  have ow : okS w = true := okW (by unfold wordsL at hw; simp at hw; rcases hw with rfl | rfl | rfl <;> simp)
  refine ⟨x, d8, ok_menu on oe (ok_chs l hl) ow x hx, t8, ?_⟩
  rw [se16]
  refine runF_rt (s := some (.io, d8) :: s) ?_ rfl rfl
  rw [show initS [0] 10 [d, .int m] = [some (.io, d), some (.sh, .int m), none, none, none, none, none, none, none, none] from rfl]
  unfold b16
  rw [ev_seq, e1, Res.bind_ok]
  show seqM _ _ _ = _
  rw [ev_seq, e2, Res.bind_ok]
  show seqM _ _ _ = _
  rw [ev_seq, e3, Res.bind_ok]
  show seqM _ _ _ = _
  rw [ev_seq, e4, Res.bind_ok]
  show seqM _ _ _ = _
  rw [ev_seq, e5, Res.bind_ok]
  show seqM _ _ _ = _
  rw [ev_seq, e6, Res.bind_ok]
  show seqM _ _ _ = _
  rw [ev_seq, e7, Res.bind_ok]
  exact e8
/-! ### _law_pattern -/
theorem ok_pat {x : Ins} {g a : Int} (h : x ∈ ([("push", [.n 1]), ("store", [.s "n"]), ("load", [.s "n"]), ("push", [.n 2]), ("sub", []), ("emit", [.s "b", .s "go"]), ("round", [.n 3, .n g]), ("zero", [.n g]), ("yes", [.n 3]), ("input", [.s "m"]), ("jump", [.n g]), ("wait", [.s "a", .c [("go", "n", g), ("no", "m", a)]])] : List Ins)) : InsK x := by
  have hgo : okS "go" = true := okW (by simp)
  have hno : okS "no" = true := okW (by simp)
  have hn : okS "n" = true := okW (by simp)
  have hm : okS "m" = true := okW (by simp)
  have ha : okS "a" = true := okW (by simp)
  have hb : okS "b" = true := okW (by simp)
  simp only [List.mem_cons, List.not_mem_nil, or_false] at h
  rcases h with rfl | rfl | rfl | rfl | rfl | rfl | rfl | rfl | rfl | rfl | rfl | rfl <;>
    refine k_ins (okW (by simp)) (fun p hp => ?_) (by simp) <;> simp only [List.mem_cons, List.not_mem_nil, or_false] at hp
  · subst hp; trivial
  · subst hp; exact hn
  · subst hp; exact hn
  · subst hp; trivial
  · rcases hp with rfl | rfl
    · exact hb
    · exact hgo
  · rcases hp with rfl | rfl <;> trivial
  · subst hp; trivial
  · subst hp; trivial
  · subst hp; exact hm
  · subst hp; trivial
  · rcases hp with rfl | rfl
    · exact ha
    · refine ⟨by simp, fun t ht => ?_⟩
      simp only [List.mem_cons, List.not_mem_nil, or_false] at ht
      rcases ht with rfl | rfl <;> simp [hgo, hno, hn, hm]
theorem pattern {a : Int} (h : Tape d) (h0 : 0 < m) (h1 : m < 1000) : ∃ (xs : List Ins) (d' : D), (∀ x, x ∈ xs → InsK x) ∧ xs.length ≤ 4 ∧ 0 < xs.length ∧ Tape d' ∧ sem (k + 3) 17 [d, .int a, .int m] = .ret true (.lst (xs.map insD)) [d'] := by
  obtain ⟨c, d1, c0, c1, t1, e1⟩ := take (k := k + 1) (m := 6) h (by decide) (by decide)
  obtain ⟨g, d2, _, _, t2, e2⟩ := take (k := k + 1) (m := m) t1 h0 (by omega)
  have u := tape_ul h
  have u1 := tape_ul t1
  have u2 := tape_ul t2
  have z1 : (1 : Nat) ≤ sizeLine := by decide
  have z2 : (2 : Nat) ≤ sizeLine := by decide
  have z3 : (3 : Nat) ≤ sizeLine := by decide
  have z4 : (4 : Nat) ≤ sizeLine := by decide
  rw [se17]
  rw [show runF [0] 3 5 (b17 (sem (k + 2))) [d, .int a, .int m] = runF [0] 3 5 (b17 (sem (k + 2))) [d, .int a, .int m] from rfl]
  have ei : initS [0] 5 [d, .int a, .int m] = [some (.io, d), some (.sh, .int a), some (.sh, .int m), none, none] := rfl
  have hc : c = 0 ∨ c = 1 ∨ c = 2 ∨ c = 3 ∨ c = 4 ∨ c = 5 := by omega
  rcases hc with rfl | rfl | rfl | rfl | rfl | rfl
  · refine ⟨[("push", [.n 1]), ("store", [.s "n"])], d2, fun x hx => ok_pat (g := g) (a := a) (by simp at hx ⊢; rcases hx with rfl | rfl <;> simp), by simp, by simp, t2, ?_⟩
    refine runF_rt (s := [some (.io, d2), some (.sh, .int a), some (.sh, .int m), some (.sh, .int 0), some (.sh, .int g)]) ?_ rfl rfl
    rw [ei]
    unfold b17
    simp (implicitDefEqProofs := false) [e1, e2, u, u1, z1, z2, z3, z4, insD, Pt.d]
  · refine ⟨[("load", [.s "n"]), ("push", [.n 2]), ("sub", []), ("emit", [.s "b", .s "go"])], d2, fun x hx => ok_pat (g := g) (a := a) (by simp at hx ⊢; rcases hx with rfl | rfl | rfl | rfl <;> simp), by simp, by simp, t2, ?_⟩
    refine runF_rt (s := [some (.io, d2), some (.sh, .int a), some (.sh, .int m), some (.sh, .int 1), some (.sh, .int g)]) ?_ rfl rfl
    rw [ei]
    unfold b17
    simp (implicitDefEqProofs := false) [e1, e2, u, u1, z1, z2, z3, z4, insD, Pt.d]
  · refine ⟨[("round", [.n 3, .n g]), ("load", [.s "n"]), ("zero", [.n g]), ("yes", [.n 3])], d2, fun x hx => ok_pat (g := g) (a := a) (by simp at hx ⊢; rcases hx with rfl | rfl | rfl | rfl <;> simp), by simp, by simp, t2, ?_⟩
    refine runF_rt (s := [some (.io, d2), some (.sh, .int a), some (.sh, .int m), some (.sh, .int 2), some (.sh, .int g)]) ?_ rfl rfl
    rw [ei]
    unfold b17
    simp (implicitDefEqProofs := false) [e1, e2, u, u1, z1, z2, z3, z4, insD, Pt.d]
  · refine ⟨[("input", [.s "m"]), ("jump", [.n g])], d2, fun x hx => ok_pat (g := g) (a := a) (by simp at hx ⊢; rcases hx with rfl | rfl <;> simp), by simp, by simp, t2, ?_⟩
    refine runF_rt (s := [some (.io, d2), some (.sh, .int a), some (.sh, .int m), some (.sh, .int 3), some (.sh, .int g)]) ?_ rfl rfl
    rw [ei]
    unfold b17
    simp (implicitDefEqProofs := false) [e1, e2, u, u1, z1, z2, z3, z4, insD, Pt.d]
  · refine ⟨[("wait", [.s "a", .c [("go", "n", g), ("no", "m", a)]])], d2, fun x hx => ok_pat (g := g) (a := a) (by simp at hx ⊢; subst hx; simp), by simp, by simp, t2, ?_⟩
    refine runF_rt (s := [some (.io, d2), some (.sh, .int a), some (.sh, .int m), some (.sh, .int 4), some (.sh, .int g)]) ?_ rfl rfl
    rw [ei]
    unfold b17
    simp (implicitDefEqProofs := false) [e1, e2, u, u1, z1, z2, z3, z4, insD, Pt.d, triD]
  · obtain ⟨x, d3, hx, t3, e3⟩ := instr (k := k) t2 h0 h1
    refine ⟨[x], d3, fun y hy => by rw [List.mem_singleton.mp hy]; exact hx, by simp, by simp, t3, ?_⟩
    refine runF_rt (s := [some (.io, d3), some (.sh, .int a), some (.sh, .int m), some (.sh, .int 5), some (.sh, .int g)]) ?_ rfl rfl
    rw [ei]
    unfold b17
    rw [List.map_cons, List.map_nil]
    generalize insD x = X at *
    simp (implicitDefEqProofs := false) [e1, e2, e3, u, u1, u2, z1, z2, z3, z4]
end
end K24

namespace K24
open PySem PySem.Spec PyProof.Rows L2 PV
noncomputable def cwB (k : Nat) : M Fl := (iteM (truB (binM gtD (.ex (callM (sem k 8) [.sl 1, .ex (constM (.int 4))])) (.ex (constM (.int 0))))) (setM 4 (binM addD (.sl 4) (.ex (callM (sem k 17) [.sl 1, .ex (unM lenD (.sl 4)), .ex (varM 3)])))) (dropM (growM appD 4 (callM (sem k 16) [.sl 1, .ex (varM 3)]))))
noncomputable def cwC : M Bool := (truB (binM ltD (.ex (unM lenD (.sl 4))) (.sl 3)))
section
variable {k : Nat} {d : D} {x0 x2 : Slot}
theorem len_code {c : List Ins} : lenD (.lst (c.map insD)) = some (false, .int c.length) := by
  show some (false, D.int ((List.length (c.map insD) : Nat) : Int)) = _
  rw [List.length_map]
theorem cw_c {m : Nat} {is : List Ins} : cwC [x0, some (.ow, d), x2, some (.sh, .int m), some (.ow, .lst (is.map insD))] = .ok (decide (is.length < m)) [x0, some (.ow, d), x2, some (.sh, .int m), some (.ow, .lst (is.map insD))] := by
  have e : decide ((is.length : Int) < (m : Int)) = decide (is.length < m) := by
    rw [Bool.eq_iff_iff, decide_eq_true_iff, decide_eq_true_iff]
    omega
  have el := len_code (c := is)
  have eo : ltD (.int (is.length : Int)) (.int (m : Int)) = some (false, .bl (decide (is.length < m))) := by
    show some (false, D.bl (decide ((is.length : Int) < (m : Int)))) = _
    rw [e]
  unfold cwC
  generalize decide (is.length < m) = q at *
  generalize (is.length : Int) = N at *
  generalize is.map insD = ds at *
  simp (implicitDefEqProofs := false) [-v_ordI, -v_lenL, el, eo]
theorem cw_turn {m : Nat} {is : List Ins} (h : Tape d) (h0 : 0 < m) (h1 : m ≤ 12) (hz : is.length ≤ 12) (hk : ∀ x, x ∈ is → InsK x) : ∃ (xs : List Ins) (d' : D), (∀ x, x ∈ xs → InsK x) ∧ xs.length ≤ 4 ∧ 0 < xs.length ∧ Tape d' ∧
    cwB (k + 3) [x0, some (.ow, d), x2, some (.sh, .int m), some (.ow, .lst (is.map insD))] = .ok .nx [x0, some (.ow, d'), x2, some (.sh, .int m), some (.ow, .lst ((is ++ xs).map insD))] := by
  obtain ⟨r, d1, _, _, t1, e1⟩ := take (k := k + 2) (m := 4) h (by decide) (by decide)
  have u := tape_ul h
  have u1 := tape_ul t1
  have el := len_code (c := is)
  by_cases q : 0 < r
  · obtain ⟨xs, d2, g1, g2, g3, t2, e2⟩ := pattern (k := k) (a := (is.length : Int)) (m := (m : Int)) t1 (by omega) (by omega)
    refine ⟨xs, d2, g1, g2, g3, t2, ?_⟩
    have hs : (is.map insD).length + (xs.map insD).length ≤ sizeLine := by rw [List.length_map, List.length_map, sizeLine_eq]; omega
    rw [List.map_append]
    unfold cwB
    generalize (is.length : Int) = N at *
    generalize is.map insD = ds at *
    generalize xs.map insD = es at *
    simp (implicitDefEqProofs := false) [-v_lenL, e1, e2, u, u1, q, el, hs]
  · obtain ⟨x, d2, g1, t2, e2⟩ := instr (k := k + 1) (m := (m : Int)) t1 (by omega) (by omega)
    refine ⟨[x], d2, fun y hy => by rw [List.mem_singleton.mp hy]; exact g1, by simp, by simp, t2, ?_⟩
    have hs : (is.map insD).length < sizeLine := by rw [List.length_map, sizeLine_eq]; omega
    rw [List.map_append, List.map_cons, List.map_nil]
    unfold cwB
    generalize is.map insD = ds at *
    generalize insD x = X at *
    simp (implicitDefEqProofs := false) [-v_lenL, e1, e2, u, u1, q, hs]
theorem cw_loop {m : Nat} (h0 : 0 < m) (h1 : m ≤ 12) : ∀ (n : Nat) (is : List Ins) (d : D), m - is.length = n → Tape d → (∀ x, x ∈ is → InsK x) → is.length ≤ 15 → ∃ (js : List Ins) (d' : D), (∀ x, x ∈ js → InsK x) ∧ m ≤ js.length ∧ js.length ≤ 15 ∧ Tape d' ∧
    whileM cwC (cwB (k + 3)) [x0, some (.ow, d), x2, some (.sh, .int m), some (.ow, .lst (is.map insD))] = .ok .nx [x0, some (.ow, d'), x2, some (.sh, .int m), some (.ow, .lst (js.map insD))] := by
  intro n
  induction n using Nat.strongRecOn with
  | ind n ih =>
    intro is d en t hk hz
    by_cases hlt : is.length < m
    · obtain ⟨xs, d1, g1, g2, g3, t1, e1⟩ := cw_turn (k := k) (x0 := x0) (x2 := x2) t h0 h1 (by omega) hk
      obtain ⟨js, d2, k1, k2, k3, t2, e2⟩ := ih (m - (is ++ xs).length) (by rw [List.length_append]; omega) (is ++ xs) d1 rfl t1 (fun x hx => (List.mem_append.mp hx).elim (hk x) (g1 x)) (by rw [List.length_append]; omega)
      refine ⟨js, d2, k1, k2, k3, t2, ?_⟩
      rw [whileM_eq]
      unfold wstep
      rw [cw_c, Res.bind_ok, decide_eq_true hlt, if_pos rfl, e1]
      exact e2
    · refine ⟨is, d, hk, by omega, hz, t, ?_⟩
      rw [whileM_eq]
      unfold wstep
      rw [cw_c, Res.bind_ok, decide_eq_false hlt]
      rfl
theorem cut_last {ds : List D} (h : 0 < ds.length) : sliceD none (some (-1)) (.tup ds) = some (false, .tup (ds.take (ds.length - 1))) := by
  have hx : HT.sIx ds.length ds.length (some (-1)) = ds.length - 1 := by
    have := HT.clip_eq (-1) ds.length ds.length
    rw [if_pos (by decide)] at this
    omega
  have e : cutL ds none (some (-1)) = ds.take (ds.length - 1) := by
    unfold cutL
    rw [HT.sIx_none, hx, List.drop_zero, Nat.sub_zero]
  show some (false, D.tup (cutL ds none (some (-1)))) = _
  rw [e]
end
theorem same {k n : Nat} {d : D} (h : pl n d = true) (hk : 2 * n + 1 ≤ k) : sem k 11 [d, d] = .ret false (.bl true) [] := same_refl (sm := fun k => sem k 11) (it := fun k => sem k 10) (ii := fun k => sem k 9) (fun k => se11 k) (fun k => se10 k) (fun k => se9 k) n k d h hk
end K24

namespace K24
open PySem PySem.Spec PyProof.Rows L2 PV
noncomputable def rdA (k : Nat) : M Fl := (setM 3 (binM addD (.ex (constM (.int 2))) (.ex (callM (sem k 8) [.sl 1, .ex (constM (.int 11))]))))
noncomputable def rdD : M Fl := (setM 4 (unM toTup (.ex (sliceM (.sl 4) none (some (.sl 3))))))
noncomputable def rdE (k : Nat) : M Fl := (iteM (truB (binM gtD (.ex (callM (sem k 8) [.sl 1, .ex (constM (.int 3))])) (.ex (constM (.int 0))))) (setM 4 (binM addD (.ex (sliceM (.sl 4) none (some (.ex (negM (.ex (constM (.int 1)))))))) (.ex (tupM [(tupM [(constM (.str "stop"))])])))) nxM)
noncomputable def rdF (k : Nat) : M Fl := (iteM (notM (truM (.ex (callM (sem k 11) [.ex (callM (sem k 6) [.ex (tupM [(constM (.str "a")), (constM (.str "b"))]), .ex (varM 4)]), .ex (callM (sem k 15) [.ex (tupM [(constM (.str "a")), (constM (.str "b"))]), .ex (varM 4)])])))) (retM (constM (.bl false))) nxM)
noncomputable def rdB (k : Nat) : M Fl := (seqM (rdA k) (seqM (setM 4 (lstM [])) (seqM (whileM cwC (cwB k)) (seqM rdD (seqM (rdE k) (rdF k))))))
section
variable {k : Nat} {d : D} {x0 x2 x3 x4 : Slot}
theorem pu5_3 {a0 a1 a2 a4 x : Slot} {o : Own} {d : D} (h : fre x = true) : putS [a0, a1, a2, x, a4] 3 o d = some [a0, a1, a2, some (o, d), a4] := by
  match x, h with
  | none, _ => rfl
  | some (.sh, _), _ => rfl
theorem pu5_4 {a0 a1 a2 a3 x : Slot} {o : Own} {d : D} (h : fre x = true) : putS [a0, a1, a2, a3, x] 4 o d = some [a0, a1, a2, a3, some (o, d)] := by
  match x, h with
  | none, _ => rfl
  | some (.sh, _), _ => rfl
theorem rd_a (h : Tape d) (h3 : fre x3 = true) : ∃ (m : Nat) (d' : D), 2 ≤ m ∧ m ≤ 12 ∧ Tape d' ∧ rdA (k + 1) [x0, some (.ow, d), x2, x3, x4] = .ok .nx [x0, some (.ow, d'), x2, some (.sh, .int m), x4] := by
  obtain ⟨r, d1, r0, r1, t1, e1⟩ := take (k := k) (m := 11) h (by decide) (by decide)
  obtain ⟨n, rfl⟩ := Int.eq_ofNat_of_zero_le r0
  have u := tape_ul h
  have e2 : (2 : Int) + (n : Int) = ((2 + n : Nat) : Int) := by omega
  refine ⟨2 + n, d1, by omega, by omega, t1, ?_⟩
  rw [← e2]
  unfold rdA
  simp (implicitDefEqProofs := false) [-ev_putS, pu5_3, h3, e1, u]
theorem rd_b (h4 : fre x4 = true) : setM 4 (lstM []) [x0, some (.ow, d), x2, x3, x4] = .ok .nx [x0, some (.ow, d), x2, x3, some (.ow, .lst [])] := by
  have z0 : (0 : Nat) ≤ sizeLine := by decide
  simp (implicitDefEqProofs := false) [-ev_putS, pu5_4, h4, z0]
theorem rd_d {m : Nat} {js : List Ins} (h : m ≤ js.length) : rdD [x0, some (.ow, d), x2, some (.sh, .int m), some (.ow, .lst (js.map insD))] = .ok .nx [x0, some (.ow, d), x2, some (.sh, .int m), some (.sh, codeD (js.take m))] := by
  have e1 := slice_to (ds := js.map insD) (j := m) (by rw [List.length_map]; exact h)
  have e2 : codeD (js.take m) = .tup ((js.map insD).take m) := by unfold codeD; rw [List.map_take]
  rw [e2]
  unfold rdD
  generalize (js.map insD).take m = ts at *
  generalize js.map insD = ds at *
  simp (implicitDefEqProofs := false) [e1, toTup]
theorem rd_e {m : Int} {cs : List Ins} (h : Tape d) (hk : ∀ x, x ∈ cs → InsK x) (h0 : 0 < cs.length) (h1 : cs.length ≤ 12) : ∃ (cs' : List Ins) (d' : D), (∀ x, x ∈ cs' → InsK x) ∧ cs'.length ≤ 12 ∧ Tape d' ∧
    rdE (k + 1) [x0, some (.ow, d), x2, some (.sh, .int m), some (.sh, codeD cs)] = .ok .nx [x0, some (.ow, d'), x2, some (.sh, .int m), some (.sh, codeD cs')] := by
  obtain ⟨r, d1, r0, r1, t1, e1⟩ := take (k := k) (m := 3) h (by decide) (by decide)
  have u := tape_ul h
  have z1 : (1 : Nat) ≤ sizeLine := by decide
  by_cases q : 0 < r
  · have ec := cut_last (ds := cs.map insD) (by rw [List.length_map]; exact h0)
    rw [← List.map_take] at ec
    have hs : (((cs.take ((cs.map insD).length - 1)).map insD).length + 1) ≤ sizeLine := by rw [List.length_map, List.length_take, sizeLine_eq]; omega
    have hst : InsK ("stop", []) := k_ins (okW (by simp)) (by simp) (by simp)
    refine ⟨cs.take ((cs.map insD).length - 1) ++ [(("stop", []) : Ins)], d1, fun x hx => ?_, by rw [List.length_append, List.length_take, List.length_map]; simp only [List.length_cons, List.length_nil]; omega, t1, ?_⟩
    · rcases List.mem_append.mp hx with hx | hx
      · exact hk x (List.mem_of_mem_take hx)
      · rw [List.mem_singleton.mp hx]; exact hst
    · have ecd : codeD (cs.take ((cs.map insD).length - 1) ++ [(("stop", []) : Ins)]) = .tup ((cs.take ((cs.map insD).length - 1)).map insD ++ [.tup [.str "stop"]]) := by
        unfold codeD
        rw [List.map_append]
        rfl
      rw [ecd]
      have ecd2 : codeD cs = .tup (cs.map insD) := rfl
      rw [← ecd2] at ec
      unfold rdE
      generalize (cs.take ((cs.map insD).length - 1)).map insD = ts at *
      generalize codeD cs = CD at *
      simp (implicitDefEqProofs := false) [e1, u, q, ec, z1, hs]
  · refine ⟨cs, d1, hk, h1, t1, ?_⟩
    unfold rdE
    generalize codeD cs = CD at *
    simp (implicitDefEqProofs := false) [e1, u, q]
theorem rd_f {cs : List Ins} (hk : ∀ x, x ∈ cs → InsK x) (h1 : cs.length ≤ 12) : rdF (k + 4) [x0, some (.ow, d), x2, x3, some (.sh, codeD cs)] = .ok .nx [x0, some (.ow, d), x2, x3, some (.sh, codeD cs)] := by
  obtain ⟨B, e1, e2⟩ := both (k := k) (es := ["a", "b"]) hk (by omega)
  have e3 := same (k := k + 4) (n := 1) (d := .bl B) rfl (by omega)
  have z2 : (2 : Nat) ≤ sizeLine := by decide
  have e1 : sem (k + 4) 6 [.tup [.str "a", .str "b"], codeD cs] = .ret false (.bl B) [] := e1
  have e2 : sem (k + 4) 15 [.tup [.str "a", .str "b"], codeD cs] = .ret false (.bl B) [] := e2
  unfold rdF
  generalize codeD cs = CD at *
  simp (implicitDefEqProofs := false) [e1, e2, e3, z2]
theorem round (h : Tape d) (h3 : fre x3 = true) (h4 : fre x4 = true) : ∃ (d' : D) (y3 y4 : Slot), Tape d' ∧ fre y3 = true ∧ fre y4 = true ∧ rdB (k + 4) [x0, some (.ow, d), x2, x3, x4] = .ok .nx [x0, some (.ow, d'), x2, y3, y4] := by
  obtain ⟨m, d1, m1, m2, t1, e1⟩ := rd_a (k := k + 3) (x0 := x0) (x2 := x2) (x4 := x4) h h3
  obtain ⟨js, d2, hk, j1, j2, t2, e2⟩ := cw_loop (k := k + 1) (x0 := x0) (x2 := x2) (m := m) (by omega) m2 _ [] d1 rfl t1 (by simp) (by simp)
  have hk2 : ∀ x, x ∈ js.take m → InsK x := fun x hx => hk x (List.mem_of_mem_take hx)
  have hl : (js.take m).length = m := by rw [List.length_take]; omega
  obtain ⟨cs, d3, hk3, c1, t3, e3⟩ := rd_e (k := k + 3) (x0 := x0) (x2 := x2) (m := (m : Int)) t2 hk2 (by omega) (by omega)
  refine ⟨d3, some (.sh, .int m), some (.sh, codeD cs), t3, rfl, rfl, ?_⟩
  unfold rdB
  rw [ev_seq, e1, Res.bind_ok]
  show seqM _ _ _ = _
  rw [ev_seq, rd_b h4, Res.bind_ok]
  show seqM _ _ _ = _
  rw [ev_seq]
  have e2 : whileM cwC (cwB (k + 4)) [x0, some (.ow, d1), x2, some (.sh, .int m), some (.ow, .lst [])] = _ := e2
  rw [e2, Res.bind_ok]
  show seqM _ _ _ = _
  rw [ev_seq, rd_d j1, Res.bind_ok]
  show seqM _ _ _ = _
  rw [ev_seq, e3, Res.bind_ok]
  exact rd_f hk3 c1
theorem law (ns : List Int) (h : ns.length ≤ 63) : ∃ fr, sem 13 18 [.fro (ns.map .int)] = .ret fr (.bl true) [] := by
  obtain ⟨d, t, e⟩ := tape_run ns h
  have e0 : sem 12 7 [.fro (ns.map .int)] = .ret true d [] := e
  obtain ⟨d1, y3, y4, t1, f3, f4, q1⟩ := round (k := 8) (x0 := some (.sh, .fro (ns.map .int))) (x2 := some (.sh, .int 0)) (x3 := none) (x4 := none) t rfl rfl
  obtain ⟨d2, z3, z4, t2, g3, g4, q2⟩ := round (k := 8) (x0 := some (.sh, .fro (ns.map .int))) (x2 := some (.sh, .int 1)) t1 f3 f4
  obtain ⟨d3, u3, u4, t3, k3, k4, q3⟩ := round (k := 8) (x0 := some (.sh, .fro (ns.map .int))) (x2 := some (.sh, .int 2)) t2 g3 g4
  obtain ⟨d4, v3, v4, t4, l3, l4, q4⟩ := round (k := 8) (x0 := some (.sh, .fro (ns.map .int))) (x2 := some (.sh, .int 3)) t3 k3 k4
  have hr : rngD (.int 4) = some [.int 0, .int 1, .int 2, .int 3] := by
    rw [rng_int (by decide) (by decide)]; rfl
  have pn : ∀ {x2 : Slot} {d : D} {y3 y4 : Slot} {j : Int}, fre x2 = true → (Tg.nm 2).put (.int j) [some (.sh, .fro (ns.map .int)), some (.ow, d), x2, y3, y4] = some [some (.sh, .fro (ns.map .int)), some (.ow, d), some (.sh, .int j), y3, y4] := fun hx => by
    rename_i x2 _ _ _ _
    rw [put_fre (x := x2) rfl hx]; rfl
  have hloop : forL (.nm 2) (rdB 12) [.int 0, .int 1, .int 2, .int 3] [some (.sh, .fro (ns.map .int)), some (.ow, d), none, none, none] = .ok .nx [some (.sh, .fro (ns.map .int)), some (.ow, d4), some (.sh, .int 3), v3, v4] := by
    rw [ev_for1, pn rfl]
    dsimp only
    rw [q1, Res.bind_ok]
    dsimp only
    rw [ev_for1, pn rfl]
    dsimp only
    rw [q2, Res.bind_ok]
    dsimp only
    rw [ev_for1, pn rfl]
    dsimp only
    rw [q3, Res.bind_ok]
    dsimp only
    rw [ev_for1, pn rfl]
    dsimp only
    rw [q4, Res.bind_ok]
    rfl
  have es : sem 12 6 [.tup [.str "a"], .tup []] = .ret false (.bl false) [] := sound_false (k := 8) (es := ["a"]) (c := []) (by simp) (by simp) (.inl rfl)
  refine ⟨false, ?_⟩
  rw [se18]
  refine runF_rt (s := [some (.sh, .fro (ns.map .int)), some (.ow, d4), some (.sh, .int 3), v3, v4]) ?_ rfl rfl
  rw [show initS [] 5 [.fro (ns.map .int)] = [some (.sh, .fro (ns.map .int)), none, none, none, none] from rfl]
  have eb : b18 (sem 12) = (seqM (setM 1 (callM (sem 12 7) [.ex (varM 0)]))
    (seqM (forM (rng1M (constM (.int 4))) (.nm 2) (rdB 12))
    (retM (binM (isBD false) (.ex (callM (sem 12 6) [.ex (tupM [(constM (.str "a"))]), .ex (tupM [])])) (.ex (constM (.bl false))))))) := rfl
  rw [eb]
  generalize rdB 12 = RB at hloop ⊢
  have z0 : (0 : Nat) ≤ sizeLine := by decide
  have z1 : (1 : Nat) ≤ sizeLine := by decide
  generalize D.fro (ns.map .int) = N at *
  simp (implicitDefEqProofs := false) [e0, hr, hloop, z0, z1, es]
end
end K24
theorem PySem.Challenge.cw_onescore_k24_sound_code_holds : PySem.Challenge.rw_onescore_k24_sound_code.Holds := by
  exact K24.holds_of 12 ⟨rfl, by decide, by decide⟩ fun ns h _ => K24.law ns h
